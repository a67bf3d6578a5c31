import PyProof.Rows.All
import Wide.All
import OpenK.AllK
import Wide.FinOn
import PyProof.WalksEnum
import KE.KSuper
import KE.KRevIter
import KE.KLcPair
import KE.KDictOf
import PySem.Challenge.RW_qz0018_01
open PySem PySem.W PyProof.Rows PySem.Calls PySem.Spec
set_option Elab.async false
set_option maxRecDepth 20000
set_option linter.unusedVariables false
namespace Mine
section
/-! ## the objects that the text's top makes -/
structure G where
  os : List Obj
  n : Nat
  tk : Nat
  mn : List DictEntry
  fl : List Value
  st : List DictEntry
  subs : List (Addr × Value)
  nm : Value
  known : List (Str × Addr × List Value × Value)
noncomputable def tup (vs : List Value) : Obj := { cls := .type "tuple", data := .seq vs.toArray }
noncomputable def flds (vs : List Value) : Obj := { cls := .none, data := .fields vs.toArray }
noncomputable def raw (i : Nat) : Value := .int (i : Int) 0
noncomputable def strVs : List Str → Nat → List Value
  | [], _ => []
  | x :: r, t => .str x t :: strVs r (t + 1)
noncomputable def ent (P : Params) (x : Str) (t : Nat) (v : Value) : DictEntry := ⟨PyData.keyHash P x, .str x t, v⟩
noncomputable def codeO (name qual file : Str) (t line nargs flags : Nat) (free fields : Addr) (fn : Bool) (vars cells tmpl : Value) (k : Nat) : Obj :=
  { cls := .type "code", data := .fields #[.str name t, .str qual (t + 1), .str file (t + 2), raw line, raw nargs, raw 0, raw 0, raw flags, .ref free, .bool fn, raw 181, .ref fields, .none, vars, cells, tmpl, raw k, raw line, .str file (k + 1)] }
noncomputable def fdT (name qual : Str) (params : Arguments) (body : List Stmt) (scope : Scope) : FuncData := { name := name, qualname := qual, params := params, body := .stmts body, scope := scope, globals := 0, closure := [], defaults := .none, kwdefaults := .none }
noncomputable def told : Stmt → Bool
  | .FunctionDef (name := x) .. => x == "law" || x == "_law_is_told"
  | _ => false
/-- a def: its objects; name, object, tokens used -/
noncomputable def defG (file : Str) (pre : Str) (modT : Value) (cell : Option Addr) (n t : Nat) (s : Stmt) : List Obj × Str × Nat × Nat × Nat := match s with
  | .FunctionDef name args body _ _ _ scope _ _ pos =>
    let qual := pre ++ name
    let free := (scope.names.filter fun x => x.2 == .free).map (·.1)
    let vars := (scope.names.filter fun x => x.2 == .local).map (·.1)
    let nf := free.length
    let plain := !told s
    let c := match cell with | some a => if nf == 0 then none else some a | none => none
    let pc := match c with | some a => [tup [.ref a]] | none => []
    let n0 := n + pc.length
    let nv := if plain then vars.length else 0
    let tm : Obj := { cls := .none, data := .func (fdT name qual args body scope) }
    let mid := if plain then [tup (strVs vars (t + 3 + nf)), tup [], tm] else [tm]
    let n1 := n0 + 2 + mid.length
    let k := t + 3 + nf + nv
    let code := codeO name qual file t pos.line args.args.length 3 n0 (n0 + 1) true (if plain then .ref (n0 + 2) else .none) (if plain then .ref (n0 + 3) else .none) (.ref (n1 - 1)) k
    let fn : Obj := { cls := .type "function", data := .func { fdT name qual args body scope with globals := mainGlobals, builtins := builtinsNs, pyModule := modT, code := .ref n1, closure := (match c with | some a => free.map fun x => (x, a) | none => []), closureTuple := (match c with | some _ => .ref n | none => .none) } }
    (pc ++ [tup (strVs free (t + 3)), flds []] ++ mid ++ [code, fn], name, n1 + 1, k + 2, pos.line)
  | _ => ([], "", n, t, 0)
structure M where
  os : List Obj
  n : Nat
  t : Nat
  ns : List DictEntry
  fl : List Value
noncomputable def methG (P : Params) (file pre : Str) (modT : Value) (cell : Option Addr) (m : M) (s : Stmt) : M :=
  let (os, name, f, k, line) := defG file pre modT cell m.n m.t s
  { os := m.os ++ os, n := f + 1, t := k + 1, ns := m.ns ++ [ent P name k (.ref f)], fl := m.fl ++ [raw line, raw 4, .ref (f - 1)] }
noncomputable def dictO (es : List DictEntry) (k : Nat) : Obj := { cls := .type "dict", data := .dict es.toArray k }
noncomputable def putE (es : List DictEntry) (x : Str) (e : DictEntry) : List DictEntry := if es.any (fun d => d.key.isStr x) then es.map (fun d => if d.key.isStr x then ⟨d.hash, d.key, e.val⟩ else d) else es ++ [e]
noncomputable def constV : PySem.Expr → Nat → Option (Value × Nat)
  | .Constant (.int i) _ _, t => some (.int i t, t + 1)
  | .Constant (.str x) _ _, t => some (.str x t, t + 1)
  | _, _ => none
noncomputable def topG (P : Params) (file : Str) (g : G) (s : Stmt) : G := match s with
  | .FunctionDef .. =>
    let (os, name, f, k, line) := defG file Str.empty g.nm none g.n g.tk s
    { g with os := g.os ++ os, n := f + 1, tk := k + 1, mn := putE g.mn name (ent P name k (.ref f)), fl := g.fl ++ [raw line, raw 0, .ref (f - 1)] }
  | .Assign [.Name x _] e _ => match e with
    | .Constant (.int i) _ _ => { g with tk := g.tk + 2, mn := putE g.mn x (ent P x (g.tk + 1) (.int i g.tk)) }
    | .Constant (.str y) _ _ => { g with tk := g.tk + 2, mn := putE g.mn x (ent P x (g.tk + 1) (.str y g.tk)), nm := .str y g.tk }
    | .Tuple [.Constant (.int i) _ _, .Constant (.int j) _ _] _ _ => { g with os := g.os ++ [tup [.int i g.tk, .int j (g.tk + 1)]], n := g.n + 1, tk := g.tk + 3, mn := putE g.mn x (ent P x (g.tk + 2) (.ref g.n)) }
    | .BinOp (.Constant (.int i) _ _) .LShift (.Constant (.int j) _ _) _ => { g with tk := g.tk + 4, mn := putE g.mn x (ent P x (g.tk + 3) (.int (i * 2 ^ j.toNat) (g.tk + 2))) }
    | _ => g
  | .ClassDef name bases _ body _ _ scope _ _ stat pos =>
    let t := g.tk
    let base := match bases with | [.Name b _] => some b | _ => none
    let own := match base with | some b => g.known.lookup b | none => none
    let baseV : Value := match base, own with | some _, some (a, _) => .ref a | some _, none => .type "Exception" | none, _ => .type "object"
    let mroB : List Value := match base, own with | some _, some (_, m, _) => m | some _, none => [.type "Exception", .type "BaseException", .type "object"] | none, _ => [.type "object"]
    let newB : Value := match base, own with | some _, some (_, _, v) => v | some _, none => .builtin "Exception.__new__" | none, _ => .builtin "object.__new__"
    let bt := g.n
    let hasCell := scope.names.any fun x => x.2 == .cell
    let cellA := if hasCell then some (bt + 3) else none
    let n1 := bt + 3 + (if hasCell then 1 else 0)
    let isObj := base.isNone
    let first := ent P "__firstlineno__" (t + 11) (.int pos.line (t + 10))
    let md := ent P "__module__" (t + 7) g.nm
    let m := body.foldl (methG P file (name ++ ".") g.nm cellA) { os := [], n := n1 + 4, t := t + 12, ns := [], fl := [] }
    let sa := m.n
    let t1 := m.t + stat.length
    let stE := ent P "__static_attributes__" t1 (.ref sa)
    let t2 := if hasCell then t1 + 1 else t1
    let C := sa + 2
    let exc := base == some ("Exception" : Str)
    let dE := if isObj then [ent P "__dict__" (t2 + 2) (.ref (C + 1))] else []
    let t3 := if isObj then t2 + 2 else t2
    let wE := if isObj || exc then [ent P "__weakref__" (t3 + 2) (.ref (C + 1 + (if isObj then 1 else 0)))] else []
    let t4 := if isObj || exc then t3 + 2 else t3
    let doc := ent P "__doc__" (t4 + 1) .none
    let t5 := t4 + 1
    let stS := if exc then [ent P "type.__subclasses__.Exception.0" (t5 + 1) (raw C), ent P "type.__subclasses__.Exception.n" (t5 + 2) (raw 1)] else []
    let t6 := if exc then t5 + 2 else t5
    let nsO := [md, ent P "__qualname__" (t + 9) (.str name (t + 8)), first] ++ m.ns ++ [stE] ++ (if hasCell then [ent P "__classcell__" t2 (.ref (bt + 3))] else [])
    let ns2 := [md, first] ++ m.ns ++ [stE] ++ dE ++ wE ++ [doc]
    let epo := 1 + (if hasCell then 1 else 0) + dE.length + wE.length + 1
    let code := codeO name name file (t + 2) pos.line 0 0 n1 (n1 + 1) false .none .none .none (t + 5)
    let frame : Obj := { cls := .type "frame", slots := #[some (.ref (n1 + 2)), some (.ref mainGlobals), some (.ref (bt + 2)), none, some g.nm, none, some (.ref 0)] }
    let cls : Obj := { cls := .type "type", data := .cls { name := name, bases := [baseV], mro := .ref C :: mroB, ns := sa + 1, qualname := name }, slots := #[if isObj then none else some (.ref bt), none, some (.str name t), some (.str name (t + 8)), some newB, some (.bool true)] }
    let gd : List Obj := if isObj then [{ cls := .type "getset_descriptor", data := .fields #[.str "__dict__" (t2 + 1), .ref C, .builtin "function.__dict__", .builtin "function.__dict__#set"] }] else []
    let gw : List Obj := if isObj || exc then [{ cls := .type "getset_descriptor", data := .fields #[.str "__weakref__" (t3 + 1), .ref C, .builtin "ExceptionGroup.__weakref__", .none] }] else []
    let cell : List Obj := if hasCell then [{ cls := .type "cell", data := .cell (some (.ref C)) }] else []
    let os := [tup (if isObj then [] else [baseV]), { cls := .type "builtin_function_or_method", data := .fields #[.builtin "type.__prepare__", .type "type"] }, dictO nsO nsO.length] ++ cell ++
      [tup [], flds m.fl, code, frame] ++ m.os ++ [tup (strVs stat m.t), dictO ns2 epo, cls] ++ gd ++ gw ++
      [{ cls := .type "super", data := .fields #[.ref C, .ref C, .ref C] }, { cls := .type "builtin_function_or_method", data := .fields #[.builtin "object.__init_subclass__", .ref C] }]
    { g with os := g.os ++ os, n := g.n + os.length, tk := t6 + 3, mn := putE g.mn name (ent P name (t6 + 2) (.ref C)), fl := g.fl ++ [raw pos.line, raw 0, .ref (n1 + 2)], st := g.st ++ stS, subs := (match baseV with | .ref a => g.subs ++ [(a, .ref C)] | _ => g.subs), known := (name, C, .ref C :: mroB, newB) :: g.known }
  | _ => g
/-- the heap's objects, those that turn put in -/
noncomputable def subO (subs : List (Addr × Value)) : Nat → List Obj → List Obj
  | _, [] => []
  | a, o :: r => (match o.data with
    | .cls c => { o with data := .cls { c with subclasses := (subs.filter fun p => p.1 == a).map (·.2) } }
    | _ => o) :: subO subs (a + 1) r
noncomputable def setO : List Obj → Nat → Obj → List Obj
  | [], _, _ => []
  | _ :: r, 0, o => o :: r
  | x :: r, n + 1, o => x :: setO r n o
noncomputable def heapG (base : List Obj) (g : G) : List Obj :=
  let b := base ++ subO g.subs base.length g.os
  let b := setO b 3 (dictO g.mn g.mn.length)
  let b := setO b 2 { cls := .none, data := .dict g.st.toArray g.st.length }
  setO b 12 (flds g.fl)
end
section
set_option maxRecDepth 100000
noncomputable abbrev PG := PySem.Challenge.pw_qz0018_01
noncomputable def evens : List Obj → List Obj
  | [] => []
  | [a] => [a]
  | a :: _ :: r => a :: evens r
noncomputable def braun : Nat → List Obj → BT
  | 0, _ => .nil
  | _ + 1, [] => .nil
  | k + 1, o :: r => .node o (braun k (evens r)) (braun k (evens (r.drop 1)))
noncomputable def baseG (P : Params) : List Obj := [boot_o_0 P, boot_o_1 P, boot_o_2 P, boot_o_3 P, boot_o_4 P, boot_o_5 P, boot_o_6 P, boot_o_7 P, boot_o_8 P, boot_o_9 P, boot_o_10 P,
  tup [], flds [], codeO "<module>" "<module>" PG.main.file 182 1 0 0 11 12 false .none .none .none 185,
  { cls := .type "frame", slots := #[some (.ref 13), some (.ref mainGlobals), some (.ref mainGlobals), none, some (.str "__main__" 164), none, some (.ref 0)] }]
noncomputable def g0 (P : Params) : G := { os := [], n := 15, tk := 187, mn := (match (boot_o_3 P).data with | .dict es _ => es.toList | _ => []), fl := [], st := [], subs := [], nm := .str "__main__" 164, known := [] }
noncomputable def gAt (P : Params) (k : Nat) : G := (PG.main.body.take k).foldl (topG P PG.main.file) (g0 P)
noncomputable def stG (P : Params) (os : OsState) (k n t : Nat) : SharedT := ⟨braun 12 (heapG (baseG P) (gAt P k)), n, {}, #[], {}, t, os⟩
noncomputable def envG : Env := { scope := PG.main.scope, locals := mainNs, globals := mainNs, cells := [], code := .ref 13, frame := some 14 }
noncomputable def q0 : Pos := { line := 0, col := 0, endLine := 0, endCol := 0 }
noncomputable def codeG : Code := .body (behindTheImports PG) envG
/-- the statements i, .., i + k - 1 -/
noncomputable def sts (i k : Nat) : List Stmt := (PG.main.body.drop i).take k
/-- what stands written of the heap at the top's end -/
@[irreducible] noncomputable def KG (P : Params) : Frag := (List.range 776).zip (heapG (baseG P) (gAt P 35))
end
section
section
variable {env : Env} {x : Str} {p' pos apos : Pos} {e a1 ob : PySem.Expr} {r rest : List PySem.Expr}
noncomputable def notStar : PySem.Expr → Bool | .Starred .. => false | _ => true
noncomputable def okBase : PySem.Expr → Bool | .Name .. => true | .Attribute .. => true | .Subscript .. => true | _ => false
noncomputable def notComp : PySem.Expr → Bool | .ListComp .. => false | .SetComp .. => false | .DictComp .. => false | _ => true
noncomputable def notSlice : PySem.Expr → Bool | .Slice .. => false | _ => true
noncomputable def notSet : PySem.Expr → Bool | .Set .. => false | _ => true
noncomputable def plainTest : PySem.Expr → Bool | .UnaryOp .. => false | .BoolOp .. => false | .IfExp .. => false | .Compare .. => false | _ => true
theorem starEach_cons (h : notStar e = true) : starEach (e :: rest) env = (false, eval e env) :: starEach rest env := by cases e <;> first | rfl | cases h
theorem plain_any (h : rest.all notStar = true) : (backTo pos (starEach rest env)).any (·.1) = false := by
  induction rest with
  | nil => rfl
  | cons e rest ih =>
    rw [List.all_cons, Bool.and_eq_true] at h
    rw [starEach_cons h.1]
    exact ih h.2
theorem base_eq (h : okBase e = true) {m : Sem Value} : attributeBase e x env m = m := by cases e <;> first | rfl | cases h
theorem form_eq (hr : r.all notStar = true) (hn : (decide (r.length < 30)) = true) : methodCallForm (r.length + 0) (backTo pos (starEach r env)) (backToKw pos (keywordEach [] env)) = true := by
  have h1 := plain_any (env := env) (pos := pos) hr
  have h2 : (backTo pos (starEach r env)).all (!·.1) = true := by
    generalize backTo pos (starEach r env) = l at h1
    induction l with
    | nil => rfl
    | cons p l ih => rw [List.any_cons, Bool.or_eq_false_iff] at h1; rw [List.all_cons, ih h1.2, h1.1]; rfl
  unfold methodCallForm
  rw [h2]
  simpa [keywordEach, backToKw] using hn
theorem call_attr (h : okBase e = true) (hl : (apos.endLine == pos.line) = true) (hr : r.all notStar = true) (hn : (decide (r.length < 30)) = true) : ∃ pl, eval (.Call (.Attribute e x apos) r [] pos) env = (do
          let ov ← eval e env
          standAt apos.atName
          let (f, first) ← holding [ov] (getMethod ov x pl)
          callWith pos f first (backTo pos (starEach r env)) []) := by
  refine ⟨do return (← importBound e env).getD true, ?_⟩
  have e1 : eval (.Call (.Attribute e x apos) r [] pos) env = (do
    let ov ← attributeBase e x env (eval e env)
    standAt apos.atName
    methodCall e x apos pos env ov (r.length + 0) (backTo pos (starEach r env)) (backToKw pos (keywordEach [] env))) := rfl
  rw [e1, base_eq h]
  congr 1
  funext ov
  congr 1
  funext _
  unfold methodCall methodCallPos calleeOf
  rw [form_eq hr hn]
  simp only [hl, Bool.not_true, Bool.false_or, if_true, pure_bind]
  rfl
theorem attr_eq (h : okBase e = true) : eval (.Attribute e x pos) env = (do
      let o ← eval e env
      standAt pos.atName
      let r ← holding [o] (getAttr o x true)
      letTemporaryGo e o r
      pure r) := by cases e <;> first | rfl | cases h
theorem marks_eq {op} (h : notSet e = true) : behindInMarks op e = false := by cases e <;> first | rfl | cases h
theorem sub_eq (h : notSlice e = true) {o x : Value} : subscripted e false o x = operate [o, x] (getItem o x) := by cases e <;> first | rfl | cases h
theorem swaps_eq {t l} (h : notComp e = true) : swapsWith e t l env = pure false := by cases e <;> first | rfl | cases h
theorem test_eq {whole : Sem Value} (h : plainTest e = true) : isTrue e env whole = (do let v ← whole; standAt e.pos; holding [v] (truthy v)) := by cases e <;> first | rfl | cases h
theorem swapsSole_eq {t l} (h : notComp e = true) : swapsWithSole [t] e l env = pure false := swaps_eq h
end
end
section
noncomputable abbrev Led := List (Addr × Obj)
noncomputable abbrev PW := PySem.Challenge.pw_qz0018_01
noncomputable abbrev KK := KG
/-! ## Values and objects, their tokens forgotten -/
inductive V where
  | none | bool (b : Bool) | int (i : Int) | str (s : Str) | ref (a : Addr)
noncomputable def V.Is : V → Value → Prop
  | .none, u => u = .none
  | .bool b, u => u = .bool b
  | .int i, u => ∃ t, u = .int i t
  | .str s, u => ∃ t, u = .str s t
  | .ref a, u => u = .ref a
inductive VIs : List V → List Value → Prop
  | nil : VIs [] []
  | cons {v : V} {u : Value} {vs : List V} {us : List Value} : v.Is u → VIs vs us → VIs (v :: vs) (u :: us)
theorem VIs.length {vs : List V} {us : List Value} (h : VIs vs us) : us.length = vs.length := by
  induction h with
  | nil => rfl
  | cons _ _ ih => simp [ih]
theorem VIs.get {vs : List V} {us : List Value} (h : VIs vs us) : ∀ {i : Nat} {v : V}, vs[i]? = some v → ∃ u, us[i]? = some u ∧ v.Is u := by
  induction h with
  | nil => intro i v hv; simp at hv
  | cons h1 _ ih =>
    intro i v hv
    cases i with
    | zero => simp at hv; subst hv; exact ⟨_, rfl, h1⟩
    | succ i => simp at hv; obtain ⟨u, a, b⟩ := ih hv; exact ⟨u, by simpa using a, b⟩
theorem VIs.append {vs ws : List V} {us xs : List Value} (h : VIs vs us) (h' : VIs ws xs) : VIs (vs ++ ws) (us ++ xs) := by
  induction h with
  | nil => exact h'
  | cons h1 _ ih => exact .cons h1 ih
/-- pairs with the same keys -/
inductive PIs {α : Type} : List (α × V) → List (α × Value) → Prop
  | nil : PIs [] []
  | cons {k : α} {v : V} {u : Value} {vs : List (α × V)} {us : List (α × Value)} : v.Is u → PIs vs us → PIs ((k, v) :: vs) ((k, u) :: us)
/-- a key of the bank's table -/
structure Nd where
  op : Str
  args : List Int
  sort : Int
  data : Int ⊕ (Int × Int)
  deriving DecidableEq
inductive Ob where
  | tup (vs : List V)
  | list (vs : List V)
  | idict (kvs : List (Int × V))
  | sdict (kvs : List (Str × V))
  | kdict (kvs : List (Nd × Addr × V))
  | inst (C dx : Addr)
  | raw (o : Obj)
  | tdict (kvs : List (Str × V))
  | cell (v : Option V)
inductive StrEs (w : World) : List (Str × V) → List DictEntry → Prop
  | nil : StrEs w [] []
  | cons {k : Str} {t : Tok} {v : V} {u : Value} {kvs : List (Str × V)} {es : List DictEntry} : v.Is u → StrEs w kvs es → StrEs w ((k, v) :: kvs) (⟨PyData.keyHash w.params k, .str k t, u⟩ :: es)
inductive KeyEs (H : Nd → Int) : List (Nd × Addr × V) → List DictEntry → Prop
  | nil : KeyEs H [] []
  | cons {k : Nd} {a : Addr} {v : V} {u : Value} {kvs : List (Nd × Addr × V)} {es : List DictEntry} : v.Is u → KeyEs H kvs es → KeyEs H ((k, a, v) :: kvs) (⟨H k, .ref a, u⟩ :: es)
noncomputable abbrev Sl := Str ⊕ Int ⊕ List Int
noncomputable def Sl.hash (w : World) : Sl → Int
  | .inl x => (strKind PW w).hash x
  | .inr (.inl i) => (intKind PW w).hash i
  | .inr (.inr l) => tupleKeyHash (intKind PW w) l
noncomputable def keyHash (w : World) (ks : List Sl) : Int := reduceHash (Builtin.Tuple.tupleHashOf (ks.map (Sl.hash w)))
noncomputable def Nd.slots (k : Nd) : List Sl := [.inl k.op, .inr (.inr k.args), .inr (.inl k.sort), match k.data with | .inl i => .inr (.inl i) | .inr (a, b) => .inr (.inr [a, b])]
noncomputable def Ob.Is (w : World) : Ob → Obj → Prop
  | .tup vs, o => ∃ us n, o = ({ cls := .type "tuple", data := .seq us.toArray n } : Obj) ∧ VIs vs us
  | .list vs, o => ∃ us n, o = listOf us.toArray n ∧ VIs vs us
  | .idict kvs, o => ∃ us, o.IsDictOf (intKind PW w) us ∧ PIs kvs us
  | .sdict kvs, o => ∃ es n, o = dictOf es n ∧ StrEs w kvs es
  | .kdict kvs, o => ∃ es n, o = dictOf es n ∧ KeyEs (fun k => keyHash w k.slots) kvs es ∧ (kvs.map (·.1)).Nodup
  | .inst C dx, o => o = instObj C dx
  | .raw o', o => o = o'
  | .tdict kvs, o => ∃ us, o.IsDictOf (strKind PW w) us ∧ PIs kvs us
  | .cell ov, o => ∃ ou, o.data = .cell ou ∧ (match ov with | none => True | some v => ∃ u, ou = some u ∧ v.Is u)
noncomputable abbrev Sg := Addr → Option Ob
noncomputable abbrev Rho := Str → Option V
noncomputable def upd (σ : Sg) (a : Addr) (ob : Ob) : Sg := fun b => if b = a then some ob else σ b
noncomputable def put (ρ : Rho) (x : Str) (v : V) : Rho := fun y => if y = x then some v else ρ y
/-! ## The ambient of a frame -/
structure Cx where
  w : World
  p : Program
  loose : List Str
  mean : ExcName → Option Value
  mg : Str → Option Value
  mb : Str → Option Value
  dp : Nat
  un : Nat
  gd : Option (List Code)
  cn : Str
  fa : Addr
  ccd : Value
  cl : List (Str × Addr)
  outer : List Env
  A₀ : Around
  base : Heap
  h₀ : Heap
  L : Addr
  E : Value → Shared → Prop
  S₀ : Scope
  gens : Array GenState
  drawn : Drawn
  os : OsState
noncomputable abbrev Cx.env (c : Cx) (S : Scope) : Env := envX c.cn S c.L c.fa c.ccd c.cl
noncomputable abbrev Cx.A (c : Cx) (S : Scope) : Around := ktrTop c.dp c.un c.gd c.cn S c.L c.fa c.ccd c.cl c.outer
noncomputable abbrev Cx.sh (c : Cx) (h : Heap) (tk : Nat) : Shared := { heap := h, gens := c.gens, drawn := c.drawn, toks := tk, os := c.os }
structure Cx.Ok (c : Cx) (n : Nat) : Prop where
  B : Below c.A₀ c.base c.outer c.h₀
  X : (KK c.w.params).In c.h₀
  T : Top c.p c.loose c.mean c.mg c.mb c.h₀
  hd : c.dp + n < recursionLimit
  hu : c.un + 8 * n + 200 < cLine
  pe : PassesOwn (model PW c.w) (c.A c.S₀) (c.env c.S₀) c.E
theorem Cx.Ok.le {c : Cx} {n k : Nat} (h : c.Ok n) (hk : k ≤ n) : c.Ok k := ⟨h.B, h.X, h.T, by have := h.hd; (first | lia | omega), by have := h.hu; (first | lia | omega), h.pe⟩
/-- objects of the text's own top that are read as tuples -/
noncomputable def kTup (a : Addr) : Option Ob := if a = 89 then some (.tup [.int 0, .int 1]) else if a = 90 then some (.tup [.int 1, .int 1]) else none
structure SgIs (c : Cx) (σ : Sg) (news : Led) : Prop where
  at_ : ∀ a ob, σ a = some ob → (∃ o, (a, o) ∈ news ∧ ob.Is c.w o ∧ (a == sysModules) = false) ∨ kTup a = some ob
inductive Rel (c : Cx) (ρ : Rho) (σ : Sg) (fr : Led) (h : Heap) : Prop
  | mk (mp : Str → Option Value) (news : Led) (F : Fr c.h₀ c.L h mp) (N : News c.h₀ c.L h (news ++ fr)) (m : ∀ x v, ρ x = some v → ∃ u, mp x = some u ∧ v.Is u) (G : SgIs c σ news) (D : ∀ p ∈ fr, ∀ q ∈ news, p.1 ≠ q.1) : Rel c ρ σ fr h
/-! ## Judgements -/
inductive ResV (c : Cx) (ρ : Rho) (fr : Led) (Φ : V → Sg → Prop) (u : Value) (s' : Shared) : Prop
  | mk (v : V) (σ' : Sg) (h' : Heap) (tk' : Nat) (e : s' = c.sh h' tk') (R : Rel c ρ σ' fr h') (i : v.Is u) (k : Φ v σ') : ResV c ρ fr Φ u s'
inductive ResL (c : Cx) (ρ : Rho) (fr : Led) (Φ : List V → Sg → Prop) (u : List Value) (s' : Shared) : Prop
  | mk (v : List V) (σ' : Sg) (h' : Heap) (tk' : Nat) (e : s' = c.sh h' tk') (R : Rel c ρ σ' fr h') (i : VIs v u) (k : Φ v σ') : ResL c ρ fr Φ u s'
inductive ResB (c : Cx) (ρ : Rho) (fr : Led) (Φ : Bool → Sg → Prop) (u : Bool) (s' : Shared) : Prop
  | mk (σ' : Sg) (h' : Heap) (tk' : Nat) (e : s' = c.sh h' tk') (R : Rel c ρ σ' fr h') (k : Φ u σ') : ResB c ρ fr Φ u s'
/-- an expression's evaluation -/
noncomputable def EvV (c : Cx) (S : Scope) (t : Sem Value) (ρ : Rho) (σ : Sg) (Φ : V → Sg → Prop) : Prop :=
  ∀ fr h tk, Rel c ρ σ fr h → wpAny (model PW c.w) (c.A S) t (ResV c ρ fr Φ) c.E (c.sh h tk)
noncomputable def EvL (c : Cx) (S : Scope) (t : Sem (List Value)) (ρ : Rho) (σ : Sg) (Φ : List V → Sg → Prop) : Prop :=
  ∀ fr h tk, Rel c ρ σ fr h → wpAny (model PW c.w) (c.A S) t (ResL c ρ fr Φ) c.E (c.sh h tk)
noncomputable def EvB (c : Cx) (S : Scope) (t : Sem Bool) (ρ : Rho) (σ : Sg) (Φ : Bool → Sg → Prop) : Prop :=
  ∀ fr h tk, Rel c ρ σ fr h → wpAny (model PW c.w) (c.A S) t (ResB c ρ fr Φ) c.E (c.sh h tk)
inductive Fl where
  | next | brk | cont | ret (v : V)
noncomputable def Fl.Is : Fl → Flow → Prop
  | .next, f => f = .next
  | .brk, f => f = .brk
  | .cont, f => f = .cont
  | .ret v, f => ∃ u, f = .ret u ∧ v.Is u
inductive ResS (c : Cx) (fr : Led) (Φ : Fl → Rho → Sg → Prop) (u : Flow) (s' : Shared) : Prop
  | mk (f : Fl) (ρ' : Rho) (σ' : Sg) (h' : Heap) (tk' : Nat) (e : s' = c.sh h' tk') (R : Rel c ρ' σ' fr h') (i : f.Is u) (k : Φ f ρ' σ') : ResS c fr Φ u s'
noncomputable def ExS (c : Cx) (t : Sem Flow) (S : Scope) (ρ : Rho) (σ : Sg) (Φ : Fl → Rho → Sg → Prop) : Prop :=
  ∀ fr h tk, Rel c ρ σ fr h → wpAny (model PW c.w) (c.A S) t (ResS c fr Φ) c.E (c.sh h tk)
noncomputable abbrev Exs (c : Cx) (S : Scope) (sts : List Stmt) (ρ : Rho) (σ : Sg) (Φ : Fl → Rho → Sg → Prop) : Prop := ExS c (execs sts (c.env S)) S ρ σ Φ
/-- a call of a def: what it does, n frames deep -/
noncomputable def CallOk (n : Nat) (f : Addr) (vs : List V) (σ : Sg) (Φ : V → Sg → Prop) : Prop :=
  ∀ (c : Cx) (S : Scope) (us : List Value) (ρ : Rho), c.Ok n → S.kind = .function → VIs vs us → EvV c S (call (.ref f) us) ρ σ Φ
theorem EvV.mono {c : Cx} {S : Scope} {t : Sem Value} {ρ : Rho} {σ : Sg} {Φ Φ' : V → Sg → Prop} (h : EvV c S t ρ σ Φ) (hi : ∀ v σ', Φ v σ' → Φ' v σ') : EvV c S t ρ σ Φ' :=
  fun fr h' tk R => wpAny_mono (h fr h' tk R) (fun _ _ ⟨v, σ', h1, tk1, e, r, i, k⟩ => ⟨v, σ', h1, tk1, e, r, i, hi v σ' k⟩) fun _ _ e => e
theorem CallOk.mono {n : Nat} {f : Addr} {vs : List V} {σ : Sg} {Φ Φ' : V → Sg → Prop} (h : CallOk n f vs σ Φ) (hi : ∀ v σ', Φ v σ' → Φ' v σ') : CallOk n f vs σ Φ' :=
  fun c S us ρ hc hS hv => (h c S us ρ hc hS hv).mono hi
/-! ## Rules: names, constants -/
section
variable {c : Cx} {S : Scope} {ρ : Rho} {σ : Sg} {Φ : V → Sg → Prop} {pos : Pos}
theorem Rel.frame {fr : Led} {h : Heap} (R : Rel c ρ σ fr h) : ∃ mp, Fr c.h₀ c.L h mp ∧ ∀ x v, ρ x = some v → ∃ u, mp x = some u ∧ v.Is u := let ⟨mp, _, F, _, a, _, _⟩ := R; ⟨mp, F, a⟩
theorem Ev.name {x : Str} {v : V} (hv : ρ x = some v) (h : Φ v σ)
    (hx : S.names.lookup x = some .local := by kernel_rfl) (hk : S.kind = .function := by rfl) (hd : (x == ("__debug__" : Str)) = false := by decide +kernel) : EvV c S (eval (.Name x pos) (c.env S)) ρ σ Φ := by
  intro fr h' tk R
  obtain ⟨mp, F, hm⟩ := R.frame
  obtain ⟨u, hu, hi⟩ := hm x v hv
  exact nameX_L F hu ⟨v, σ, h', tk, rfl, R, hi, h⟩ hk hx hd
theorem Ev.global {n : Nat} {x : Str} {v : V} {u : Value} (ok : c.Ok n) (hv : v.Is u) (hg : ∀ P, nsIn (KK P) mainGlobals x = some (some u)) (h : Φ v σ)
    (hx : S.names.lookup x = some .globalImplicit := by kernel_rfl) (hk : S.kind = .function := by rfl) (hd : (x == ("__debug__" : Str)) = false := by decide +kernel) : EvV c S (eval (.Name x pos) (c.env S)) ρ σ Φ := by
  intro fr h' tk R
  obtain ⟨mp, F, hm⟩ := R.frame
  exact nameX_K F ok.X (topRead_of ok.T) (hg _) ⟨v, σ, h', tk, rfl, R, hv, h⟩ hk hx hd
theorem Ev.int {i : Int} {k : Nat} (h : Φ (.int i) σ) : EvV c S (eval (.Constant (.int i) k pos) (c.env S)) ρ σ Φ := fun _ _ _ R =>
  wpAny_Constant_int ⟨.int i, σ, _, _, rfl, R, ⟨_, rfl⟩, h⟩
theorem Ev.str {x : Str} {k : Nat} (h : Φ (.str x) σ) : EvV c S (eval (.Constant (.str x) k pos) (c.env S)) ρ σ Φ := fun _ _ _ R =>
  Constant_str ⟨.str x, σ, _, _, rfl, R, ⟨_, rfl⟩, h⟩
theorem Ev.bool {b : Bool} {k : Nat} (h : Φ (.bool b) σ) : EvV c S (eval (.Constant (.bool b) k pos) (c.env S)) ρ σ Φ := fun _ _ _ R => wpAny_Constant_bool ⟨.bool b, σ, _, _, rfl, R, rfl, h⟩
/-! ## operators -/
theorem Ev.neg {e : PySem.Expr} (h : EvV c S (eval e (c.env S)) ρ σ fun a σ₁ => ∃ i, a = .int i ∧ Φ (.int (-i)) σ₁) : EvV c S (eval (.UnaryOp .USub e pos) (c.env S)) ρ σ Φ := by
  intro fr h' tk R
  refine UnaryOp_ (wpAny_mono (h fr h' tk R) (fun ua s₁ q => ?_) fun _ _ e => e)
  obtain ⟨a, σ₁, h₁, tk₁, rfl, R₁, ia, i, rfl, q⟩ := q
  obtain ⟨ta, rfl⟩ := ia
  exact neg_int ⟨.int (-i), σ₁, h₁, _, rfl, R₁, ⟨_, rfl⟩, q⟩
/-! ## comparisons, tests -/
/-- the comparison of two values yields this bool and turns nothing -/
noncomputable def Cmp (c : Cx) (S : Scope) (op : CmpOp) (a b : V) (σ : Sg) (bo : Bool) : Prop :=
  ∀ ρ ua ub, a.Is ua → b.Is ub → EvV c S (compareOp op ua ub) ρ σ fun v σ' => v = .bool bo ∧ σ' = σ
theorem Cmp.eqI {i j : Int} : Cmp c S .Eq (.int i) (.int j) σ (i == j) := fun _ _ _ ⟨_, ha⟩ ⟨_, hb⟩ _ _ _ R => by subst ha hb; exact eq_int ⟨.bool _, σ, _, _, rfl, R, rfl, rfl, rfl⟩
theorem Cmp.neI {i j : Int} : Cmp c S .NotEq (.int i) (.int j) σ (i != j) := fun _ _ _ ⟨_, ha⟩ ⟨_, hb⟩ _ _ _ R => by subst ha hb; exact ne_int ⟨.bool _, σ, _, _, rfl, R, rfl, rfl, rfl⟩
theorem Cmp.ltI {i j : Int} : Cmp c S .Lt (.int i) (.int j) σ (decide (i < j)) := fun _ _ _ ⟨_, ha⟩ ⟨_, hb⟩ _ _ _ R => by subst ha hb; exact lt_int ⟨.bool _, σ, _, _, rfl, R, rfl, rfl, rfl⟩
theorem Cmp.gtI {i j : Int} : Cmp c S .Gt (.int i) (.int j) σ (decide (j < i)) := fun _ _ _ ⟨_, ha⟩ ⟨_, hb⟩ _ _ _ R => by subst ha hb; exact gt_int ⟨.bool _, σ, _, _, rfl, R, rfl, rfl, rfl⟩
theorem Cmp.eqS {x y : Str} : Cmp c S .Eq (.str x) (.str y) σ (x == y) := fun _ _ _ ⟨_, ha⟩ ⟨_, hb⟩ _ _ _ R => by subst ha hb; exact eq_str ⟨.bool _, σ, _, _, rfl, R, rfl, rfl, rfl⟩
theorem Ev.cmp {op : CmpOp} {l r : PySem.Expr} (h : EvV c S (eval l (c.env S)) ρ σ fun a σ₁ => EvV c S (eval r (c.env S)) ρ σ₁ fun b σ₂ => ∃ bo, Cmp c S op a b σ₂ bo ∧ Φ (.bool bo) σ₂)
    (hm : notSet r = true := by rfl) : EvV c S (eval (.Compare l [op] [r] pos) (c.env S)) ρ σ Φ := by
  intro fr h' tk R
  refine wpAny_Compare1 (wpAny_mono (h fr h' tk R) (fun ua s₁ q => ?_) fun _ _ e => e) (marks_eq hm)
  obtain ⟨a, σ₁, h₁, tk₁, rfl, R₁, ia, q⟩ := q
  refine wpAny_mono (q fr h₁ tk₁ R₁) (fun ub s₂ q => ?_) fun _ _ e => e
  obtain ⟨b, σ₂, h₂, tk₂, rfl, R₂, ib, bo, hc, q⟩ := q
  refine wpAny_mono (hc ρ ua ub ia ib fr h₂ tk₂ R₂) (fun uc s₃ z => ?_) fun _ _ e => e
  obtain ⟨v, σ₃, h₃, tk₃, rfl, R₃, iv, rfl, rfl⟩ := z
  exact ⟨_, _, _, _, rfl, R₃, iv, q⟩
variable {Ψ : Bool → Sg → Prop}
theorem Tr.cmp {op : CmpOp} {l r : PySem.Expr} {whole : Sem Value} (h : EvV c S (eval l (c.env S)) ρ σ fun a σ₁ => EvV c S (eval r (c.env S)) ρ σ₁ fun b σ₂ => ∃ bo, Cmp c S op a b σ₂ bo ∧ Ψ bo σ₂)
    (hm : notSet r = true := by rfl) : EvB c S (isTrue (.Compare l [op] [r] pos) (c.env S) whole) ρ σ Ψ := by
  intro fr h' tk R
  refine wpAny_isTrue_Compare1 (wpAny_mono (h fr h' tk R) (fun ua s₁ q => ?_) fun _ _ e => e) (marks_eq hm)
  obtain ⟨a, σ₁, h₁, tk₁, rfl, R₁, ia, q⟩ := q
  refine wpAny_mono (q fr h₁ tk₁ R₁) (fun ub s₂ q => ?_) fun _ _ e => e
  obtain ⟨b, σ₂, h₂, tk₂, rfl, R₂, ib, bo, hc, q⟩ := q
  refine wpAny_mono (hc ρ ua ub ia ib fr h₂ tk₂ R₂) (fun uc s₃ z => ?_) fun _ _ e => e
  obtain ⟨v, σ₃, h₃, tk₃, rfl, R₃, iv, rfl, rfl⟩ := z
  have e : uc = .bool bo := iv
  subst e
  exact wpAny_truthy_bool ⟨_, _, _, rfl, R₃, q⟩
theorem Tr.plain {e : PySem.Expr} {whole : Sem Value} (h : EvV c S whole ρ σ fun v σ' => ∃ bo, v = .bool bo ∧ Ψ bo σ')
    (hp : plainTest e = true := by rfl) : EvB c S (isTrue e (c.env S) whole) ρ σ Ψ := by
  intro fr h' tk R
  refine isTrue_plain (wpAny_mono (h fr h' tk R) (fun u s₁ q => ?_) fun _ _ e => e) (test_eq hp)
  obtain ⟨v, σ', h1, tk1, rfl, R1, iv, bo, rfl, q⟩ := q
  have e : u = .bool bo := iv
  subst e
  exact wpAny_truthy_bool ⟨_, _, _, rfl, R1, q⟩
theorem Tr.not {e : PySem.Expr} {whole : Sem Value} (h : EvB c S (isTrue e (c.env S) (eval e (c.env S))) ρ σ fun b σ' => Ψ (!b) σ') : EvB c S (isTrue (.UnaryOp .Not e pos) (c.env S) whole) ρ σ Ψ :=
  fun fr h' tk R => isTrue_not (wpAny_mono (h fr h' tk R) (fun _ _ ⟨σ', h1, tk1, e, R1, q⟩ => ⟨σ', h1, tk1, e, R1, q⟩) fun _ _ e => e)
theorem Tr.andNil {whole : Sem Value} (h : Ψ true σ) : EvB c S (isTrue (.BoolOp .And [] pos) (c.env S) whole) ρ σ Ψ := fun _ _ _ R => isTrue_and_nil ⟨σ, _, _, rfl, R, h⟩
theorem Tr.orNil {whole : Sem Value} (h : Ψ false σ) : EvB c S (isTrue (.BoolOp .Or [] pos) (c.env S) whole) ρ σ Ψ := fun _ _ _ R => isTrue_or_nil ⟨σ, _, _, rfl, R, h⟩
theorem Tr.and {x : PySem.Expr} {rest : List PySem.Expr} {whole : Sem Value}
    (h : EvB c S (isTrue x (c.env S) (eval x (c.env S))) ρ σ fun b σ' => (b = true → EvB c S (isTrue (.BoolOp .And rest pos) (c.env S) whole) ρ σ' Ψ) ∧ (b = false → Ψ false σ')) : EvB c S (isTrue (.BoolOp .And (x :: rest) pos) (c.env S) whole) ρ σ Ψ := by
  intro fr h' tk R
  refine isTrue_and (wpAny_mono (h fr h' tk R) (fun b s₁ q => ?_) fun _ _ e => e)
  obtain ⟨σ', h1, tk1, rfl, R1, q1, q2⟩ := q
  cases b with
  | true => rw [if_pos rfl]; exact q1 rfl fr h1 tk1 R1
  | false => rw [if_neg Bool.false_ne_true]; exact ⟨_, _, _, rfl, R1, q2 rfl⟩
theorem Tr.or {x : PySem.Expr} {rest : List PySem.Expr} {whole : Sem Value}
    (h : EvB c S (isTrue x (c.env S) (eval x (c.env S))) ρ σ fun b σ' => (b = true → Ψ true σ') ∧ (b = false → EvB c S (isTrue (.BoolOp .Or rest pos) (c.env S) whole) ρ σ' Ψ)) : EvB c S (isTrue (.BoolOp .Or (x :: rest) pos) (c.env S) whole) ρ σ Ψ := by
  intro fr h' tk R
  refine isTrue_or (wpAny_mono (h fr h' tk R) (fun b s₁ q => ?_) fun _ _ e => e)
  obtain ⟨σ', h1, tk1, rfl, R1, q1, q2⟩ := q
  cases b with
  | true => rw [if_pos rfl]; exact ⟨_, _, _, rfl, R1, q1 rfl⟩
  | false => rw [if_neg Bool.false_ne_true]; exact q2 rfl fr h1 tk1 R1
/-- BoolOp as a value, over bools -/
theorem Ev.boolOne {op : BoolOp} {e : PySem.Expr} (h : EvV c S (eval e (c.env S)) ρ σ Φ) : EvV c S (eval (.BoolOp op [e] pos) (c.env S)) ρ σ Φ := fun fr h' tk R => BoolOp_one (h fr h' tk R)
theorem Ev.and {x y : PySem.Expr} {rest : List PySem.Expr}
    (h : EvV c S (eval x (c.env S)) ρ σ fun v σ' => ∃ b, v = .bool b ∧ (b = true → EvV c S (eval (.BoolOp .And (y :: rest) pos) (c.env S)) ρ σ' Φ) ∧ (b = false → Φ (.bool false) σ')) : EvV c S (eval (.BoolOp .And (x :: y :: rest) pos) (c.env S)) ρ σ Φ := by
  intro fr h' tk R
  refine BoolOp_and (wpAny_mono (h fr h' tk R) (fun u s₁ q => ?_) fun _ _ e => e)
  obtain ⟨v, σ', h1, tk1, rfl, R1, iv, b, rfl, q1, q2⟩ := q
  have e : u = .bool b := iv
  subst e
  refine wpAny_truthy_bool ?_
  cases b with
  | true => rw [if_pos rfl]; exact q1 rfl fr h1 tk1 R1
  | false => rw [if_neg Bool.false_ne_true]; exact ⟨.bool false, _, _, _, rfl, R1, rfl, q2 rfl⟩
theorem Ev.or {x y : PySem.Expr} {rest : List PySem.Expr}
    (h : EvV c S (eval x (c.env S)) ρ σ fun v σ' => ∃ b, v = .bool b ∧ (b = false → EvV c S (eval (.BoolOp .Or (y :: rest) pos) (c.env S)) ρ σ' Φ) ∧ (b = true → Φ (.bool true) σ')) : EvV c S (eval (.BoolOp .Or (x :: y :: rest) pos) (c.env S)) ρ σ Φ := by
  intro fr h' tk R
  refine BoolOp_or (wpAny_mono (h fr h' tk R) (fun u s₁ q => ?_) fun _ _ e => e)
  obtain ⟨v, σ', h1, tk1, rfl, R1, iv, b, rfl, q1, q2⟩ := q
  have e : u = .bool b := iv
  subst e
  refine wpAny_truthy_bool ?_
  cases b with
  | true => rw [if_pos rfl]; exact ⟨.bool true, _, _, _, rfl, R1, rfl, q2 rfl⟩
  | false => rw [if_neg Bool.false_ne_true]; exact q1 rfl fr h1 tk1 R1
theorem Ev.ifExp {t x y : PySem.Expr} (h : EvB c S (isTrue t (c.env S) (eval t (c.env S))) ρ σ fun b σ' => (b = true → EvV c S (eval x (c.env S)) ρ σ' Φ) ∧ (b = false → EvV c S (eval y (c.env S)) ρ σ' Φ)) : EvV c S (eval (.IfExp t x y pos) (c.env S)) ρ σ Φ := by
  intro fr h' tk R
  refine IfExp_ (wpAny_mono (h fr h' tk R) (fun b s₁ q => ?_) fun _ _ e => e)
  obtain ⟨σ', h1, tk1, rfl, R1, q1, q2⟩ := q
  cases b with
  | true => rw [if_pos rfl]; exact q1 rfl fr h1 tk1 R1
  | false => rw [if_neg Bool.false_ne_true]; exact q2 rfl fr h1 tk1 R1
/-! ## lists of expressions -/
variable {Θ : List V → Sg → Prop}
theorem El.nil (h : Θ [] σ) : EvL c S (spliced (backTo pos (starEach [] (c.env S)))) ρ σ Θ := fun _ _ _ R => spliced_none ⟨[], σ, _, _, rfl, R, .nil, h⟩
theorem El.cons {e : PySem.Expr} {rest : List PySem.Expr} (h : EvV c S (eval e (c.env S)) ρ σ fun v σ' => EvL c S (spliced (backTo pos (starEach rest (c.env S)))) ρ σ' fun vs => Θ (v :: vs))
    (hs : notStar e = true := by rfl) : EvL c S (spliced (backTo pos (starEach (e :: rest) (c.env S)))) ρ σ Θ := by
  intro fr h' tk R
  refine spliced_more (wpAny_mono (h fr h' tk R) (fun u s₁ q => ?_) fun _ _ e => e) (starEach_cons hs)
  obtain ⟨v, σ', h1, tk1, rfl, R1, iv, q⟩ := q
  refine wpAny_mono (q fr h1 tk1 R1) (fun us s₂ q => ?_) fun _ _ e => e
  obtain ⟨vs, σ₂, h2, tk2, rfl, R2, ivs, q⟩ := q
  exact ⟨_, _, _, _, rfl, R2, .cons iv ivs, q⟩
/-! ## calls of the text's own defs, by a global name -/
structure Fn (x : Str) (f : Addr) : Prop where
  ns : ∀ P, nsIn (KK P) mainGlobals x = some (some (.ref f))
  keep : ∀ P, keepIn (KK P) (.ref f) = true
theorem Ev.call {n : Nat} {x : Str} {f : Addr} {e : PySem.Expr} {rest : List PySem.Expr} {p' : Pos} (ok : c.Ok n) (hf : Fn x f)
    (h : EvL c S (spliced (backTo pos (starEach (e :: rest) (c.env S)))) ρ σ fun vs σ' => CallOk n f vs σ' Φ)
    (hx : S.names.lookup x = some .globalImplicit := by kernel_rfl) (hk : S.kind = .function := by rfl) (hd : (x == ("__debug__" : Str)) = false := by decide +kernel)
    (he : notStar e = true := by rfl) (hplain : rest.all notStar = true := by rfl) :
    EvV c S (eval (.Call (.Name x p') (e :: rest) [] pos) (c.env S)) ρ σ Φ := by
  intro fr h' tk R
  obtain ⟨mp, F, hm⟩ := R.frame
  refine Call_ (nameX_K F ok.X (topRead_of ok.T) (hf.ns _) ?_ hk hx hd) rfl
  refine callWith_K ok.X (hf.keep _) (wpAny_mono (h fr h' tk R) (fun us s₁ q => ?_) fun _ _ e => e) (starEach_cons he) (plain_any hplain)
  obtain ⟨vs, σ', h1, tk1, rfl, R1, ivs, q⟩ := q
  obtain ⟨mp1, F1, _⟩ := R1.frame
  exact ⟨ok.X.keeps F1.keep, q c S us ρ ok hk ivs fr h1 tk1 R1⟩
end
end
section
/-! ## the written part's few facts -/
structure AttrOk (C : Addr) (x : Str) : Prop where
  plain : ∀ P, plainGet (KK P) C x = true
  dict : ∀ P, hasDictIn (KK P) C = true
  at_ : ∃ a, (∀ P, findIn (KK P) (.ref C) x = some a) ∧ ∀ P, noGet (KK P) a = true
structure SetOk (C : Addr) (x : Str) : Prop where
  set : ∀ P, findIn (KK P) (.ref C) "__setattr__" = some (some (.builtin "object.__setattr__"))
  plain : ∀ P, plainOver (KK P) C = true
  taker : ∀ P, takerIn (KK P) C x = some none
  dict : ∀ P, hasDictIn (KK P) C = true
structure MethOk (C : Addr) (x : Str) (f : Addr) : Prop where
  plain : ∀ P, plainGet (KK P) C x = true
  at_ : ∀ P, findIn (KK P) (.ref C) x = some (some (.ref f))
  fn : ∀ P, isFn (KK P) (.ref f) = true
  keep : ∀ P, keepIn (KK P) (.ref f) = true
section
variable {c : Cx} {S : Scope} {ρ : Rho} {σ : Sg} {fr : Led} {h : Heap} {n : Nat}
theorem kTup_lt (ok : c.Ok n) {a : Addr} {ob : Ob} (e : kTup a = some ob) : ∃ us k, c.h₀.get? a = some ({ cls := .type "tuple", data := .seq us.toArray k } : Obj) ∧ (match ob with | .tup vs => VIs vs us | _ => False) := by
  have k89 : ∀ P, (KK P).lookup 89 = some ({ cls := .type "tuple", data := .seq #[.int 0 282, .int 1 283] } : Obj) := fun P => by kernel_rfl
  have k90 : ∀ P, (KK P).lookup 90 = some ({ cls := .type "tuple", data := .seq #[.int 1 285, .int 1 286] } : Obj) := fun P => by kernel_rfl
  unfold kTup at e
  split at e
  · rename_i q; cases e; subst q; exact ⟨[.int 0 282, .int 1 283], 0, ok.X _ _ (k89 _), .cons ⟨_, rfl⟩ (.cons ⟨_, rfl⟩ .nil)⟩
  · split at e
    · rename_i q; cases e; subst q; exact ⟨[.int 1 285, .int 1 286], 0, ok.X _ _ (k90 _), .cons ⟨_, rfl⟩ (.cons ⟨_, rfl⟩ .nil)⟩
    · cases e
/-- what the state says of an address stands in the heap -/
theorem Rel.obj (ok : c.Ok n) (R : Rel c ρ σ fr h) {a : Addr} {ob : Ob} (e : σ a = some ob) : ∃ o, h.get? a = some o ∧ ob.Is c.w o ∧ a ≠ c.L := by
  obtain ⟨mp, news, F, N, _, G, _⟩ := R
  rcases G.at_ a ob e with ⟨o, ho, hi, _⟩ | hk
  · exact ⟨o, (N _ (List.mem_append_left _ ho)).1, hi, (N _ (List.mem_append_left _ ho)).2.1⟩
  · obtain ⟨us, k, hg, hv⟩ := kTup_lt ok hk
    refine ⟨_, F.keep _ _ hg, ?_, Nat.ne_of_lt (Nat.lt_of_lt_of_le (Heap.lt_size hg) F.above)⟩
    cases ob <;> first | exact hv.elim | exact ⟨us, k, rfl, hv⟩
theorem Rel.fresh (ok : c.Ok n) (R : Rel c ρ σ fr h) : σ h.objs.size = none := by
  cases e : σ h.objs.size with
  | none => rfl
  | some ob =>
    obtain ⟨o, ho, _⟩ := R.obj ok e
    exact absurd (Heap.lt_size ho) (Nat.lt_irrefl _)
/-- a new object -/
theorem Rel.alloc (ok : c.Ok n) (R : Rel c ρ σ fr h) {o : Obj} {ob : Ob} (hi : ob.Is c.w o) (hf : o.isFreed = false) : Rel c ρ (upd σ h.objs.size ob) fr (h.push o) := by
  obtain ⟨mp, news, F, N, m, G, D⟩ := R
  have hlow : (h.objs.size == sysModules) = false := by
    have h1 := modules_low ok.T.nolimit
    have h2 := F.above
    have h3 := F.ns.lt
    exact beq_eq_false_iff_ne.mpr (Nat.ne_of_gt (Nat.lt_trans (Nat.lt_of_lt_of_le h1 h2) h3))
  refine ⟨mp, (h.objs.size, o) :: news, F.push o, News.push F N o hf, m, ⟨fun a x e => ?_⟩, fun p hp q hq => ?_⟩
  · unfold upd at e
    split at e
    · rename_i q; cases e; subst q; exact .inl ⟨o, .head _, hi, hlow⟩
    · rcases G.at_ a x e with ⟨o', h1, h2⟩ | h1
      · exact .inl ⟨o', .tail _ h1, h2⟩
      · exact .inr h1
  · rcases List.mem_cons.mp hq with rfl | hq
    · exact Nat.ne_of_lt (Heap.lt_size (N p (List.mem_append_right _ hp)).1)
    · exact D p hp q hq
/-- one object of the state at hand, the others behind it -/
theorem Rel.focus (R : Rel c ρ σ fr h) {d : Addr} {ob : Ob} (e : σ d = some ob) (hk : kTup d ≠ some ob) :
    ∃ mp o rest, Fr c.h₀ c.L h mp ∧ News c.h₀ c.L h ((d, o) :: rest) ∧ (∀ p ∈ rest, p.1 ≠ d) ∧ ob.Is c.w o ∧ (d == sysModules) = false ∧ (∀ x v, ρ x = some v → ∃ u, mp x = some u ∧ v.Is u) ∧
      (∀ a x, σ a = some x → a ≠ d → (∃ o, (a, o) ∈ rest ∧ x.Is c.w o) ∨ kTup a = some x) ∧
      ∀ h' o' ob', Fr c.h₀ c.L h' mp → News c.h₀ c.L h' ((d, o') :: rest) → ob'.Is c.w o' → Rel c ρ (upd σ d ob') fr h' := by
  obtain ⟨mp, news, F, N, m, G, D⟩ := R
  obtain ⟨o, ho, hi, hs⟩ : ∃ o, (d, o) ∈ news ∧ ob.Is c.w o ∧ (d == sysModules) = false := by
    rcases G.at_ d ob e with q | q
    · exact q
    · exact absurd q hk
  have hfr : ∀ p ∈ fr, p.1 ≠ d := fun p hp => D p hp _ ho
  refine ⟨mp, o, news.filter (fun p => p.1 ≠ d) ++ fr, F, ?_, ?_, hi, hs, m, ?_, ?_⟩
  · intro p hp
    rcases List.mem_cons.mp hp with rfl | hp
    · exact N _ (List.mem_append_left _ ho)
    · rcases List.mem_append.mp hp with hp | hp
      · exact N _ (List.mem_append_left _ (List.mem_filter.mp hp).1)
      · exact N _ (List.mem_append_right _ hp)
  · intro p hp
    rcases List.mem_append.mp hp with hp | hp
    · simpa using (List.mem_filter.mp hp).2
    · exact hfr p hp
  · intro a x ea hne
    rcases G.at_ a x ea with ⟨o', h1, h2, h3⟩ | h1
    · exact .inl ⟨o', List.mem_append_left _ (List.mem_filter.mpr ⟨h1, by simpa using hne⟩), h2⟩
    · exact .inr h1
  · intro h' o' ob' F' N' hi'
    refine ⟨mp, (d, o') :: news.filter (fun p => p.1 ≠ d), F', N', m, ⟨fun a x ea => ?_⟩, fun p hp q hq => ?_⟩
    · unfold upd at ea
      split at ea
      · rename_i q; cases ea; subst q; exact .inl ⟨o', .head _, hi', hs⟩
      · rename_i hne
        rcases G.at_ a x ea with ⟨o', h1, h2⟩ | h1
        · exact .inl ⟨o', .tail _ (List.mem_filter.mpr ⟨h1, by simpa using hne⟩), h2⟩
        · exact .inr h1
    · rcases List.mem_cons.mp hq with rfl | hq
      · exact hfr p hp
      · exact D p hp q (List.mem_filter.mp hq).1
/-- an object that changes -/
theorem Rel.change (R : Rel c ρ σ fr h) {d : Addr} {ob ob' : Ob} {h' : Heap} {o' : Obj} (e : σ d = some ob) (hk : kTup d ≠ some ob) (hs : Heap.SameBut d h h') (ho' : h'.get? d = some o') (hi : ob'.Is c.w o') : Rel c ρ (upd σ d ob') fr h' := by
  obtain ⟨mp, o, rest, F, N, hne, _, _, _, _, K⟩ := R.focus e hk
  have D := N (d, o) (.head _)
  exact K h' o' ob' (F.change hs D.2.1 D.2.2) (News.setIn (own := []) N (fun _ hp => nomatch hp) hne hs ho') hi
/-- the same state over a heap that keeps all objects -/
theorem Rel.keep (R : Rel c ρ σ fr h) {h' : Heap} (hk : ∀ b o, h.get? b = some o → h'.get? b = some o) : Rel c ρ σ fr h' := by
  obtain ⟨mp, news, F, N, m, G, D⟩ := R
  exact ⟨mp, news, ⟨F.ns.keeps hk, fun b o e => hk b o (F.keep b o e), F.above⟩, fun p hp => ⟨hk _ _ (N p hp).1, (N p hp).2⟩, m, G, D⟩
end
section
variable {c : Cx} {S : Scope} {ρ : Rho} {σ : Sg} {Φ : V → Sg → Prop} {pos : Pos} {n : Nat}
/-! ## tuples, lists made -/
theorem newTuple_ev {us : List Value} {vs : List V} (ok : c.Ok n) (hv : VIs vs us) (hz : vs.length ≤ sizeLine) (h : ∀ a, σ a = none → Φ (.ref a) (upd σ a (.tup vs))) : EvV c S (newTuple us) ρ σ Φ := by
  intro fr h' tk R
  obtain ⟨mp, news, F, N, _⟩ := id R
  have ha := R.alloc ok (o := { cls := .type "tuple", data := .seq us.toArray }) (ob := .tup vs) ⟨us, 0, rfl, hv⟩ rfl
  exact wpAny_newObj_type ⟨.ref h'.objs.size, _, _, _, rfl, ha, rfl, h _ (R.fresh ok)⟩ (by show us.toArray.size ≤ sizeLine; rw [List.size_toArray, hv.length]; exact hz)
theorem newList_ev {us : List Value} {vs : List V} (ok : c.Ok n) (hv : VIs vs us) (hz : vs.length ≤ sizeLine) (h : ∀ a, σ a = none → Φ (.ref a) (upd σ a (.list vs))) : EvV c S (newList us) ρ σ Φ := by
  intro fr h' tk R
  have ha := R.alloc ok (o := listOf us.toArray 0) (ob := .list vs) ⟨us, 0, rfl, hv⟩ rfl
  exact wpAny_newObj_type ⟨.ref h'.objs.size, _, _, _, rfl, ha, rfl, h _ (R.fresh ok)⟩ (by show us.toArray.size ≤ sizeLine; rw [List.size_toArray, hv.length]; exact hz)
theorem Ev.tuple {elts : List PySem.Expr} {k : Nat} (ok : c.Ok n)
    (h : EvL c S (spliced (backTo pos (starEach elts (c.env S)))) ρ σ fun vs σ' => vs.length ≤ sizeLine ∧ ∀ a, σ' a = none → Φ (.ref a) (upd σ' a (.tup vs))) : EvV c S (eval (.Tuple elts k pos) (c.env S)) ρ σ Φ := by
  intro fr h' tk R
  refine Tuple_ (wpAny_mono (h fr h' tk R) (fun us s₁ q => ?_) fun _ _ e => e)
  obtain ⟨vs, σ', h1, tk1, rfl, R1, ivs, hz, q⟩ := q
  exact newTuple_ev ok ivs hz q fr h1 tk1 R1
theorem Ev.list {elts : List PySem.Expr} (ok : c.Ok n)
    (h : EvL c S (spliced (backTo pos (starEach elts (c.env S)))) ρ σ fun vs σ' => vs.length ≤ sizeLine ∧ ∀ a, σ' a = none → Φ (.ref a) (upd σ' a (.list vs))) : EvV c S (eval (.List elts pos) (c.env S)) ρ σ Φ := by
  intro fr h' tk R
  refine List_ (wpAny_mono (h fr h' tk R) (fun us s₁ q => ?_) fun _ _ e => e)
  obtain ⟨vs, σ', h1, tk1, rfl, R1, ivs, hz, q⟩ := q
  exact newList_ev ok ivs hz q fr h1 tk1 R1
/-! ## items -/
/-- o[i] is v -/
noncomputable def Item (c : Cx) (S : Scope) (σ : Sg) (o i : V) (v : V) : Prop := ∀ ρ fr h tk uo ui, Rel c ρ σ fr h → o.Is uo → i.Is ui →
  ∃ T id, (c.sh h tk).TypeIs uo T ∧ typeLookup (.type T) "__getitem__" = pure (some (.builtin id)) ∧
    wpAny (model PW c.w) (c.A S) (getItem uo ui) (fun u s' => ∃ h' tk', s' = c.sh h' tk' ∧ Rel c ρ σ fr h' ∧ v.Is u) c.E (c.sh h tk)
theorem VIs.seq {vs : List V} {us : List Value} (h : VIs vs us) {i : Nat} {v : V} (hv : vs[i]? = some v) : ∃ u, us.toArray[i]? = some u ∧ v.Is u := by
  obtain ⟨u, a, b⟩ := h.get hv; exact ⟨u, by simpa using a, b⟩
theorem Item.tup {a : Addr} {vs : List V} {k : Int} {j : Nat} {v : V} (ok : c.Ok n) (e : σ a = some (.tup vs)) (hlo : -(2 ^ 63) ≤ k) (hhi : k < 2 ^ 63) (hj : seqIndex? k vs.length = some j) (hv : vs[j]? = some v) : Item c S σ (.ref a) (.int k) v := by
  intro ρ fr h tk uo ui R ho hi
  obtain rfl : uo = .ref a := ho
  obtain ⟨t, rfl⟩ := hi
  obtain ⟨o, hg, ⟨us, m, rfl, hvs⟩, _⟩ := R.obj ok e
  have hT : IsTup h a us.toArray := ⟨_, hg, rfl, m, rfl⟩
  obtain ⟨u, hu, iu⟩ := hvs.seq hv
  exact ⟨"tuple", _, hT.typeIs, slot_tuple_getitem.lookup, getItem_tuple hT hlo hhi (by rw [List.size_toArray, hvs.length]; exact hj) hu ⟨h, tk, rfl, R, iu⟩⟩
theorem Item.list {a : Addr} {vs : List V} {k : Int} {v : V} (ok : c.Ok n) (e : σ a = some (.list vs)) (h0 : 0 ≤ k) (hhi : k < 2 ^ 63) (hv : vs[k.toNat]? = some v) : Item c S σ (.ref a) (.int k) v := by
  intro ρ fr h tk uo ui R ho hi
  obtain rfl : uo = .ref a := ho
  obtain ⟨t, rfl⟩ := hi
  obtain ⟨o, hg, ⟨us, m, rfl, hvs⟩, _⟩ := R.obj ok e
  have hT : h.IsList a us.toArray := ⟨_, hg, rfl, m, rfl⟩
  obtain ⟨u, hu, iu⟩ := hvs.seq hv
  exact ⟨"list", _, hT.typeIs, slot_list_getitem.lookup, wpAny_getItem_list hT h0 hhi hu ⟨h, tk, rfl, R, iu⟩⟩
theorem PIs.valueAt {α : Type} [DecidableEq α] {kvs : List (α × V)} {us : List (α × Value)} (h : PIs kvs us) (k : α) :
    match (kvs.find? fun p => p.1 = k).map (·.2) with
    | some v => ∃ u, PySem.valueAt us k = some u ∧ v.Is u
    | none => PySem.valueAt us k = none := by
  induction h with
  | nil => rfl
  | @cons k' v u vs us h1 _ ih =>
    by_cases q : k' = k
    · simp only [List.find?_cons, q, decide_true, Option.map_some, PySem.valueAt]; exact ⟨u, rfl, h1⟩
    · simp only [List.find?_cons, q, decide_false, PySem.valueAt] at ih ⊢; exact ih
/-- a dict's value at a key -/
noncomputable def dget {α : Type} [DecidableEq α] (kvs : List (α × V)) (k : α) : Option V := (kvs.find? fun p => p.1 = k).map (·.2)
noncomputable def dput {α : Type} [DecidableEq α] (kvs : List (α × V)) (k : α) (v : V) : List (α × V) :=
  if kvs.any (fun kv => kv.1 = k) then kvs.map (fun kv => if kv.1 = k then (kv.1, v) else kv) else kvs ++ [(k, v)]
theorem PIs.get {α : Type} [DecidableEq α] {kvs : List (α × V)} {us : List (α × Value)} (h : PIs kvs us) {k : α} {v : V} (e : dget kvs k = some v) : ∃ u, PySem.valueAt us k = some u ∧ v.Is u := by
  have := h.valueAt k; unfold dget at e; rw [e] at this; exact this
theorem PIs.miss {α : Type} [DecidableEq α] {kvs : List (α × V)} {us : List (α × Value)} (h : PIs kvs us) {k : α} (e : dget kvs k = none) : PySem.valueAt us k = none := by
  have := h.valueAt k; unfold dget at e; rw [e] at this; exact this
theorem PIs.put {α : Type} [DecidableEq α] {kvs : List (α × V)} {us : List (α × Value)} (h : PIs kvs us) (k : α) {v : V} {u : Value} (hi : v.Is u) : PIs (dput kvs k v) (stored us k u) := by
  have hany : us.any (fun kv => kv.1 = k) = kvs.any (fun kv => kv.1 = k) := by
    induction h with
    | nil => rfl
    | cons _ _ ih => simp only [List.any_cons, ih]
  unfold dput stored
  rw [hany]
  split
  · clear hany
    rename_i hh; clear hh
    induction h with
    | nil => exact .nil
    | @cons k' v' u' vs us h1 _ ih =>
      simp only [List.map_cons]
      by_cases q : k' = k
      · simp only [q, if_true]; exact .cons hi ih
      · simp only [q, if_false]; exact .cons h1 ih
  · clear hany
    rename_i hh; clear hh
    induction h with
    | nil => exact .cons hi .nil
    | cons h1 _ ih => exact .cons h1 ih
theorem PIs.length {α : Type} {kvs : List (α × V)} {us : List (α × Value)} (h : PIs kvs us) : us.length = kvs.length := by
  induction h with
  | nil => rfl
  | cons _ _ ih => simp [ih]
theorem Rel.idict (ok : c.Ok n) {fr : Led} {h : Heap} (R : Rel c ρ σ fr h) {d : Addr} {kvs : List (Int × V)} (e : σ d = some (.idict kvs)) : ∃ us, h.DictOf (intKind PW c.w) d us ∧ PIs kvs us := by
  obtain ⟨o, hg, ⟨us, hd, hp⟩, _⟩ := R.obj ok e
  exact ⟨us, Heap.dictOf_iff.mpr ⟨o, hg, hd⟩, hp⟩
theorem Item.idict {d : Addr} {kvs : List (Int × V)} {k : Int} {v : V} (ok : c.Ok n) (e : σ d = some (.idict kvs)) (hv : dget kvs k = some v) : Item c S σ (.ref d) (.int k) v := by
  intro ρ fr h tk uo ui R ho hi
  obtain rfl : uo = .ref d := ho
  obtain ⟨t, rfl⟩ := hi
  obtain ⟨us, hd, hp⟩ := R.idict ok e
  obtain ⟨u, hu, iu⟩ := hp.get hv
  exact ⟨"dict", _, hd.typeIs, slot_dict_getitem.lookup, wpAny_getItem_of (intKind_is PW c.w k t) hd.mapOf hu ⟨h, tk + 1, rfl, R, iu⟩⟩
theorem Ev.item {e i : PySem.Expr} (h : EvV c S (eval e (c.env S)) ρ σ fun o σ₁ => EvV c S (eval i (c.env S)) ρ σ₁ fun iv σ₂ => ∃ v, Item c S σ₂ o iv v ∧ Φ v σ₂)
    (hs : notSlice i = true := by rfl) : EvV c S (eval (.Subscript e i pos) (c.env S)) ρ σ Φ := by
  intro fr h' tk R
  refine Subscript_ (wpAny_mono (h fr h' tk R) (fun uo s₁ q => ?_) fun _ _ e => e)
  obtain ⟨o, σ₁, h₁, tk₁, rfl, R₁, io, q⟩ := q
  refine wpAny_mono (q fr h₁ tk₁ R₁) (fun ui s₂ q => ?_) fun _ _ e => e
  obtain ⟨iv, σ₂, h₂, tk₂, rfl, R₂, ii, v, hI, q⟩ := q
  obtain ⟨T, id, hT, hl, hg⟩ := hI ρ fr h₂ tk₂ uo ui R₂ io ii
  exact tail_any hT hl (wpAny_mono hg (fun u s₃ ⟨h3, tk3, e, R3, iu⟩ => ⟨v, σ₂, h3, tk3, e, R3, iu, q⟩) fun _ _ e => e) (sub_eq hs)
end
end
section
/-! ## dicts with str keys: attributes, the tape -/
theorem StrEs.find {w : World} {kvs : List (Str × V)} {es : List DictEntry} (h : StrEs w kvs es) (x : Str) :
    match dget kvs x with
    | some v => ∃ u, getL x es = some (some u) ∧ v.Is u
    | none => getL x es = some none := by
  have key : (match dget kvs x with
    | some v => ∃ e, es.find? (·.key.isStr x) = some e ∧ v.Is e.val
    | none => es.find? (·.key.isStr x) = none) ∧ es.any (·.refKey) = false := by
    induction h with
    | nil => exact ⟨rfl, rfl⟩
    | @cons k t v u kvs es h1 _ ih =>
      refine ⟨?_, ?_⟩
      · have e : (Value.str k t).isStr x = decide (k = x) := by
          show (k == x) = decide (k = x)
          by_cases q : k = x <;> simp [q]
        by_cases q : k = x
        · have d : dget ((k, v) :: kvs) x = some v := by simp [dget, q]
          rw [d]
          exact ⟨⟨PyData.keyHash w.params k, .str k t, u⟩, by rw [List.find?_cons, e, decide_eq_true q], h1⟩
        · have d : dget ((k, v) :: kvs) x = dget kvs x := by simp [dget, q]
          rw [d, List.find?_cons, e, decide_eq_false q]
          exact ih.1
      · rw [List.any_cons, ih.2]; rfl
  unfold getL
  obtain ⟨h1, h2⟩ := key
  cases q : dget kvs x with
  | some v => rw [q] at h1; obtain ⟨e, he, hv⟩ := h1; exact ⟨e.val, by rw [he], hv⟩
  | none => rw [q] at h1; dsimp only; rw [h1, h2]; rfl
theorem StrEs.put {w : World} {kvs : List (Str × V)} {es : List DictEntry} (h : StrEs w kvs es) {x : Str} {t : Tok} {v : V} {u : Value} (hi : v.Is u) (hn : (kvs.map (·.1)).Nodup) :
    StrEs w (dput kvs x v) (putL x (PyData.keyHash w.params x) (.str x t) u es) := by
  have e : ∀ (k : Str) (t : Tok), (Value.str k t).isStr x = decide (k = x) := fun k t => by
    show (k == x) = decide (k = x)
    by_cases q : k = x <;> simp [q]
  induction h with
  | nil => exact .cons hi .nil
  | @cons k t' v' u' kvs es h1 h2 ih =>
    rw [List.map_cons, List.nodup_cons] at hn
    unfold putL
    simp only [e]
    by_cases q : k = x
    · subst q
      have hno : ∀ kv ∈ kvs, kv.1 ≠ k := fun kv hk he => hn.1 (List.mem_map.mpr ⟨kv, hk, he⟩)
      have hm : kvs.map (fun kv => if kv.1 = k then (kv.1, v) else kv) = kvs := by
        have : ∀ kv ∈ kvs, (if kv.1 = k then (kv.1, v) else kv) = id kv := fun kv hk => if_neg (hno kv hk)
        rw [List.map_congr_left this, List.map_id]
      simp only [dput, List.any_cons, decide_true, Bool.true_or, if_true, List.map_cons, hm]
      exact .cons hi h2
    · have ih' := ih hn.2
      simp only [q, decide_false, Bool.false_eq_true, if_false]
      have : dput ((k, v') :: kvs) x v = (k, v') :: dput kvs x v := by
        unfold dput
        simp only [List.any_cons, q, decide_false, Bool.false_or]
        split
        · simp [q]
        · rfl
      rw [this]
      exact .cons h1 ih'
theorem StrEs.length {w : World} {kvs : List (Str × V)} {es : List DictEntry} (h : StrEs w kvs es) : es.length = kvs.length := by
  induction h with
  | nil => rfl
  | cons _ _ ih => simp [ih]
theorem dput_length {α : Type} [DecidableEq α] (kvs : List (α × V)) (k : α) (v : V) : (dput kvs k v).length ≤ kvs.length + 1 := by
  unfold dput; split <;> simp
section
variable {c : Cx} {S : Scope} {ρ : Rho} {σ : Sg} {Φ : V → Sg → Prop} {pos : Pos} {n : Nat}
theorem V.Is.handed {v : V} {u : Value} (h : v.Is u) : handedIn u = true := by
  cases v <;> (first | (obtain ⟨t, rfl⟩ := h; rfl) | (have e : u = _ := h; subst e; rfl))
/-- x is an object of the class C, its fields are kvs -/
structure InstIs (σ : Sg) (x C dx : Addr) (kvs : List (Str × V)) : Prop where
  obj : σ x = some (.inst C dx)
  dict : σ dx = some (.sdict kvs)
theorem Rel.inst (ok : c.Ok n) {fr : Led} {h : Heap} (R : Rel c ρ σ fr h) {x C dx : Addr} {kvs : List (Str × V)} (I : InstIs σ x C dx kvs) :
    ∃ es k, W.InstAt h x (instObj C dx) C (some (dictOf es k)) ∧ StrEs c.w kvs es := by
  obtain ⟨o, h1, h2, _⟩ := R.obj ok I.obj
  obtain ⟨o', h3, ⟨es, k, rfl, h4⟩, _⟩ := R.obj ok I.dict
  have e : o = instObj C dx := h2
  subst e
  exact ⟨es, k, ⟨h1, rfl, rfl, h3⟩, h4⟩
theorem Ev.attr {e : PySem.Expr} {x : Str} (ok : c.Ok n) (h : EvV c S (eval e (c.env S)) ρ σ fun o σ' => ∃ a C dx kvs v, o = .ref a ∧ InstIs σ' a C dx kvs ∧ dget kvs x = some v ∧ AttrOk C x ∧ Φ v σ')
    (hs : okBase e = true := by rfl) : EvV c S (eval (.Attribute e x pos) (c.env S)) ρ σ Φ := by
  intro fr h' tk R
  refine Attribute_any_ (wpAny_mono (h fr h' tk R) (fun u s₁ q => ?_) fun _ _ e => e) (attr_eq hs)
  obtain ⟨v, σ', h1, tk1, rfl, R1, iv, a, C, dx, kvs, v', rfl, I, hg, A, q⟩ := q
  obtain rfl : u = .ref a := iv
  obtain ⟨es, k, hI, hE⟩ := R1.inst ok I
  obtain ⟨mp, F, _⟩ := R1.frame
  have hf := hE.find x
  rw [hg] at hf
  obtain ⟨u', hu, iu⟩ := hf
  obtain ⟨at', a1, a2⟩ := A.at_
  exact get_own F ok.X hI (A.plain _) (A.dict _) (a1 _) (a2 _) hu iu.handed ⟨v', σ', h1, _, rfl, R1, iu, q⟩
/-! ## methods of the text's own classes -/
/-! ## methods of built-in types -/
/-- a method of a built-in type: what the call does once its arguments are there -/
noncomputable def BMeth (c : Cx) (S : Scope) (σ : Sg) (o : V) (x : Str) (id : String) : Prop := ∀ ρ fr h tk uo, Rel c ρ σ fr h → o.Is uo →
  ∃ T, (c.sh h tk).TypeIs uo T ∧ PlainAttrs T ∧ Slot T x id ∧ typeOf (.builtin id) = pure (.type "method_descriptor") ∧ ∀ a, uo = .ref a → ∃ ob, h.get? a = some ob ∧ ob.dict = none
/-- a built-in function's call -/
noncomputable def BCall (c : Cx) (S : Scope) (id : String) (vs : List V) (σ : Sg) (Φ : V → Sg → Prop) : Prop := ∀ ρ us, VIs vs us → EvV c S (call (.builtin id) us) ρ σ Φ
theorem BMeth.list {a : Addr} {vs : List V} {x : Str} {id : String} (ok : c.Ok n) (e : σ a = some (.list vs)) (hs : Slot "list" x id) (ht : typeOf (.builtin id) = pure (.type "method_descriptor")) : BMeth c S σ (.ref a) x id := by
  intro ρ fr h tk uo R ho
  obtain rfl : uo = .ref a := ho
  obtain ⟨o, hg, ⟨us, m, rfl, hvs⟩, _⟩ := R.obj ok e
  exact ⟨"list", ⟨_, hg, rfl⟩, F.plainAttrs_list, hs, ht, fun b q => by cases q; exact ⟨_, hg, rfl⟩⟩
theorem BMeth.idict {a : Addr} {kvs : List (Int × V)} {x : Str} {id : String} (ok : c.Ok n) (e : σ a = some (.idict kvs)) (hs : Slot "dict" x id) (ht : typeOf (.builtin id) = pure (.type "method_descriptor")) : BMeth c S σ (.ref a) x id := by
  intro ρ fr h tk uo R ho
  obtain rfl : uo = .ref a := ho
  obtain ⟨us, hd, hp⟩ := R.idict ok e
  exact ⟨"dict", hd.typeIs, F.plainAttrs_dict, hs, ht, hd.mapOf.noDict⟩
theorem BMeth.kdict {a : Addr} {kvs : List (Nd × Addr × V)} {x : Str} {id : String} (ok : c.Ok n) (e : σ a = some (.kdict kvs)) (hs : Slot "dict" x id) (ht : typeOf (.builtin id) = pure (.type "method_descriptor")) : BMeth c S σ (.ref a) x id := by
  intro ρ fr h tk uo R ho
  obtain rfl : uo = .ref a := ho
  obtain ⟨o, hg, ⟨es, k, rfl, _⟩, _⟩ := R.obj ok e
  exact ⟨"dict", ⟨_, hg, rfl⟩, F.plainAttrs_dict, hs, ht, fun b q => by cases q; exact ⟨_, hg, rfl⟩⟩
/-- list.append -/
theorem BCall.append {a : Addr} {vs : List V} {v : V} (e : σ a = some (.list vs)) (hz : vs.length ≤ sizeLine) (h : Φ .none (upd σ a (.list (vs ++ [v])))) : BCall c S "list.append" [.ref a, v] σ Φ := by
  rintro ρ us hv fr h' tk R
  cases hv with
  | cons h1 hv => cases hv with
    | cons h2 hv => cases hv; rename_i u0 u
                    obtain rfl : u0 = .ref a := h1
                    have hk : kTup a ≠ some (.list vs) := by unfold kTup; repeat' split <;> simp
                    obtain ⟨mp, o, rest, F, N, hne, ⟨ws, m, rfl, hvs⟩, _, _, _, K⟩ := R.focus e hk
                    refine append_K F N (Upd.head hne) (fun h1 F1 N1 => ⟨.none, _, h1, tk, rfl, K h1 _ (.list (vs ++ [v])) F1 N1 ⟨ws ++ [u], m + 1, by simp, hvs.append (.cons h2 .nil)⟩, rfl, h⟩) (by rw [List.size_toArray, hvs.length]; exact hz)
/-! ## built-in functions by name -/
theorem Ev.bcall {n : Nat} {x : Str} {id : String} {a1 : PySem.Expr} {r : List PySem.Expr} {p' : Pos} (ok : c.Ok n) (hb : bootBuiltins x = some (.builtin id)) (hg : ∀ P, nsIn (KK P) mainGlobals x = some none) (hn : x ≠ "__name__")
    (h : EvL c S (spliced (backTo pos (starEach (a1 :: r) (c.env S)))) ρ σ fun vs σ' => BCall c S id vs σ' Φ)
    (hx : S.names.lookup x = some .globalImplicit := by kernel_rfl) (hk : S.kind = .function := by rfl) (hd : (x == ("__debug__" : Str)) = false := by decide +kernel)
    (hr : (a1 :: r).all notStar = true := by rfl) :
    EvV c S (eval (.Call (.Name x p') (a1 :: r) [] pos) (c.env S)) ρ σ Φ := by
  intro fr h' tk R
  obtain ⟨mp, F, hm⟩ := R.frame
  refine Call_ (nameX_B F ok.X (topRead_of ok.T) (hg _) hb hn ?_ hk hx hd) rfl
  refine PyProof.Rows.callWith_builtin1 (wpAny_mono (h fr h' tk R) (fun us s₁ q => ?_) fun _ _ e => e) (starEach_cons (env := c.env S) (by have := hr; rw [List.all_cons, Bool.and_eq_true] at this; exact this.1)) (plain_any (by have := hr; rw [List.all_cons, Bool.and_eq_true] at this; exact this.2))
  obtain ⟨vs, σ', h1, tk1, rfl, R1, ivs, q⟩ := q
  exact q ρ us ivs fr h1 tk1 R1
theorem BCall.lenList {a : Addr} {vs : List V} (ok : c.Ok n) (e : σ a = some (.list vs)) (hz : (vs.length : Int) < 2 ^ 63) (h : Φ (.int vs.length) σ) : BCall c S "len" [.ref a] σ Φ := by
  rintro ρ us hv fr h' tk R
  cases hv with
  | cons h1 hv => cases hv; rename_i u0
                  obtain rfl : u0 = .ref a := h1
                  obtain ⟨o, hg, ⟨ws, m, rfl, hvs⟩, _⟩ := R.obj ok e
                  have hl : h'.IsList a ws.toArray := ⟨_, hg, rfl, m, rfl⟩
                  have e2 : ws.toArray.size = vs.length := by rw [List.size_toArray, hvs.length]
                  refine Calls.call_len_list hl (by rw [e2]; exact hz) ?_
                  rw [e2]
                  exact ⟨.int vs.length, σ, h', _, rfl, R, ⟨_, rfl⟩, h⟩
theorem BCall.lenIdict {a : Addr} {kvs : List (Int × V)} (ok : c.Ok n) (e : σ a = some (.idict kvs)) (hz : (kvs.length : Int) < 2 ^ 63) (h : Φ (.int kvs.length) σ) : BCall c S "len" [.ref a] σ Φ := by
  rintro ρ us hv fr h' tk R
  cases hv with
  | cons h1 hv => cases hv; rename_i u0
                  obtain rfl : u0 = .ref a := h1
                  obtain ⟨ws, hd, hp⟩ := R.idict ok e
                  have hk : kTup a ≠ some (.idict kvs) := by unfold kTup; repeat' split <;> simp
                  obtain ⟨_, _, _, _, _, _, _, hs, _⟩ := R.focus e hk
                  refine call_len_dict hs hd (by rw [hp.length]; exact hz) ?_
                  rw [hp.length]
                  exact ⟨.int kvs.length, σ, h', _, rfl, R, ⟨_, rfl⟩, h⟩
theorem BCall.abs {i : Int} (h : Φ (.int (i.natAbs : Int)) σ) : BCall c S "abs" [.int i] σ Φ := by
  rintro ρ us hv fr h' tk R
  cases hv with
  | cons h1 hv => cases hv
                  obtain ⟨t, rfl⟩ := h1
                  have e : (if i < 0 then -i else i) = (i.natAbs : Int) := by split <;> (first | lia | omega)
                  refine call_abs_int fun u k => ?_
                  rw [e]
                  exact ⟨.int _, σ, h', k, rfl, R, ⟨_, rfl⟩, h⟩
end
end
section
/-! ## statements -/
section
variable {c : Cx} {S : Scope} {ρ : Rho} {σ : Sg} {Φ : Fl → Rho → Sg → Prop} {pos : Pos} {n : Nat}
theorem ExS.mono {t : Sem Flow} {Φ' : Fl → Rho → Sg → Prop} (h : ExS c t S ρ σ Φ) (hi : ∀ f ρ' σ', Φ f ρ' σ' → Φ' f ρ' σ') : ExS c t S ρ σ Φ' :=
  fun fr h' tk R => wpAny_mono (h fr h' tk R) (fun _ _ ⟨f, ρ', σ', h1, tk1, e, r, i, k⟩ => ⟨f, ρ', σ', h1, tk1, e, r, i, hi f ρ' σ' k⟩) fun _ _ e => e
theorem Exs.nil (h : Φ .next ρ σ) : Exs c S [] ρ σ Φ := fun _ _ _ R => wpAny_execs_nil ⟨.next, ρ, σ, _, _, rfl, R, rfl, h⟩
/-- a statement, then the rest -/
noncomputable def Then (c : Cx) (S : Scope) (rest : List Stmt) (Φ : Fl → Rho → Sg → Prop) (f : Fl) (ρ : Rho) (σ : Sg) : Prop := match f with
  | .next => Exs c S rest ρ σ Φ
  | f => Φ f ρ σ
theorem Exs.cons {st : Stmt} {rest : List Stmt} (h : ExS c (exec st (c.env S)) S ρ σ (Then c S rest Φ)) : Exs c S (st :: rest) ρ σ Φ := by
  intro fr h' tk R
  refine wpAny_execs_cons (wpAny_mono (h fr h' tk R) (fun u s₁ q => ?_) fun _ _ e => e)
  obtain ⟨f, ρ', σ', h1, tk1, rfl, R1, i, q⟩ := q
  cases f with
  | next => have e : u = .next := i; subst e; exact q fr h1 tk1 R1
  | brk => have e : u = .brk := i; subst e; exact ⟨.brk, ρ', σ', h1, tk1, rfl, R1, rfl, q⟩
  | cont => have e : u = .cont := i; subst e; exact ⟨.cont, ρ', σ', h1, tk1, rfl, R1, rfl, q⟩
  | ret v => obtain ⟨w, rfl, iv⟩ := i; exact ⟨.ret v, ρ', σ', h1, tk1, rfl, R1, ⟨w, rfl, iv⟩, q⟩
theorem store_ev {x : Str} {v : V} {u : Value} {fr : Led} {h' : Heap} {tk : Nat} {Q : Unit → Shared → Prop} (R : Rel c ρ σ fr h') (hi : v.Is u) (h : ∀ h1 tk1, Rel c (put ρ x v) σ fr h1 → Q () (c.sh h1 tk1))
    (hx : S.names.lookup x = some .local) (hk : S.kind = .function) : wpAny (model PW c.w) (c.A S) (storeName (c.env S) x u) Q c.E (c.sh h' tk) := by
  obtain ⟨mp, news, F, N, m, G, D⟩ := R
  refine storeX_L F N (fun h1 F1 N1 => h h1 _ ⟨_, news, F1, N1, fun y w hy => ?_, G, D⟩) hk hx
  unfold put at hy
  by_cases q : y = x
  · rw [if_pos q] at hy; cases hy; exact ⟨u, if_pos q, hi⟩
  · rw [if_neg q] at hy; obtain ⟨u', h1, h2⟩ := m y w hy; exact ⟨u', by rw [if_neg q]; exact h1, h2⟩
theorem Ex.assign {x : Str} {px : Pos} {e : PySem.Expr} (h : EvV c S (eval e (c.env S)) ρ σ fun v σ' => Φ .next (put ρ x v) σ')
    (hx : S.names.lookup x = some .local := by kernel_rfl) (hk : S.kind = .function := by kernel_rfl) (hs : notComp e = true := by rfl) :
    ExS c (exec (.Assign [.Name x px] e pos) (c.env S)) S ρ σ Φ := by
  intro fr h' tk R
  refine wpAny_Assign_Name (wpAny_mono (h fr h' tk R) (fun u s₁ q => ?_) fun _ _ e => e) (swaps_eq hs)
  obtain ⟨v, σ', h1, tk1, rfl, R1, iv, q⟩ := q
  exact store_ev R1 iv (fun h2 tk2 R2 => ⟨.next, _, σ', h2, tk2, rfl, R2, rfl, q⟩) hx hk
theorem Ex.ret {e : PySem.Expr} (h : EvV c S (eval e (c.env S)) ρ σ fun v σ' => Φ (.ret v) ρ σ') : ExS c (exec (.Return (some e) pos) (c.env S)) S ρ σ Φ := by
  intro fr h' tk R
  refine wpAny_Return_some (wpAny_mono (h fr h' tk R) (fun u s₁ q => ?_) fun _ _ e => e)
  obtain ⟨v, σ', h1, tk1, rfl, R1, iv, q⟩ := q
  exact ⟨.ret v, ρ, σ', h1, tk1, rfl, R1, ⟨u, rfl, iv⟩, q⟩
theorem Ex.expr {e : PySem.Expr} (h : EvV c S (eval e (c.env S)) ρ σ fun v σ' => (∀ a, v ≠ .ref a) ∧ Φ .next ρ σ')
    (hk : S.kind = .function := by rfl) (hs : notComp e = true := by rfl) : ExS c (exec (.Expr e pos) (c.env S)) S ρ σ Φ := by
  intro fr h' tk R
  refine wpAny_Expr (wpAny_mono (h fr h' tk R) (fun u s₁ q => ?_) fun _ _ e => e) (by unfold interactive; rw [show (c.env S).scope.kind = .function from hk]; rfl) (swaps_eq hs)
  obtain ⟨v, σ', h1, tk1, rfl, R1, iv, hv, q⟩ := q
  have : ∀ a, u ≠ .ref a := by
    intro a e; subst e
    cases v with
    | ref b => exact hv b rfl
    | none => cases (iv : Value.ref a = .none)
    | bool b => cases (iv : Value.ref a = .bool b)
    | int i => obtain ⟨t, z⟩ := iv; cases z
    | str s => obtain ⟨t, z⟩ := iv; cases z
  cases u <;> first | exact ⟨.next, ρ, σ', h1, tk1, rfl, R1, rfl, q⟩ | exact absurd rfl (this _)
theorem Ex.if {t : PySem.Expr} {body orelse : List Stmt} (h : EvB c S (isTrue t (c.env S) (eval t (c.env S))) ρ σ fun b σ' => (b = true → Exs c S body ρ σ' Φ) ∧ (b = false → Exs c S orelse ρ σ' Φ)) :
    ExS c (exec (.If t body orelse pos) (c.env S)) S ρ σ Φ := by
  intro fr h' tk R
  refine wpAny_If (wpAny_mono (h fr h' tk R) (fun b s₁ q => ?_) fun _ _ e => e)
  obtain ⟨σ', h1, tk1, rfl, R1, q1, q2⟩ := q
  cases b with
  | true => rw [if_pos rfl]; exact q1 rfl fr h1 tk1 R1
  | false => rw [if_neg Bool.false_ne_true]; exact q2 rfl fr h1 tk1 R1
theorem Ex.continue (h : Φ .cont ρ σ) : ExS c (exec (.Continue pos) (c.env S)) S ρ σ Φ := fun _ _ _ R => wpAny_Continue ⟨.cont, ρ, σ, _, _, rfl, R, rfl, h⟩
theorem unpack_ev {a : Addr} {vs : List V} {m : Nat} {fr : Led} {h' : Heap} {tk : Nat} {Q : List Value → Shared → Prop} (ok : c.Ok n) (R : Rel c ρ σ fr h') (e : σ a = some (.tup vs) ∨ σ a = some (.list vs)) (hm : m = vs.length)
    (h : ∀ us g, Rel c ρ σ fr g → VIs vs us → Q us (c.sh g tk)) : wpAny (model PW c.w) (c.A S) (unpackItems (.ref a) m none) Q c.E (c.sh h' tk) := by
  have key : ∀ g, Heap.ExtBut h'.objs.size h' g → Rel c ρ σ fr g := fun g he => R.keep fun b o z => he b o (Nat.ne_of_lt (Heap.lt_size z)) z
  rcases e with e | e
  · obtain ⟨o, hg, ⟨us, k, rfl, hvs⟩, _⟩ := R.obj ok e
    have hm' : m = us.toArray.size := by rw [List.size_toArray, hvs.length]; exact hm
    have hIT : IsTup h' a us.toArray := ⟨_, hg, rfl, k, rfl⟩
    rw [hm']
    exact unpackItems_tuple (s := c.sh h' tk) rfl hIT fun g he => h us g (key g he) hvs
  · obtain ⟨o, hg, ⟨us, k, rfl, hvs⟩, _⟩ := R.obj ok e
    have hm' : m = us.toArray.size := by rw [List.size_toArray, hvs.length]; exact hm
    have hIL : h'.IsList a us.toArray := ⟨_, hg, rfl, k, rfl⟩
    rw [hm']
    exact kun_itemsOf (s := c.sh h' tk) rfl hIL fun g he => h us g (key g he) hvs
/-- a, b = (x, y): the display is made, unpacked, stored -/
theorem Ex.pair {x y : Str} {px py tp dp : Pos} {k k' : Nat} {e f : PySem.Expr} (ok : c.Ok n)
    (h : EvV c S (eval e (c.env S)) ρ σ fun v σ₁ => EvV c S (eval f (c.env S)) ρ σ₁ fun w σ₂ => ∀ a, σ₂ a = none → Φ .next (put (put ρ y w) x v) (upd σ₂ a (.tup [v, w])))
    (hx : S.names.lookup x = some .local := by kernel_rfl) (hy : S.names.lookup y = some .local := by kernel_rfl) (hk : S.kind = .function := by rfl)
    (h2 : swappedStores [.Tuple [.Name x px, .Name y py] k tp] (.Tuple [e, f] k' dp) (c.env S) = pure (some [x, y]) := by kernel_rfl)
    (he : notStar e = true := by rfl) (hf : notStar f = true := by rfl) :
    ExS c (exec (.Assign [.Tuple [.Name x px, .Name y py] k tp] (.Tuple [e, f] k' dp) pos) (c.env S)) S ρ σ Φ := by
  intro fr h' tk R
  have two : ∀ v w : V, [v, w].length ≤ sizeLine := fun _ _ => Nat.le_of_ble_eq_true rfl
  have hT : EvV c S (eval (.Tuple [e, f] k' dp) (c.env S)) ρ σ fun v σ' => ∃ a v1 v2, v = .ref a ∧ σ' a = some (.tup [v1, v2]) ∧ Φ .next (put (put ρ y v2) x v1) σ' :=
    Ev.tuple ok (El.cons (h.mono fun v σ₁ q => El.cons (q.mono fun w σ₂ q => El.nil ⟨two v w, fun a ha => ⟨a, v, w, rfl, by unfold upd; exact if_pos rfl, q a ha⟩⟩) hf) he)
  refine Assign_Tuple_swapped (names := [x, y]) (wpAny_mono (hT fr h' tk R) (fun u s₁ q => ?_) fun _ _ e => e) (swapsSole_eq rfl) h2
  obtain ⟨v, σ', g1, tk1, rfl, R1, iv, a, v1, v2, rfl, ha, q⟩ := q
  have iu : u = .ref a := iv
  subst iu
  refine unpack_ev ok R1 (.inl ha) rfl fun us g R2 hvs => ?_
  cases hvs with
  | cons i1 hvs => cases hvs with
    | cons i2 hvs =>
      cases hvs
      refine assignInOrder_cons (bindName_ (store_ev R2 i2 (fun g3 tk3 R3 => ?_) hy hk))
      refine assignInOrder_cons (bindName_ (store_ev R3 i1 (fun g4 tk4 R4 => ?_) hx hk))
      exact assignInOrder_nil ⟨.next, _, _, g4, tk4, rfl, R4, rfl, q⟩
end
end
section
/-! ## forgetting -/
noncomputable def Sub (σ σ' : Sg) : Prop := ∀ a x, σ a = some x → σ' a = some x
theorem Sub.refl {σ : Sg} : Sub σ σ := fun _ _ e => e
theorem Sub.trans {σ σ' σ'' : Sg} (h : Sub σ σ') (h' : Sub σ' σ'') : Sub σ σ'' := fun a x e => h' a x (h a x e)
noncomputable def RSub (ρ ρ' : Rho) : Prop := ∀ x v, ρ x = some v → ρ' x = some v
theorem RSub.refl {ρ : Rho} : RSub ρ ρ := fun _ _ e => e
inductive ForP (J : Nat → Rho → Sg → Prop) (i : Nat) (ρ' : Rho) (σ' : Sg) : Prop
  | mk (ρ3 : Rho) (σ3 : Sg) (r : RSub ρ3 ρ') (s : Sub σ3 σ') (j : J i ρ3 σ3) : ForP J i ρ' σ'
inductive WhileP (I : Nat → Rho → Sg → Prop) (m : Nat) (ρ' : Rho) (σ' : Sg) : Prop
  | mk (j : Nat) (ρ3 : Rho) (σ3 : Sg) (l : j < m) (r : RSub ρ3 ρ') (s : Sub σ3 σ') (i : I j ρ3 σ3) : WhileP I m ρ' σ'
theorem Rel.narrow {c : Cx} {ρ ρ' : Rho} {σ σ' : Sg} {fr : Led} {h : Heap} (R : Rel c ρ σ fr h) (hr : RSub ρ' ρ) (hs : Sub σ' σ) : Rel c ρ' σ' fr h := by
  obtain ⟨mp, news, F, N, m, G, D⟩ := R
  exact ⟨mp, news, F, N, fun x v e => m x v (hr x v e), ⟨fun a x e => G.at_ a x (hs a x e)⟩, D⟩
/-! ## entering a def -/
/-- what stands written of a def -/
structure DefAt (f : Addr) (names : List Str) (body : List Stmt) (scope : Scope) : Prop where
  at_ : ∀ P, ∃ name qual params dV kV doc pm cdv ct oc an od osl, ((KK P).lookup f = some ⟨oc, od, .func (fnOf name qual params body scope dV kV doc pm an cdv ct), osl⟩) ∧ (codeIn (KK P) cdv qual = true) ∧
    ∀ us, us.length = names.length → bindArgs (fnOf name qual params body scope dV kV doc pm an cdv ct) ⟨us, []⟩ = pure (names.zip us)
  loc : ∀ x ∈ names, scope.names.lookup x = some .local
  co : scope.isCoroutine = false
  gen : scope.isGenerator = false
  kind : scope.kind = .function
  cell : ∀ x ∈ scope.names, x.2 ≠ .cell
noncomputable def binds : List Str → List V → Rho
  | x :: xs, v :: vs => fun y => if y = x then some v else binds xs vs y
  | _, _ => fun _ => none
theorem binds_ok : ∀ {names : List Str} {vs : List V} {us : List Value}, VIs vs us → names.Nodup → ∀ y v, binds names vs y = some v → ∃ u, (names.zip us).reverse.lookup y = some u ∧ v.Is u := by
  intro names vs us hv hn y v e
  have key : ∃ u, (y, u) ∈ names.zip us ∧ v.Is u := by
    clear hn
    induction hv generalizing names with
    | nil => cases names <;> simp [binds] at e
    | cons h1 _ ih =>
      cases names with
      | nil => simp [binds] at e
      | cons x xs =>
        simp only [binds] at e
        split at e
        · rename_i q; cases e; subst q; exact ⟨_, .head _, h1⟩
        · obtain ⟨u, a, b⟩ := ih e; exact ⟨u, .tail _ a, b⟩
  obtain ⟨u, hu, iu⟩ := key
  refine ⟨u, ?_, iu⟩
  have hnd : ((names.zip us).map (·.1)).Nodup := by
    refine List.Nodup.sublist ?_ hn
    clear hn e hu iu u hv
    induction names generalizing us with
    | nil => simp
    | cons x xs ih =>
      cases us with
      | nil => simp
      | cons u us => simp only [List.zip_cons_cons, List.map_cons]; exact List.Sublist.cons_cons _ ih
  have hnd' : ((names.zip us).reverse.map (·.1)).Nodup := by rw [List.map_reverse]; exact (List.pairwise_reverse.mpr (hnd.imp fun h => Ne.symm h))
  generalize (names.zip us) = l at hu hnd'
  have hm : (y, u) ∈ l.reverse := List.mem_reverse.mpr hu
  generalize l.reverse = r at hm hnd'
  clear hu
  induction r with
  | nil => cases hm
  | cons p r ih =>
    rw [List.map_cons, List.nodup_cons] at hnd'
    rcases List.mem_cons.mp hm with rfl | hm
    · simp
    · have hne : (y == p.1) = false := beq_eq_false_iff_ne.mpr fun q => hnd'.1 (List.mem_map.mpr ⟨(y, u), hm, q⟩)
      rw [List.lookup_cons, hne]
      exact ih hm hnd'.2
noncomputable def deeperCx (c : Cx) (S : Scope) (qual : Str) (f : Addr) (cdv : Value) (scope : Scope) (g : Heap) (L' : Addr) (E : Value → Shared → Prop) : Cx :=
  ⟨c.w, c.p, c.loose, c.mean, c.mg, c.mb, c.dp + 1, c.un + 3, c.gd, qual, f, cdv, [], c.env S :: c.outer, c.A S, c.base, g, L', E, scope, c.gens, c.drawn, c.os⟩
theorem enter {f : Addr} {names : List Str} {body : List Stmt} {scope : Scope} (D : DefAt f names body scope) (hn : names.Nodup) {n : Nat} {vs : List V} {σ : Sg} {Φ : V → Sg → Prop} (hl : vs.length = names.length)
    (h : ∀ c : Cx, c.Ok n → c.S₀ = scope → c.cl = [] → Exs c scope body (binds names vs) σ fun fl _ σ' => match fl with | .ret v => Φ v σ' | .next => Φ .none σ' | _ => False) : CallOk (n + 1) f vs σ Φ := by
  intro c S us ρ ok hk hv fr h' tk R
  obtain ⟨name, qual, params, dV, kV, doc, pm, cdv, ct, oc, an, od, osl, d1, d2, d3⟩ := D.at_ c.w.params
  obtain ⟨mp, news, F, N, m, G, Dj⟩ := R
  have hus : us.length = names.length := by rw [hv.length, hl]
  refine wpAny_call (code_def (A := c.A S) (env := c.env S) (outer := c.outer) ok.B F ok.X N ok.T rfl rfl hk d1 d2 (by have := ok.hd; show c.dp < recursionLimit; (first | lia | omega)) (BindsTo.of_eq (d3 us hus)) ?_ (fun g L' h₁ FG F' N' B' X' T' => ?_) D.co D.gen D.kind D.cell)
  · intro y hy
    exact D.loc _ (List.of_mem_zip hy).1
  · refine wpAny_mono (h (deeperCx c S qual f cdv scope g L' _) ⟨B', X', T', ?_, ?_, ?_⟩ rfl rfl fr h₁ _ ⟨_, news, F', N', binds_ok hv hn, ⟨G.at_⟩, Dj⟩) (fun fl s₂ q => ?_) fun _ _ e => e
    · have := ok.hd; show c.dp + 1 + n < _; (first | lia | omega)
    · have := ok.hu; show c.un + 3 + 8 * n + 200 < _; (first | lia | omega)
    · show PassesOwn (model PW c.w) ((c.A S).deeper (envOf qual scope L' f cdv)) (envOf qual scope L' f cdv) _
      passes_own
    obtain ⟨f', ρ', σ', h2, tk2, rfl, R2, i, q⟩ := q
    obtain ⟨mp2, news2, F2, N2, m2, G2, Dj2⟩ := R2
    have back : ∀ (v : V) (u : Value), v.Is u → Φ v σ' → LeaveK c.h₀ c.L mp g (fun r s' => match r with | .ok (.ret v) => ResV c ρ fr Φ v s' | .ok _ => False | .error e => c.E e s') u (c.sh h2 tk2) := fun v u iv qv =>
      leaveK_ F2 N2 fun Fc Nc => ⟨v, σ', h2, tk2, rfl, ⟨mp, news2, Fc, Nc, m, ⟨G2.at_⟩, Dj2⟩, iv, qv⟩
    cases f' with
    | ret v => obtain ⟨u, rfl, iv⟩ := i; exact back v u iv q
    | next => have e : fl = .next := i; subst e; exact back .none .none rfl q
    | brk => exact q.elim
    | cont => exact q.elim
/-! ## loops -/
section
variable {c : Cx} {S : Scope} {ρ : Rho} {σ : Sg} {Φ : Fl → Rho → Sg → Prop} {pos : Pos} {n : Nat}
/-- a while: I holds at each test, its number falls -/
theorem Ex.while {t : PySem.Expr} {body : List Stmt} (ok : c.Ok n) (hS : c.S₀ = S) (I : Nat → Rho → Sg → Prop) (k : Nat) {ρ₀ : Rho} {σ₀ : Sg} (hr : RSub ρ₀ ρ) (hs : Sub σ₀ σ) (h0 : I k ρ₀ σ₀)
    (h : ∀ k ρ σ, I k ρ σ → EvB c S (isTrue t (c.env S) (eval t (c.env S))) ρ σ fun b σ' =>
      (b = true → Exs c S body ρ σ' fun f ρ2 σ2 => match f with | .ret v => Φ (.ret v) ρ2 σ2 | .brk => Φ .next ρ2 σ2 | _ => WhileP I k ρ2 σ2) ∧ (b = false → Φ .next ρ σ')) :
    ExS c (exec (.While t body [] pos) (c.env S)) S ρ σ Φ := by
  subst hS
  intro fr h' tk R
  refine whl_start 0 ?_
  have key : ∀ N k ρ σ h' tk, k < N → I k ρ σ → Rel c ρ σ fr h' → WhlRest PW c.w (c.A c.S₀) c.E (c.env c.S₀) t body [] (ResS c fr Φ) 0 (c.sh h' tk) := by
    intro N
    induction N with
    | zero => intro k _ _ _ _ hk; exact absurd hk (Nat.not_lt_zero _)
    | succ N ih =>
      intro k ρ σ h' tk hk hI R
      refine whl_turn (k := 0) ok.pe (wpAny_mono (h k ρ σ hI fr h' tk R) (fun b s₂ q => ?_) fun _ _ e => e)
      obtain ⟨σ', h1, tk1, rfl, R1, q1, q2⟩ := q
      cases b with
      | false => exact WhlIf.no rfl (wpAny_execs_nil ⟨.next, ρ, σ', h1, tk1, rfl, R1, rfl, q2 rfl⟩)
      | true =>
        refine WhlIf.yes rfl (wpAny_mono (q1 rfl fr h1 tk1 R1) (fun u s₃ q => ?_) fun _ _ e => e)
        obtain ⟨f, ρ2, σ2, h2, tk2, rfl, R2, i, q⟩ := q
        cases f with
        | ret v => obtain ⟨w, rfl, iv⟩ := i; exact ⟨.ret v, ρ2, σ2, h2, tk2, rfl, R2, ⟨w, rfl, iv⟩, q⟩
        | brk => have e : u = .brk := i; subst e; exact ⟨.next, ρ2, σ2, h2, tk2, rfl, R2, rfl, q⟩
        | next => have e : u = .next := i; subst e; obtain ⟨j, ρ3, σ3, hj, hr, hs, hI2⟩ := q; exact ih j ρ3 σ3 h2 tk2 (by (first | lia | omega)) hI2 (R2.narrow hr hs)
        | cont => have e : u = .cont := i; subst e; obtain ⟨j, ρ3, σ3, hj, hr, hs, hI2⟩ := q; exact ih j ρ3 σ3 h2 tk2 (by (first | lia | omega)) hI2 (R2.narrow hr hs)
  exact key _ k ρ₀ σ₀ h' tk (Nat.lt_succ_self _) h0 (R.narrow hr hs)
end
end
section
/-! ## objects kept apart: iterators -/
noncomputable def del (σ : Sg) (a : Addr) : Sg := fun b => if b = a then none else σ b
section
variable {c : Cx} {S : Scope} {ρ : Rho} {σ : Sg} {fr : Led} {h : Heap} {n : Nat} {I : Addr} {it : Obj}
theorem Rel.dropFr (R : Rel c ρ σ ((I, it) :: fr) h) : Rel c ρ σ fr h := by
  obtain ⟨mp, news, F, N, m, G, D⟩ := R
  exact ⟨mp, news, F, fun p hp => N p (by rcases List.mem_append.mp hp with q | q; · exact List.mem_append_left _ q
                                          · exact List.mem_append_right _ (.tail _ q)), m, G, fun p hp => D p (.tail _ hp)⟩
theorem Rel.atFr (R : Rel c ρ σ ((I, it) :: fr) h) : h.get? I = some it := let ⟨_, _, _, N, _, _, _⟩ := R; (N _ (List.mem_append_right _ (.head _))).1
theorem Rel.newFr (R : Rel c ρ σ ((I, it) :: fr) h) : c.h₀.get? I = none := let ⟨_, _, _, N, _, _, _⟩ := R; (N _ (List.mem_append_right _ (.head _))).2.2
theorem Rel.offL (R : Rel c ρ σ ((I, it) :: fr) h) : I ≠ c.L := let ⟨_, _, _, N, _, _, _⟩ := R; (N _ (List.mem_append_right _ (.head _))).2.1
theorem Rel.neFr (ok : c.Ok n) (R : Rel c ρ σ ((I, it) :: fr) h) {a : Addr} {ob : Ob} (e : σ a = some ob) : a ≠ I := by
  have hn := R.newFr
  obtain ⟨mp, news, F, N, m, G, D⟩ := R
  intro q
  subst q
  rcases G.at_ _ _ e with ⟨o, ho, _⟩ | hk
  · exact D _ (.head _) _ ho rfl
  · obtain ⟨us, k, hg, _⟩ := kTup_lt ok hk
    rw [hn] at hg; cases hg
/-- the iterator alone turns -/
theorem Rel.turn (R : Rel c ρ σ ((I, it) :: fr) h) {h' : Heap} {it' : Obj} (hfr : ∀ p ∈ fr, p.1 ≠ I) (hk : ∀ b o, b ∉ [I] → h.get? b = some o → h'.get? b = some o) (hi : h'.get? I = some it') : Rel c ρ σ ((I, it') :: fr) h' := by
  have hn := R.newFr
  have hL := R.offL
  obtain ⟨mp, news, F, N, m, G, D⟩ := R
  have hk' : ∀ b o, b ≠ I → h.get? b = some o → h'.get? b = some o := fun b o q => hk b o (by simpa using q)
  refine ⟨mp, news, ⟨F.ns.at' fun o e => hk' _ o (Ne.symm hL) e, fun b o e => hk' b o (fun q => by subst q; rw [hn] at e; cases e) (F.keep b o e), F.above⟩, fun p hp => ?_, m, G, fun p hp => ?_⟩
  · rcases List.mem_append.mp hp with q | q
    · have := N p (List.mem_append_left _ q)
      exact ⟨hk' _ _ (Ne.symm (D _ (.head _) _ q)) this.1, this.2⟩
    · rcases List.mem_cons.mp q with rfl | q
      · exact ⟨hi, hL, hn⟩
      · have := N p (List.mem_append_right _ (.tail _ q))
        exact ⟨hk' _ _ (hfr p q) this.1, this.2⟩
  · rcases List.mem_cons.mp hp with rfl | hp
    · exact D (I, it) (.head _)
    · exact D p (.tail _ hp)
theorem Rel.dropFr' (R : Rel c ρ σ ((I, it) :: fr) h) {h' : Heap} (hfr : ∀ p ∈ fr, p.1 ≠ I) (hk : ∀ b o, b ∉ [I] → h.get? b = some o → h'.get? b = some o) : Rel c ρ σ fr h' := by
  have hn := R.newFr
  have hL := R.offL
  obtain ⟨mp, news, F, N, m, G, D⟩ := R
  have hk' : ∀ b o, b ≠ I → h.get? b = some o → h'.get? b = some o := fun b o q => hk b o (by simpa using q)
  refine ⟨mp, news, ⟨F.ns.at' fun o e => hk' _ o (Ne.symm hL) e, fun b o e => hk' b o (fun q => by subst q; rw [hn] at e; cases e) (F.keep b o e), F.above⟩, fun p hp => ?_, m, G, fun p hp => D p (.tail _ hp)⟩
  rcases List.mem_append.mp hp with q | q
  · have := N p (List.mem_append_left _ q)
    exact ⟨hk' _ _ (Ne.symm (D _ (.head _) _ q)) this.1, this.2⟩
  · have := N p (List.mem_append_right _ (.tail _ q))
    exact ⟨hk' _ _ (hfr p q) this.1, this.2⟩
theorem Rel.toFr (ok : c.Ok n) {o : Obj} (R : Rel c ρ σ fr h) (e : σ I = some (.raw o)) : Rel c ρ (del σ I) ((I, o) :: fr) h ∧ ∀ p ∈ fr, p.1 ≠ I := by
  obtain ⟨mp, news, F, N, m, G, D⟩ := R
  obtain ⟨ho, hi⟩ : (I, o) ∈ news ∧ (I == sysModules) = false := by
    rcases G.at_ I _ e with ⟨o', h1, h2, h3⟩ | hk
    · have : o' = o := h2
      subst this; exact ⟨h1, h3⟩
    · unfold kTup at hk; split at hk
      · cases hk
      · split at hk <;> cases hk
  refine ⟨⟨mp, news.filter (fun p => p.1 ≠ I), F, fun p hp => ?_, m, ⟨fun a x ea => ?_⟩, fun p hp q hq => ?_⟩, fun p hp => D p hp _ ho⟩
  · rcases List.mem_append.mp hp with q | q
    · exact N p (List.mem_append_left _ (List.mem_filter.mp q).1)
    · rcases List.mem_cons.mp q with rfl | q
      · exact N _ (List.mem_append_left _ ho)
      · exact N p (List.mem_append_right _ q)
  · unfold del at ea
    split at ea
    · cases ea
    · rename_i q
      rcases G.at_ a x ea with ⟨o', h1, h2⟩ | h1
      · exact .inl ⟨o', List.mem_filter.mpr ⟨h1, by simpa using q⟩, h2⟩
      · exact .inr h1
  · rcases List.mem_cons.mp hp with rfl | hp
    · exact Ne.symm (by simpa using (List.mem_filter.mp hq).2)
    · exact D p hp q (List.mem_filter.mp hq).1
theorem del_upd {σ : Sg} {a : Addr} {ob : Ob} (e : σ a = none) : del (upd σ a ob) a = σ := by
  funext b; unfold del upd; by_cases q : b = a
  · rw [if_pos q, q, e]
  · rw [if_neg q, if_neg q]
theorem Rel.pushFr (ok : c.Ok n) (R : Rel c ρ σ fr h) (o : Obj) (hf : o.isFreed = false) : Rel c ρ σ ((h.objs.size, o) :: fr) (h.push o) ∧ ∀ p ∈ fr, p.1 ≠ h.objs.size := by
  have R' := R.alloc ok (o := o) (ob := .raw o) rfl hf
  have := R'.toFr ok (I := h.objs.size) (o := o) (by unfold upd; exact if_pos rfl)
  rwa [del_upd (R.fresh ok)] at this
/-! ## sources -/
structure Turns (c : Cx) (S : Scope) (I : Addr) (n : Nat) (P : Nat → V → Prop) (need : Sg → Prop) (St : Nat → Obj → Prop) : Prop where
  item : ∀ i ρ σ fr h tk it, i < n → need σ → Rel c ρ σ ((I, it) :: fr) h → (∀ p ∈ fr, p.1 ≠ I) → St i it → ∀ (Q : Option Value → Shared → Prop) E,
    (∀ v u h' tk' it', P i v → v.Is u → Rel c ρ σ ((I, it') :: fr) h' → St (i + 1) it' → Q (some u) (c.sh h' tk')) → wpAny (model PW c.w) (c.A S) (pyNext (.ref I)) Q E (c.sh h tk)
  done : ∀ ρ σ fr h tk it, need σ → Rel c ρ σ ((I, it) :: fr) h → (∀ p ∈ fr, p.1 ≠ I) → St n it → ∀ (Q : Option Value → Shared → Prop) E,
    (∀ h' tk', Rel c ρ σ fr h' → Q none (c.sh h' tk')) → wpAny (model PW c.w) (c.A S) (pyNext (.ref I)) Q E (c.sh h tk)
noncomputable def Source (c : Cx) (S : Scope) (v : V) (σ σ' : Sg) (n : Nat) (P : Nat → V → Prop) (need : Sg → Prop) : Prop :=
  ∀ ρ fr h tk u, Rel c ρ σ fr h → v.Is u → ∀ (Q : Value → Shared → Prop) E,
    (∀ I it h' tk' St, Rel c ρ σ' ((I, it) :: fr) h' → (∀ p ∈ fr, p.1 ≠ I) → Turns c S I n P need St → St 0 it → Q (.ref I) (c.sh h' tk')) → wpAny (model PW c.w) (c.A S) (pyIter u) Q E (c.sh h tk)
theorem VIs.back {vs : List V} {us : List Value} (h : VIs vs us) : ∀ {i : Nat} {u : Value}, us[i]? = some u → ∃ v, vs[i]? = some v ∧ v.Is u := by
  induction h with
  | nil => intro i v hv; simp at hv
  | cons h1 _ ih =>
    intro i v hv
    cases i with
    | zero => simp at hv; subst hv; exact ⟨_, rfl, h1⟩
    | succ i => simp at hv; obtain ⟨u, a, b⟩ := ih hv; exact ⟨u, by simpa using a, b⟩
theorem Turns.list (ok : c.Ok n) (a : Addr) (vs : List V) : Turns c S I vs.length (fun i v => vs[i]? = some v) (fun σ => σ a = some (.list vs)) (fun i it => it.cls = .type "list_iterator" ∧ it.data = .fields #[.ref a, .int i 0]) where
  item := fun i ρ σ fr h tk it hi hn R hfr hs Q E hQ => by
    obtain ⟨o, hg, ⟨us, m, rfl, hvs⟩, _⟩ := R.obj ok hn
    refine (Walks.list (prog := PW) (w := c.w) (A := c.A S) rfl I a (R.neFr ok hn) us.toArray).item i (c.sh h tk) Q E (by rw [List.size_toArray, hvs.length]; exact hi) ⟨⟨it, R.atFr, hs⟩, ⟨_, hg, rfl, m, rfl⟩⟩ fun v h' tk' hv hst hk => ?_
    obtain ⟨v', i1, i2⟩ := hvs.back (i := i) (u := v) (by simpa using hv)
    obtain ⟨it', e1, e2⟩ := hst.1
    exact hQ v' v h' tk' it' i1 i2 (R.turn hfr hk e1) e2
  done := fun ρ σ fr h tk it hn R hfr hs Q E hQ => by
    obtain ⟨o, hg, ⟨us, m, rfl, hvs⟩, _⟩ := R.obj ok hn
    refine (Walks.list (prog := PW) (w := c.w) (A := c.A S) rfl I a (R.neFr ok hn) us.toArray).done (c.sh h tk) Q E ⟨⟨it, R.atFr, ?_⟩, ⟨_, hg, rfl, m, rfl⟩⟩ fun h' tk' hk => hQ h' tk' (R.dropFr' hfr hk)
    rw [List.size_toArray, hvs.length]; exact hs
theorem Turns.tuple (ok : c.Ok n) (a : Addr) (vs : List V) : Turns c S I vs.length (fun i v => vs[i]? = some v) (fun σ => σ a = some (.tup vs)) (fun i it => it.cls = .type "tuple_iterator" ∧ it.data = .fields #[.ref a, .int i 0]) where
  item := fun i ρ σ fr h tk it hi hn R hfr hs Q E hQ => by
    obtain ⟨o, hg, ⟨us, m, rfl, hvs⟩, _⟩ := R.obj ok hn
    refine (Walks.tuple (prog := PW) (w := c.w) (A := c.A S) rfl I a (R.neFr ok hn) us.toArray).item i (c.sh h tk) Q E (by rw [List.size_toArray, hvs.length]; exact hi) ⟨⟨it, R.atFr, hs⟩, ⟨_, hg, rfl, m, rfl⟩⟩ fun v h' tk' hv hst hk => ?_
    obtain ⟨v', i1, i2⟩ := hvs.back (i := i) (u := v) (by simpa using hv)
    obtain ⟨it', e1, e2⟩ := hst.1
    exact hQ v' v h' tk' it' i1 i2 (R.turn hfr hk e1) e2
  done := fun ρ σ fr h tk it hn R hfr hs Q E hQ => by
    obtain ⟨o, hg, ⟨us, m, rfl, hvs⟩, _⟩ := R.obj ok hn
    refine (Walks.tuple (prog := PW) (w := c.w) (A := c.A S) rfl I a (R.neFr ok hn) us.toArray).done (c.sh h tk) Q E ⟨⟨it, R.atFr, ?_⟩, ⟨_, hg, rfl, m, rfl⟩⟩ fun h' tk' hk => hQ h' tk' (R.dropFr' hfr hk)
    rw [List.size_toArray, hvs.length]; exact hs
theorem Source.list (ok : c.Ok n) {a : Addr} {vs : List V} (e : σ a = some (.list vs)) : Source c S (.ref a) σ σ vs.length (fun i v => vs[i]? = some v) (fun σ => σ a = some (.list vs)) := by
  intro ρ fr h tk u R hu Q E hQ
  obtain rfl : u = .ref a := hu
  obtain ⟨o, hg, ⟨us, m, rfl, hvs⟩, _⟩ := R.obj ok e
  have hl : h.IsList a us.toArray := ⟨_, hg, rfl, m, rfl⟩
  have P := R.pushFr ok { cls := .type "list_iterator", data := .fields #[.ref a, .int 0 0] } rfl
  exact wpAny_pyIter_list (s := c.sh h tk) hl (hQ _ _ _ tk _ P.1 P.2 (Turns.list ok a vs) ⟨rfl, rfl⟩)
theorem Source.tuple (ok : c.Ok n) {a : Addr} {vs : List V} (e : σ a = some (.tup vs)) : Source c S (.ref a) σ σ vs.length (fun i v => vs[i]? = some v) (fun σ => σ a = some (.tup vs)) := by
  intro ρ fr h tk u R hu Q E hQ
  obtain rfl : u = .ref a := hu
  obtain ⟨o, hg, ⟨us, m, rfl, hvs⟩, _⟩ := R.obj ok e
  have hl : h.IsTuple a us.toArray := ⟨_, hg, rfl, m, rfl⟩
  have P := R.pushFr ok { cls := .type "tuple_iterator", data := .fields #[.ref a, .int 0 0] } rfl
  exact wpAny_pyIter_tuple (s := c.sh h tk) hl (hQ _ _ _ tk _ P.1 P.2 (Turns.tuple ok a vs) ⟨rfl, rfl⟩)
/-- range(m): the range object is in the state, raw -/
noncomputable def rangeObj (b : Int) (t u v : Tok) : Obj := { cls := .type "range", dict := none, data := .fields #[.int 0 t, .int b u, .int 1 v], slots := #[] }
theorem Source.range (ok : c.Ok n) {a : Addr} {m : Nat} {t u v : Tok} (e : σ a = some (.raw (rangeObj m t u v))) (hm : (m : Int) < 2 ^ 62) :
    Source c S (.ref a) σ σ m (fun i v => v = .int i) (fun _ => True) := by
  intro ρ fr h tk u R hu Q E hQ
  obtain rfl : u = .ref a := hu
  obtain ⟨o, hg, ho, _⟩ := R.obj ok e
  have ho' : o = rangeObj m t _ v := ho
  subst ho'
  have hsz : Builtin.Range.rangeSize 0 m 1 = m := by
    unfold Builtin.Range.rangeSize; simp
    (first | lia | omega)
  have hsmall : Builtin.Range.small 0 m 1 = true := by
    unfold Builtin.Range.small
    rw [hsz]
    unfold Builtin.Range.rangeFitsLong
    simp
    (first | lia | omega)
  have P := R.pushFr ok { cls := .type "range_iterator", data := .fields #[rawInt 0, rawInt m, rawInt 1] } rfl
  refine wpAny_pyIter_range (s := c.sh h tk) hg hsmall ?_
  rw [hsz]
  have T : Turns c S h.objs.size m (fun i v => v = .int i) (fun _ => True) (fun i it => it = { cls := .type "range_iterator", data := .fields #[rawInt (0 + (i : Int) * 1), rawInt ((m : Int) - (i : Int)), rawInt 1] }) := {
    item := fun i ρ σ fr h' tk it hi _ R hfr hs Q E hQ => by
      subst hs
      refine (Walks.range (prog := PW) (w := c.w) (A := c.A S) rfl h.objs.size 0 1 m).item i (c.sh h' tk) Q E hi R.atFr fun v h' tk' hv hst hk => ?_
      obtain ⟨t, rfl⟩ := hv
      have e1 : (0 : Int) + (i : Int) * 1 = (i : Int) := by rw [Int.mul_one, Int.zero_add]
      rw [e1]
      exact hQ (.int i) _ h' tk' _ rfl ⟨t, rfl⟩ (R.turn hfr hk hst) rfl
    done := fun ρ σ fr h' tk it _ R hfr hs Q E hQ => by
      subst hs
      exact (Walks.range (prog := PW) (w := c.w) (A := c.A S) rfl h.objs.size 0 1 m).done (c.sh h' tk) Q E R.atFr fun h' tk' hk => hQ h' tk' (R.dropFr' hfr hk) }
  have e1 : (0 : Int) + ((0 : Nat) : Int) * 1 = 0 := rfl
  have e2 : (m : Int) - ((0 : Nat) : Int) = m := Int.sub_zero _
  exact hQ _ _ _ tk _ P.1 P.2 T (by rw [e1, e2])
end
section
variable {c : Cx} {S : Scope} {ρ : Rho} {σ : Sg} {Φ : Fl → Rho → Sg → Prop} {pos : Pos} {n : Nat}
/-- what a for asks of its source: J i holds after i turns -/
inductive ForK (c : Cx) (S : Scope) (x : Str) (body : List Stmt) (Φ : Fl → Rho → Sg → Prop) (v : V) (ρ : Rho) (σ : Sg) : Prop
  | mk (σ' : Sg) (N : Nat) (P : Nat → V → Prop) (need : Sg → Prop) (J : Nat → Rho → Sg → Prop) (s : Source c S v σ σ' N P need) (i : ForP J 0 ρ σ') (n : ∀ i ρ σ, J i ρ σ → need σ)
    (st : ∀ i ρ σ v, i < N → J i ρ σ → P i v → Exs c S body (put ρ x v) σ fun f ρ' σ' => match f with | .ret v => Φ (.ret v) ρ' σ' | .brk => Φ .next ρ' σ' | _ => ForP J (i + 1) ρ' σ')
    (dn : ∀ ρ σ, J N ρ σ → Φ .next ρ σ) : ForK c S x body Φ v ρ σ
inductive ForI (c : Cx) (J : Nat → Rho → Sg → Prop) (I : Addr) (fr : Led) (St : Nat → Obj → Prop) (N k : Nat) (s' : Shared) : Prop
  | mk (i : Nat) (ρ : Rho) (σ : Sg) (h : Heap) (tk : Nat) (it : Obj) (e : s' = c.sh h tk) (j : J i ρ σ) (R : Rel c ρ σ ((I, it) :: fr) h) (st : St i it) (l : i ≤ N) (ek : k = N + 1 - i) : ForI c J I fr St N k s'
theorem Ex.for {x : Str} {px : Pos} {iter : PySem.Expr} {body : List Stmt} (ok : c.Ok n) (hS : c.S₀ = S) (h : EvV c S (eval iter (c.env S)) ρ σ fun v σ₁ => ForK c S x body Φ v ρ σ₁)
    (hx : S.names.lookup x = some .local := by kernel_rfl) (hk : S.kind = .function := by rfl) (hs : ∀ x, foldedSetIterable iter (c.env S) x = pure x := by intro _; rfl) :
    ExS c (exec (.For (.Name x px) iter body [] pos) (c.env S)) S ρ σ Φ := by
  subst hS
  intro fr h' tk R
  refine wpAny_For (wpAny_mono (h fr h' tk R) (fun u s₁ q => ?_) fun _ _ e => e) hs
  obtain ⟨v, σ₁, h₁, tk₁, rfl, R₁, iv, σ', N, P, need, J, hsrc, ⟨ρ₀, σ₀, hr0, hs0, h0⟩, hneed, step, done⟩ := q
  refine hsrc ρ fr h₁ tk₁ u R₁ iv _ _ fun I it h₂ tk₂ St R₂ hfr T st0 => ?_
  refine codeAny_forLoop (R := fun r s' => match r with | .ok f => _ | .error e => cameBackBy (model PW c.w) (c.A c.S₀) (c.env c.S₀) c.E e s')
    (ForI c J I fr St N) ?_ (N + 1) ⟨0, ρ₀, σ₀, h₂, tk₂, it, rfl, h0, R₂.narrow hr0 hs0, st0, Nat.zero_le _, rfl⟩
  rintro k s' ⟨i, ρ, σ, h, tk, it, rfl, hJ, R, hst, hi, rfl⟩
  refine wpAny_passesOwn ok.pe ?_
  by_cases hlt : i < N
  · refine T.item i ρ σ fr h tk it hlt (hneed _ _ _ hJ) R hfr hst _ _ fun v u h' tk' it' hP iv R' hst' => ?_
    refine wpAny_passesOwn ok.pe (wpAny_assign_Name (store_ev R' iv (fun h1 tk1 R1 => ?_) hx hk))
    refine wpAny_passesOwn ok.pe (wpAny_mono (step i ρ σ v hlt hJ hP _ h1 tk1 R1) (fun f s₃ q => ?_) fun _ _ e => e)
    obtain ⟨f', ρ', σ', h3, tk3, rfl, R3, jf, q⟩ := q
    cases f' with
    | next => have e : f = .next := jf; subst e; obtain ⟨ρ3, σ3, hr, hs, q⟩ := q; exact ⟨N + 1 - (i + 1), by (first | lia | omega), i + 1, ρ3, σ3, h3, tk3, it', rfl, q, R3.narrow hr hs, hst', hlt, rfl⟩
    | cont => have e : f = .cont := jf; subst e; obtain ⟨ρ3, σ3, hr, hs, q⟩ := q; exact ⟨N + 1 - (i + 1), by (first | lia | omega), i + 1, ρ3, σ3, h3, tk3, it', rfl, q, R3.narrow hr hs, hst', hlt, rfl⟩
    | brk => have e : f = .brk := jf; subst e; exact ⟨.next, ρ', σ', h3, tk3, rfl, R3.dropFr, rfl, q⟩
    | ret v => obtain ⟨w, rfl, iw⟩ := jf; exact ⟨.ret v, ρ', σ', h3, tk3, rfl, R3.dropFr, ⟨w, rfl, iw⟩, q⟩
  · have hin : i = N := by (first | lia | omega)
    subst hin
    refine T.done ρ σ fr h tk it (hneed _ _ _ hJ) R hfr hst _ _ fun h' tk' R' => ?_
    exact wpAny_execs_nil ⟨.next, ρ, σ, h', tk', rfl, R', rfl, done _ _ hJ⟩
end
end
section
theorem Sub.upd {σ : Sg} {a : Addr} {ob : Ob} (e : σ a = none) : Sub σ (upd σ a ob) := fun b x h => by
  unfold Mine.upd; by_cases q : b = a
  · subst q; rw [e] at h; cases h
  · rw [if_neg q]; exact h
theorem upd_same {σ : Sg} {a : Addr} {ob : Ob} : upd σ a ob a = some ob := if_pos rfl
theorem upd_ne {σ : Sg} {a b : Addr} {ob : Ob} (h : b ≠ a) : upd σ a ob b = σ b := if_neg h
theorem rsub_nil {ρ : Rho} {vs : List V} : RSub (binds [] vs) ρ := fun _ _ e => nomatch e
theorem rsub_cons {ρ : Rho} {x : Str} {xs : List Str} {v : V} {vs : List V} (h : RSub (binds xs vs) ρ) (e : ρ x = some v) : RSub (binds (x :: xs) (v :: vs)) ρ := fun y w q => by
  unfold binds at q
  split at q
  · rename_i z; cases q; subst z; exact e
  · exact h y w q
section
variable {c : Cx} {S : Scope} {ρ : Rho} {σ : Sg} {n : Nat}
inductive SubQ (Q : Sg → Prop) (σ' : Sg) : Prop
  | mk (σ'' : Sg) (s : Sub σ'' σ') (k : Q σ'') : SubQ Q σ'
theorem EvV.forget {t : Sem Value} {Φ : V → Sg → Prop} (h : EvV c S t ρ σ fun v σ' => SubQ (Φ v) σ') : EvV c S t ρ σ Φ := fun fr h' tk R =>
  wpAny_mono (h fr h' tk R) (fun _ _ ⟨v, σ', h1, tk1, e, r, i, σ'', s, k⟩ => ⟨v, σ'', h1, tk1, e, r.narrow .refl s, i, k⟩) fun _ _ e => e
theorem CallOk.forget {f : Addr} {vs : List V} {Φ : V → Sg → Prop} (h : CallOk n f vs σ fun v σ' => SubQ (Φ v) σ') : CallOk n f vs σ Φ := fun c S us ρ hc hS hv => (h c S us ρ hc hS hv).forget
end
noncomputable def topN (p : Program) (k : Nat) : Stmt := p.main.body.getD k (.Pass default)
noncomputable def inN (s : Stmt) (k : Nat) : Stmt := match s with | .ClassDef (body := b) .. => b.getD k (.Pass default) | _ => .Pass default
noncomputable def fBody : Stmt → List Stmt | .FunctionDef (body := b) .. => b | _ => []
noncomputable def fScope : Stmt → Scope | .FunctionDef (scope := s) .. => s | _ => default
noncomputable def fArgs : Stmt → Arguments | .FunctionDef (args := s) .. => s | _ => default
structure Bn (x : Str) (id : String) : Prop where
  boot : bootBuiltins x = some (.builtin id)
  ns : ∀ P, nsIn (KK P) mainGlobals x = some none
  name : x ≠ "__name__"
theorem Ev.bcall' {c : Cx} {S : Scope} {ρ : Rho} {σ : Sg} {Φ : V → Sg → Prop} {pos : Pos} {n : Nat} {x : Str} {id : String} {a1 : PySem.Expr} {r : List PySem.Expr} {p' : Pos} (ok : c.Ok n) (hb : Bn x id)
    (h : EvL c S (spliced (backTo pos (starEach (a1 :: r) (c.env S)))) ρ σ fun vs σ' => BCall c S id vs σ' Φ)
    (hx : S.names.lookup x = some .globalImplicit := by kernel_rfl) (hk : S.kind = .function := by rfl) (hd : (x == ("__debug__" : Str)) = false := by decide +kernel) (hr : (a1 :: r).all notStar = true := by rfl) :
    EvV c S (eval (.Call (.Name x p') (a1 :: r) [] pos) (c.env S)) ρ σ Φ := Ev.bcall ok hb.boot hb.ns hb.name h hx hk hd hr
end
section
/-! ## a weakest precondition by recursion on the text -/
noncomputable def BSpec (id : String) (vs : List V) (σ : Sg) (Φ : V → Sg → Prop) : Prop := ∀ c n S, Cx.Ok c n → S.kind = .function → BCall c S id vs σ Φ
noncomputable def MSpec (σ : Sg) (o : V) (x : Str) (id : String) : Prop := ∀ c n S, Cx.Ok c n → BMeth c S σ o x id
noncomputable def ISpec (σ : Sg) (o i v : V) : Prop := ∀ c n S, Cx.Ok c n → Item c S σ o i v
noncomputable def CSpec (op : CmpOp) (a b : V) (σ : Sg) (bo : Bool) : Prop := ∀ c n S, Cx.Ok c n → Cmp c S op a b σ bo
noncomputable def SrcSpec (v : V) (σ σ' : Sg) (N : Nat) (P : Nat → V → Prop) (need : Sg → Prop) : Prop := ∀ c n S, Cx.Ok c n → Source c S v σ σ' N P need
noncomputable def FSpec (t : List Value → Sem Value) (vs : List V) (σ : Sg) (Φ : V → Sg → Prop) : Prop := ∀ c n S ρ us, Cx.Ok c n → S.kind = .function → VIs vs us → EvV c S (t us) ρ σ Φ
inductive CmpN (op : CmpOp) (a b : V) (σ : Sg) (k : Bool → Prop) : Prop
  | mk (bo : Bool) (h : CSpec op a b σ bo) (q : k bo) : CmpN op a b σ k
noncomputable def cV (op : CmpOp) (a b : V) (σ : Sg) (k : Bool → Prop) : Prop := match op with
  | .Eq => (match a, b with | .int i, .int j => k (i == j) | .str x, .str y => k (x == y) | _, _ => CmpN .Eq a b σ k)
  | .NotEq => (match a, b with | .int i, .int j => k (i != j) | _, _ => CmpN .NotEq a b σ k)
  | .Lt => (match a, b with | .int i, .int j => k (decide (i < j)) | _, _ => False)
  | .Gt => (match a, b with | .int i, .int j => k (decide (j < i)) | _, _ => False)
  | op => CmpN op a b σ k
noncomputable def bV (op : Operator) (a b : V) (k : V → Prop) : Prop := match a, b with
  | .int i, .int j => (match op with
    | .Add => k (.int (i + j))
    | .Sub => k (.int (i - j))
    | .Mult => IntMulOk i j ∧ k (.int (i * j))
    | .Mod => j ≠ 0 ∧ k (.int (Int.fmod i j))
    | .FloorDiv => (j ≠ 0 ∧ Builtin.divisionGoesByPylong i j = false) ∧ k (.int (Int.fdiv i j))
    | .RShift => 0 ≤ j ∧ k (.int (Int.fdiv i (2 ^ j.toNat)))
    | _ => False)
  | _, _ => False
/-- a check that the text itself answers -/
noncomputable def chk (b : Bool) (X : Prop) : Prop := match b with
  | true => X
  | false => False
theorem chk_ok {b : Bool} {X : Prop} (h : chk b X) : b = true ∧ X := by cases b; exact False.elim h; exact ⟨rfl, h⟩
noncomputable def OSpec (op : Operator) (a b : V) (σ : Sg) (Φ : V → Sg → Prop) : Prop := ∀ c n S ρ ua ub, Cx.Ok c n → a.Is ua → b.Is ub → EvV c S (binaryOp op ua ub) ρ σ Φ
noncomputable def TSpec (ty : String) (vs : List V) (σ : Sg) (Φ : V → Sg → Prop) : Prop := ∀ c n S ρ us, Cx.Ok c n → S.kind = .function → VIs vs us → EvV c S (call (.type ty) us) ρ σ Φ
noncomputable def EmptyD (ob : Ob) : Prop := ob = .idict [] ∨ ob = .sdict [] ∨ ob = .kdict []
structure WP where
  e : PySem.Expr → Rho → Sg → (V → Sg → Prop) → Prop
  b : PySem.Expr → Rho → Sg → (Bool → Sg → Prop) → Prop
  l : List PySem.Expr → Rho → Sg → (List V → Sg → Prop) → Prop
  ands : List PySem.Expr → Rho → Sg → (Bool → Sg → Prop) → Prop
  ors : List PySem.Expr → Rho → Sg → (Bool → Sg → Prop) → Prop
structure Ty (x : Str) (t : String) : Prop where
  boot : bootBuiltins x = some (.type t)
  ns : ∀ P, nsIn (KK P) mainGlobals x = some none
  name : x ≠ "__name__"
/-- what stands at the top: plain names, own defs, built-in functions, methods, attributes -/
structure Tabs where
  glob : Str → Option V
  fn : Str → Option Addr
  bn : Str → Option String
  ty : Str → Option String
  attr : Addr → Str → Bool
  sett : Addr → Str → Bool
  meth : Addr → Str → Option Addr
  cl : List (Str × Addr) := []
structure Tabs.Ok (T : Tabs) : Prop where
  glob : ∀ x v, T.glob x = some v → ∃ u, v.Is u ∧ ∀ P, nsIn (KK P) mainGlobals x = some (some u)
  fn : ∀ x f, T.fn x = some f → Fn x f
  bn : ∀ x id, T.bn x = some id → Bn x id
  ty : ∀ x t, T.ty x = some t → Ty x t
  attr : ∀ C x, T.attr C x = true → AttrOk C x
  sett : ∀ C x, T.sett C x = true → SetOk C x
  meth : ∀ C x f, T.meth C x = some f → MethOk C x f
inductive DictN (σ : Sg) (Φ : V → Sg → Prop) : Prop
  | mk (ob : Ob) (h : EmptyD ob) (k : ∀ a, σ a = none → Φ (.ref a) (upd σ a ob)) : DictN σ Φ
inductive CallI (T : Tabs) (n : Nat) (x : Str) (o : V) (σ : Sg) (A : (List V → Sg → Prop) → Prop) (Φ : V → Sg → Prop) : Prop
  | mk (a C dx : Addr) (kvs : List (Str × V)) (f : Addr) (e : o = .ref a) (i : InstIs σ a C dx kvs) (g : dget kvs x = none) (m : T.meth C x = some f) (k : A fun vs σ₂ => CallOk n f (.ref a :: vs) σ₂ Φ) : CallI T n x o σ A Φ
inductive CallB (x : Str) (o : V) (σ : Sg) (A : (List V → Sg → Prop) → Prop) (Φ : V → Sg → Prop) : Prop
  | mk (id : String) (m : MSpec σ o x id) (k : A fun vs σ₂ => BSpec id (o :: vs) σ₂ Φ) : CallB x o σ A Φ
inductive CallM (T : Tabs) (n : Nat) (x : Str) (o : V) (σ : Sg) (A : (List V → Sg → Prop) → Prop) (Φ : V → Sg → Prop) : Prop
  | inl (h : CallI T n x o σ A Φ) : CallM T n x o σ A Φ
  | inr (h : CallB x o σ A Φ) : CallM T n x o σ A Φ
inductive CellN (T : Tabs) (x : Str) (σ : Sg) (Φ : V → Sg → Prop) : Prop
  | mk (a : Addr) (v : V) (l : T.cl.lookup x = some a) (e : σ a = some (.cell (some v))) (k : Φ v σ) : CellN T x σ Φ
inductive ItemN (o iv : V) (σ : Sg) (Φ : V → Sg → Prop) : Prop
  | mk (v : V) (h : ISpec σ o iv v) (k : Φ v σ) : ItemN o iv σ Φ
inductive AttrN (T : Tabs) (x : Str) (o : V) (σ : Sg) (Φ : V → Sg → Prop) : Prop
  | mk (a C dx : Addr) (kvs : List (Str × V)) (v : V) (e : o = .ref a) (i : InstIs σ a C dx kvs) (g : dget kvs x = some v) (t : T.attr C x = true) (k : Φ v σ) : AttrN T x o σ Φ
noncomputable def wCmp (w : WP) (l : PySem.Expr) (ops : List CmpOp) (rs : List PySem.Expr) (ρ : Rho) (σ : Sg) (k : Bool → Sg → Prop) : Prop := match ops, rs with
  | [op], [r] => chk (notSet r) (w.e l ρ σ fun a σ₁ => w.e r ρ σ₁ fun b σ₂ => cV op a b σ₂ fun bo => k bo σ₂)
  | _, _ => False
noncomputable def wChain (w : WP) (l : PySem.Expr) (ops : List CmpOp) (rs : List PySem.Expr) (ρ : Rho) (σ : Sg) (k : Bool → Sg → Prop) : Prop := match ops, rs with
  | [o1, o2], [r1, r2] => chk (notSet r2) (w.e l ρ σ fun a σ₁ => w.e r1 ρ σ₁ fun b σ₂ => cV o1 a b σ₂ fun t => (t = true → w.e r2 ρ σ₂ fun d σ₃ => cV o2 b d σ₃ fun bo => k bo σ₃) ∧ (t = false → k false σ₂))
  | _, _ => False
noncomputable def wDict (w : WP) (ks : List (Option PySem.Expr)) (vs : List PySem.Expr) (ρ : Rho) (σ : Sg) (Φ : V → Sg → Prop) : Prop := match ks, vs with
  | [], [] => DictN σ Φ
  | [some k], [v] => ∀ a, σ a = none → w.e k ρ (upd σ a (.idict [])) fun kv σ₁ => w.e v ρ σ₁ fun vv σ₂ => (match kv with | .int i => σ₂ a = some (.idict []) ∧ Φ (.ref a) (upd σ₂ a (.idict [(i, vv)])) | _ => False)
  | _, _ => False
noncomputable def wArgs (w : WP) (args : List PySem.Expr) (ρ : Rho) (σ : Sg) (K : List V → Sg → Prop) : Prop := match args with
  | [] => K [] σ
  | _ :: _ => w.l args ρ σ K
noncomputable def wCall (T : Tabs) (S : Scope) (n : Nat) (w : WP) (f : PySem.Expr) (args : List PySem.Expr) (kws : List Keyword) (pos : Pos) (ρ : Rho) (σ : Sg) (Φ : V → Sg → Prop) : Prop := match kws with
  | _ :: _ => False
  | [] => chk (args.all notStar && decide (args.length < 30)) (match f with
    | .Name x _ => chk (!(x == ("__debug__" : Str)) && S.names.lookup x == some .globalImplicit) (match args with
      | [] => (match T.fn x with | some f => CallOk n f [] σ Φ | none => False)
      | _ :: _ => (match T.fn x with
        | some f => w.l args ρ σ fun vs σ' => CallOk n f vs σ' Φ
        | none => (match T.bn x with
          | some id => w.l args ρ σ fun vs σ' => BSpec id vs σ' Φ
          | none => (match T.ty x with
            | some t => w.l args ρ σ fun vs σ' => TSpec t vs σ' Φ
            | none => False))))
    | .Attribute e x apos => chk (okBase e && (apos.endLine == pos.line)) (w.e e ρ σ fun o σ₁ =>
        CallM T n x o σ₁ (wArgs w args ρ σ₁) Φ)
    | _ => False)
/-- what no rule serves is said of the evaluation itself -/
structure XSpec (T : Tabs) (S : Scope) (n : Nat) (e : PySem.Expr) (ρ : Rho) (σ : Sg) (Φ : V → Sg → Prop) : Prop where
  go : ∀ c, Cx.Ok c n → c.cl = T.cl → S.kind = .function → EvV c S (eval e (c.env S)) ρ σ Φ
noncomputable def isSlice : PySem.Expr → Bool | .Slice .. => true | _ => false
noncomputable def WP.next (T : Tabs) (S : Scope) (n : Nat) (w : WP) : WP where
  e := fun e ρ σ Φ => match e with
    | .Name x _ => chk (!(x == ("__debug__" : Str))) (match S.names.lookup x with
      | some .local => (match ρ x with | some v => Φ v σ | none => False)
      | some .globalImplicit => (match T.glob x with | some v => Φ v σ | none => False)
      | some .cell => CellN T x σ Φ
      | _ => False)
    | .Constant k _ _ => (match k with | .int i => Φ (.int i) σ | .str x => Φ (.str x) σ | .bool b => Φ (.bool b) σ | _ => False)
    | .BinOp l op r _ => w.e l ρ σ fun a σ₁ => w.e r ρ σ₁ fun b σ₂ => (match a, b with | .int _, .int _ => bV op a b fun v => Φ v σ₂ | _, _ => OSpec op a b σ₂ Φ)
    | .UnaryOp op x _ => (match op with | .USub => w.e x ρ σ fun a σ₁ => (match a with | .int i => Φ (.int (-i)) σ₁ | _ => False) | _ => False)
    | .IfExp t x y _ => w.b t ρ σ fun b σ' => (b = true → w.e x ρ σ' Φ) ∧ (b = false → w.e y ρ σ' Φ)
    | .Compare l ops rs _ => wCmp w l ops rs ρ σ fun b σ' => Φ (.bool b) σ'
    | .Tuple es _ _ => w.l es ρ σ fun vs σ' => vs.length ≤ sizeLine ∧ ∀ a, σ' a = none → Φ (.ref a) (upd σ' a (.tup vs))
    | .List es _ => w.l es ρ σ fun vs σ' => vs.length ≤ sizeLine ∧ ∀ a, σ' a = none → Φ (.ref a) (upd σ' a (.list vs))
    | .Subscript e i p => (match i with | .Slice a b d q => XSpec T S n (.Subscript e (.Slice a b d q) p) ρ σ Φ | i => chk (notSlice i) (w.e e ρ σ fun o σ₁ => w.e i ρ σ₁ fun iv σ₂ => ItemN o iv σ₂ Φ))
    | .Attribute e x _ => chk (okBase e) (w.e e ρ σ fun o σ' => AttrN T x o σ' Φ)
    | .BoolOp op es p => (match op with
      | .And => (match es with | [x] => w.e x ρ σ Φ | x :: y :: r => w.e x ρ σ fun v σ' => (match v with | .bool b => (b = true → w.e (.BoolOp .And (y :: r) p) ρ σ' Φ) ∧ (b = false → Φ (.bool false) σ') | _ => False) | [] => False)
      | .Or => (match es with | [x] => w.e x ρ σ Φ | x :: y :: r => w.e x ρ σ fun v σ' => (match v with | .bool b => (b = false → w.e (.BoolOp .Or (y :: r) p) ρ σ' Φ) ∧ (b = true → Φ (.bool true) σ') | _ => False) | [] => False))
    | .Dict ks vs p => (match vs with | _ :: _ :: _ => XSpec T S n (.Dict ks vs p) ρ σ Φ | vs => wDict w ks vs ρ σ Φ)
    | .Call f args kws pos => wCall T S n w f args kws pos ρ σ Φ
    | .ListComp a b d p => XSpec T S n (.ListComp a b d p) ρ σ Φ
    | _ => False
  b := fun e ρ σ Ψ => match e with
    | .UnaryOp op x _ => (match op with | .Not => w.b x ρ σ fun b σ' => Ψ (!b) σ' | _ => False)
    | .Compare l ops rs _ => (match ops with | [_, _] => wChain w l ops rs ρ σ Ψ | _ => wCmp w l ops rs ρ σ Ψ)
    | .BoolOp op es _ => (match op with | .And => w.ands es ρ σ Ψ | .Or => w.ors es ρ σ Ψ)
    | .IfExp .. => False
    | e => w.e e ρ σ fun v σ' => (match v with | .bool b => Ψ b σ' | _ => False)
  l := fun es ρ σ Θ => match es with
    | [] => Θ [] σ
    | e :: r => chk (notStar e) (w.e e ρ σ fun v σ' => w.l r ρ σ' fun vs => Θ (v :: vs))
  ands := fun es ρ σ Ψ => match es with
    | [] => Ψ true σ
    | x :: r => w.b x ρ σ fun b σ' => (b = true → w.ands r ρ σ' Ψ) ∧ (b = false → Ψ false σ')
  ors := fun es ρ σ Ψ => match es with
    | [] => Ψ false σ
    | x :: r => w.b x ρ σ fun b σ' => (b = true → Ψ true σ') ∧ (b = false → w.ors r ρ σ' Ψ)
noncomputable def WP.none : WP := ⟨fun _ _ _ _ => False, fun _ _ _ _ => False, fun _ _ _ _ => False, fun _ _ _ _ => False, fun _ _ _ _ => False⟩
noncomputable def wk (T : Tabs) (S : Scope) (n : Nat) : Nat → WP
  | 0 => WP.none
  | k + 1 => WP.next T S n (wk T S n k)
structure WP.Ok (T : Tabs) (S : Scope) (n : Nat) (w : WP) : Prop where
  e : ∀ c, Cx.Ok c n → c.cl = T.cl → ∀ e ρ σ Φ, w.e e ρ σ Φ → EvV c S (eval e (c.env S)) ρ σ Φ
  b : ∀ c, Cx.Ok c n → c.cl = T.cl → ∀ e ρ σ Ψ, w.b e ρ σ Ψ → EvB c S (PySem.isTrue e (c.env S) (eval e (c.env S))) ρ σ Ψ
  l : ∀ c, Cx.Ok c n → c.cl = T.cl → ∀ pos es ρ σ Θ, w.l es ρ σ Θ → EvL c S (spliced (backTo pos (starEach es (c.env S)))) ρ σ Θ
  ands : ∀ c, Cx.Ok c n → c.cl = T.cl → ∀ pos whole es ρ σ Ψ, w.ands es ρ σ Ψ → EvB c S (PySem.isTrue (.BoolOp .And es pos) (c.env S) whole) ρ σ Ψ
  ors : ∀ c, Cx.Ok c n → c.cl = T.cl → ∀ pos whole es ρ σ Ψ, w.ors es ρ σ Ψ → EvB c S (PySem.isTrue (.BoolOp .Or es pos) (c.env S) whole) ρ σ Ψ
section
variable {c : Cx} {S : Scope} {ρ : Rho} {σ : Sg} {Φ : V → Sg → Prop} {pos : Pos} {n : Nat}
theorem EvB.mono {t : Sem Bool} {Ψ Ψ' : Bool → Sg → Prop} (h : EvB c S t ρ σ Ψ) (hi : ∀ v σ', Ψ v σ' → Ψ' v σ') : EvB c S t ρ σ Ψ' :=
  fun fr h' tk R => wpAny_mono (h fr h' tk R) (fun _ _ ⟨σ', h1, tk1, e, r, k⟩ => ⟨σ', h1, tk1, e, r, hi _ σ' k⟩) fun _ _ e => e
theorem EvL.mono {t : Sem (List Value)} {Θ Θ' : List V → Sg → Prop} (h : EvL c S t ρ σ Θ) (hi : ∀ v σ', Θ v σ' → Θ' v σ') : EvL c S t ρ σ Θ' :=
  fun fr h' tk R => wpAny_mono (h fr h' tk R) (fun _ _ ⟨v, σ', h1, tk1, e, r, i, k⟩ => ⟨v, σ', h1, tk1, e, r, i, hi v σ' k⟩) fun _ _ e => e
theorem cV_ok (ok : c.Ok n) {op : CmpOp} {a b : V} {k : Bool → Prop} (h : cV op a b σ k) : ∃ bo, Cmp c S op a b σ bo ∧ k bo := by
  have gen : ∀ op a b, CmpN op a b σ k → ∃ bo, Cmp c S op a b σ bo ∧ k bo := fun op a b ⟨bo, h1, h2⟩ => ⟨bo, h1 c n S ok, h2⟩
  cases op with
  | Eq => cases a <;> cases b <;> first | exact ⟨_, Cmp.eqI, h⟩ | exact ⟨_, Cmp.eqS, h⟩ | exact gen _ _ _ h
  | NotEq => cases a <;> cases b <;> first | exact ⟨_, Cmp.neI, h⟩ | exact gen _ _ _ h
  | Lt => cases a <;> cases b <;> first | exact ⟨_, Cmp.ltI, h⟩ | exact h.elim
  | Gt => cases a <;> cases b <;> first | exact ⟨_, Cmp.gtI, h⟩ | exact h.elim
  | _ => exact gen _ _ _ h
theorem Ev.bin {op : Operator} {l r : PySem.Expr} (ok : c.Ok n) (h : EvV c S (eval l (c.env S)) ρ σ fun a σ₁ => EvV c S (eval r (c.env S)) ρ σ₁ fun b σ₂ => (match a, b with | .int _, .int _ => bV op a b fun v => Φ v σ₂ | _, _ => OSpec op a b σ₂ Φ)) : EvV c S (eval (.BinOp l op r pos) (c.env S)) ρ σ Φ := by
  intro fr h' tk R
  refine wpAny_BinOp (wpAny_mono (h fr h' tk R) (fun ua s₁ q => ?_) fun _ _ e => e)
  obtain ⟨a, σ₁, h₁, tk₁, rfl, R₁, ia, q⟩ := q
  refine wpAny_mono (q fr h₁ tk₁ R₁) (fun ub s₂ q => ?_) fun _ _ e => e
  obtain ⟨b, σ₂, h₂, tk₂, rfl, R₂, ib, q⟩ := q
  have gen : OSpec op a b σ₂ Φ → _ := fun q => q c n S ρ ua ub ok ia ib fr h₂ tk₂ R₂
  cases a with
  | int i => cases b with
    | int j =>
      clear gen
      obtain ⟨ta, rfl⟩ := ia
      obtain ⟨tb, rfl⟩ := ib
      have fin : ∀ k : Int, Φ (.int k) σ₂ → ResV c ρ fr Φ (.int k tk₂) (c.sh h₂ (tk₂ + 1)) := fun k q => ⟨.int k, σ₂, h₂, _, rfl, R₂, ⟨_, rfl⟩, q⟩
      cases op with
      | Add => exact add_int (fin _ q)
      | Sub => exact sub_int (fin _ q)
      | Mult => exact mul_int (fin _ q.2) q.1
      | Mod => exact mod_int' q.1 (fin _ q.2)
      | FloorDiv => exact floordiv_int q.1.1 (fin _ q.2) (.inl q.1.2)
      | RShift => exact rshift_int q.1 (fin _ q.2)
      | MatMult => exact False.elim q
      | Div => exact False.elim q
      | Pow => exact False.elim q
      | LShift => exact False.elim q
      | BitOr => exact False.elim q
      | BitXor => exact False.elim q
      | BitAnd => exact False.elim q
    | _ => exact gen q
  | _ => exact gen q
end
end
section
theorem nk_cell {a : Addr} {v : Option V} : kTup a ≠ some (.cell v) := by unfold kTup; repeat' split <;> simp
section
variable {T : Tabs} {S : Scope} {n : Nat} {w : WP}
theorem Ev.methX {c : Cx} {ρ : Rho} {σ : Sg} {Φ : V → Sg → Prop} {pos apos : Pos} {e : PySem.Expr} {x : Str} {args : List PySem.Expr} (ok : c.Ok n) (hk : S.kind = .function)
    (hb : okBase e = true) (hl : (apos.endLine == pos.line) = true) (hr : args.all notStar = true) (hn : decide (args.length < 30) = true)
    (h : EvV c S (eval e (c.env S)) ρ σ fun o σ₁ =>
      (∃ a C dx kvs f, o = .ref a ∧ InstIs σ₁ a C dx kvs ∧ dget kvs x = none ∧ MethOk C x f ∧ ((args = [] ∧ CallOk n f [.ref a] σ₁ Φ) ∨ (args ≠ [] ∧ EvL c S (spliced (backTo pos (starEach args (c.env S)))) ρ σ₁ fun vs σ₂ => CallOk n f (.ref a :: vs) σ₂ Φ))) ∨
      ∃ id, BMeth c S σ₁ o x id ∧ ((args = [] ∧ BCall c S id [o] σ₁ Φ) ∨ (args ≠ [] ∧ EvL c S (spliced (backTo pos (starEach args (c.env S)))) ρ σ₁ fun vs σ₂ => BCall c S id (o :: vs) σ₂ Φ))) :
    EvV c S (eval (.Call (.Attribute e x apos) args [] pos) (c.env S)) ρ σ Φ := by
  intro fr h' tk R
  obtain ⟨pl, hc⟩ := call_attr (x := x) (env := c.env S) hb hl hr hn
  refine MethodCall_ (pl := pl) (wpAny_mono (h fr h' tk R) (fun u s₁ q => ?_) fun _ _ e => e) hc
  obtain ⟨v, σ', h1, tk1, rfl, R1, iv, q⟩ := q
  rcases q with ⟨a, C, dx, kvs, f, rfl, I, hg, M, q⟩ | ⟨id, B, q⟩
  · obtain rfl : u = .ref a := iv
    obtain ⟨es, k, hI, hE⟩ := R1.inst ok I
    obtain ⟨mp, F, _⟩ := R1.frame
    have hf := hE.find x
    rw [hg] at hf
    refine method_inst F ok.X hI (M.plain _) (M.at_ _) (M.fn _) hf ?_
    rcases q with ⟨rfl, q⟩ | ⟨hne, q⟩
    · exact callWith_K0 (ok.X.keeps F.keep) (M.keep _) (q c S [.ref a] ρ ok hk (.cons rfl .nil) fr h1 tk1 R1)
    · cases args with
      | nil => exact absurd rfl hne
      | cons a1 r =>
        rw [List.all_cons, Bool.and_eq_true] at hr
        refine callWith_K ok.X (M.keep _) (wpAny_mono (q fr h1 tk1 R1) (fun us s₂ z => ?_) fun _ _ e => e) (starEach_cons hr.1) (plain_any hr.2)
        obtain ⟨vs, σ₂, h2, tk2, rfl, R2, ivs, z⟩ := z
        obtain ⟨mp2, F2, _⟩ := R2.frame
        exact ⟨ok.X.keeps F2.keep, z c S (.ref a :: us) ρ ok hk (.cons rfl ivs) fr h2 tk2 R2⟩
  · obtain ⟨T, b1, b2, b3, b4, b5⟩ := B ρ fr h1 tk1 u R1 iv
    refine getMethod_builtin b1 b2 b3 b4 b5 ?_
    rcases q with ⟨rfl, q⟩ | ⟨hne, q⟩
    · exact PyProof.Rows.callWith_method0 (q ρ _ (.cons iv .nil) fr h1 tk1 R1)
    · cases args with
      | nil => exact absurd rfl hne
      | cons a1 r =>
        rw [List.all_cons, Bool.and_eq_true] at hr
        refine PyProof.Rows.callWith_method1 (wpAny_mono (q fr h1 tk1 R1) (fun us s₂ z => ?_) fun _ _ e => e) (starEach_cons hr.1) (plain_any hr.2)
        obtain ⟨vs, σ₂, h2, tk2, rfl, R2, ivs, z⟩ := z
        exact z ρ _ (.cons iv ivs) fr h2 tk2 R2
theorem wArgs_ok (W : WP.Ok T S n w) {c : Cx} (ok : c.Ok n) (hcl : c.cl = T.cl) (pos : Pos) {args : List PySem.Expr} {ρ : Rho} {σ : Sg} {K : List V → Sg → Prop} (h : wArgs w args ρ σ K) :
    (args = [] ∧ K [] σ) ∨ (args ≠ [] ∧ EvL c S (spliced (backTo pos (starEach args (c.env S)))) ρ σ K) := by
  cases args with
  | nil => exact .inl ⟨rfl, h⟩
  | cons a r => exact .inr ⟨List.cons_ne_nil _ _, W.l c ok hcl pos _ _ _ _ h⟩
theorem wCmp_ok (W : WP.Ok T S n w) {c : Cx} (ok : c.Ok n) (hcl : c.cl = T.cl) {l : PySem.Expr} {ops : List CmpOp} {rs : List PySem.Expr} {ρ : Rho} {σ : Sg} {k : Bool → Sg → Prop} (h : wCmp w l ops rs ρ σ k) :
    ∃ op r, ops = [op] ∧ rs = [r] ∧ notSet r = true ∧ EvV c S (eval l (c.env S)) ρ σ fun a σ₁ => EvV c S (eval r (c.env S)) ρ σ₁ fun b σ₂ => ∃ bo, Cmp c S op a b σ₂ bo ∧ k bo σ₂ := by
  match ops, rs, h with
  | [op], [r], h => exact ⟨op, r, rfl, rfl, (chk_ok h).1, (W.e c ok hcl _ _ _ _ (chk_ok h).2).mono fun a σ₁ h => (W.e c ok hcl _ _ _ _ h).mono fun b σ₂ h => cV_ok ok h⟩
theorem Ev.tcall {c : Cx} {ρ : Rho} {σ : Sg} {Φ : V → Sg → Prop} {pos p' : Pos} {x : Str} {ty : String} {a1 : PySem.Expr} {r : List PySem.Expr} (ok : c.Ok n) (hb : Ty x ty) (hk : S.kind = .function)
    (h : EvL c S (spliced (backTo pos (starEach (a1 :: r) (c.env S)))) ρ σ fun vs σ' => TSpec ty vs σ' Φ)
    (hx : S.names.lookup x = some .globalImplicit) (hd : (x == ("__debug__" : Str)) = false) (hr : (a1 :: r).all notStar = true) :
    EvV c S (eval (.Call (.Name x p') (a1 :: r) [] pos) (c.env S)) ρ σ Φ := by
  intro fr h' tk R
  obtain ⟨mp, F, hm⟩ := R.frame
  rw [List.all_cons, Bool.and_eq_true] at hr
  refine Call_ (nameX_B F ok.X (topRead_of ok.T) (hb.ns _) hb.boot hb.name ?_ hk hx hd) rfl
  refine Pv.callWith_type1 (wpAny_mono (h fr h' tk R) (fun us s₁ q => ?_) fun _ _ e => e) (starEach_cons hr.1) (plain_any hr.2)
  obtain ⟨vs, σ', h1, tk1, rfl, R1, ivs, q⟩ := q
  exact q c n S ρ us ok hk ivs fr h1 tk1 R1
theorem Ev.call0 {c : Cx} {ρ : Rho} {σ : Sg} {Φ : V → Sg → Prop} {pos p' : Pos} {x : Str} {f : Addr} (ok : c.Ok n) (hf : Fn x f) (hk : S.kind = .function) (h : CallOk n f [] σ Φ)
    (hx : S.names.lookup x = some .globalImplicit) (hd : (x == ("__debug__" : Str)) = false) : EvV c S (eval (.Call (.Name x p') [] [] pos) (c.env S)) ρ σ Φ := by
  intro fr h' tk R
  obtain ⟨mp, F, hm⟩ := R.frame
  refine Call_ (nameX_K F ok.X (topRead_of ok.T) (hf.ns _) ?_ hk hx hd) rfl
  exact callWith_K0 (ok.X.keeps F.keep) (hf.keep _) (h c S [] ρ ok hk .nil fr h' tk R)
theorem Tr.chain {c : Cx} {ρ : Rho} {σ : Sg} {Ψ : Bool → Sg → Prop} {pos : Pos} {whole : Sem Value} {l r1 r2 : PySem.Expr} {o1 o2 : CmpOp}
    (h : EvV c S (eval l (c.env S)) ρ σ fun a σ₁ => EvV c S (eval r1 (c.env S)) ρ σ₁ fun b σ₂ => ∃ t, Cmp c S o1 a b σ₂ t ∧ (t = true → EvV c S (eval r2 (c.env S)) ρ σ₂ fun d σ₃ => ∃ bo, Cmp c S o2 b d σ₃ bo ∧ Ψ bo σ₃) ∧ (t = false → Ψ false σ₂))
    (hm : notSet r2 = true) : EvB c S (PySem.isTrue (.Compare l [o1, o2] [r1, r2] pos) (c.env S) whole) ρ σ Ψ := by
  intro fr h' tk R
  refine isTrue_chain (wpAny_mono (h fr h' tk R) (fun ua s₁ q => ?_) fun _ _ e => e) (by show behindInMarks o2 r2 = false; exact marks_eq hm)
  obtain ⟨a, σ₁, h₁, tk₁, rfl, R₁, ia, q⟩ := q
  refine test_link (wpAny_mono (q fr h₁ tk₁ R₁) (fun ub s₂ q => ?_) fun _ _ e => e)
  obtain ⟨b, σ₂, h₂, tk₂, rfl, R₂, ib, t, hc, q1, q2⟩ := q
  refine wpAny_mono (hc ρ ua ub ia ib fr h₂ tk₂ R₂) (fun uc s₃ z => ?_) fun _ _ e => e
  obtain ⟨v, σ₃, h₃, tk₃, rfl, R₃, iv, rfl, rfl⟩ := z
  have e : uc = .bool t := iv
  subst e
  refine wpAny_truthy_bool ?_
  cases t with
  | false => exact ⟨_, _, _, rfl, R₃, q2 rfl⟩
  | true =>
    refine test_last (wpAny_mono (q1 rfl fr h₃ tk₃ R₃) (fun ud s₄ q => ?_) fun _ _ e => e)
    obtain ⟨d, σ₄, h₄, tk₄, rfl, R₄, id, bo, hc2, q⟩ := q
    refine wpAny_mono (hc2 ρ ub ud ib id fr h₄ tk₄ R₄) (fun uc s₅ z => ?_) fun _ _ e => e
    obtain ⟨v, σ₅, h₅, tk₅, rfl, R₅, iv, rfl, rfl⟩ := z
    have e : uc = .bool bo := iv
    subst e
    exact wpAny_truthy_bool ⟨_, _, _, rfl, R₅, q⟩
theorem wChain_ok (W : WP.Ok T S n w) {c : Cx} (ok : c.Ok n) (hcl : c.cl = T.cl) {l : PySem.Expr} {ops : List CmpOp} {rs : List PySem.Expr} {ρ : Rho} {σ : Sg} {k : Bool → Sg → Prop} {pos : Pos} {whole : Sem Value} (h : wChain w l ops rs ρ σ k) :
    EvB c S (PySem.isTrue (.Compare l ops rs pos) (c.env S) whole) ρ σ k := by
  match ops, rs, h with
  | [o1, o2], [r1, r2], h =>
    obtain ⟨hm, h⟩ := chk_ok h
    refine Tr.chain ((W.e c ok hcl _ _ _ _ h).mono fun a σ₁ h => (W.e c ok hcl _ _ _ _ h).mono fun b σ₂ h => ?_) hm
    obtain ⟨t, hc, q1, q2⟩ := cV_ok (S := S) ok h
    exact ⟨t, hc, fun e => (W.e c ok hcl _ _ _ _ (q1 e)).mono fun d σ₃ q => cV_ok ok q, q2⟩
theorem newIdict {c : Cx} {ρ : Rho} {σ : Sg} {fr : Led} {h : Heap} (ok : c.Ok n) (R : Rel c ρ σ fr h) {ob : Ob} (he : EmptyD ob) : Rel c ρ (upd σ h.objs.size ob) fr (h.push { cls := .type "dict", data := .dict #[] }) := by
  refine R.alloc ok ?_ rfl
  rcases he with rfl | rfl | rfl
  · refine ⟨[], ?_, .nil⟩
    obtain ⟨o, ho, hd⟩ := Heap.dictOf_iff.mp (Heap.DictOf.new (knd := intKind PW c.w) h)
    rw [Heap.get?_push_size _ rfl] at ho
    cases ho; exact hd
  · exact ⟨[], 0, rfl, .nil⟩
  · exact ⟨[], 0, rfl, .nil, List.nodup_nil⟩
theorem wDict_ok (W : WP.Ok T S n w) {c : Cx} (ok : c.Ok n) (hcl : c.cl = T.cl) {ks : List (Option PySem.Expr)} {vs : List PySem.Expr} {ρ : Rho} {σ : Sg} {Φ : V → Sg → Prop} {pos : Pos} (h : wDict w ks vs ρ σ Φ) :
    EvV c S (eval (.Dict ks vs pos) (c.env S)) ρ σ Φ := by
  match ks, vs, h with
  | [], [], ⟨ob, he, h⟩ => exact fun fr h' tk R => wpAny_Dict_empty ⟨.ref h'.objs.size, _, _, tk, rfl, newIdict ok R he, rfl, h _ (R.fresh ok)⟩
  | [some k], [v], h =>
    intro fr h' tk R
    refine wpAny_Dict_pairs (knd := intKind PW c.w) (s := c.sh h' tk) (pairs := [(eval k (c.env S), do let x ← eval v (c.env S); standAt pos; pure x)]) rfl (by simp) (Nat.le_of_ble_eq_true rfl) ?_
    have R0 := newIdict ok R (ob := .idict []) (.inl rfl)
    refine evalPairs_cons (wpAny_mono (W.e c ok hcl _ _ _ _ (h h'.objs.size (R.fresh ok)) fr _ tk R0) (fun uk s₁ q => ?_) fun _ _ e => e)
    obtain ⟨kv, σ₁, h₁, tk₁, rfl, R₁, ik, q⟩ := q
    refine wpAny_bind (wpAny_mono (W.e c ok hcl _ _ _ _ q fr h₁ tk₁ R₁) (fun uv s₂ q => ?_) fun _ _ e => e)
    obtain ⟨vv, σ₂, h₂, tk₂, rfl, R₂, iv, q⟩ := q
    refine wpAny_bind (wpAny_standAt (wpAny_pure (evalPairs_nil ?_)))
    cases kv with
    | int i =>
      obtain ⟨t, rfl⟩ := ik
      obtain ⟨e2, q⟩ := q
      obtain ⟨us, hd, hp⟩ := R₂.idict ok e2
      cases hp
      refine ⟨[(i, uv)], ⟨intKind_is PW c.w i t, rfl, trivial⟩, hd, fun h3 hd3 hs3 => ?_⟩
      obtain ⟨o', ho', hd''⟩ := Heap.dictOf_iff.mp hd3
      exact ⟨.ref h'.objs.size, _, h3, _, rfl, R₂.change (ob' := .idict [(i, vv)]) e2 (by unfold kTup; repeat' split <;> simp) hs3 ho' ⟨_, hd'', .cons iv .nil⟩, rfl, q⟩
    | _ => exact False.elim q
theorem wCall_ok (hT : T.Ok) (hk : S.kind = .function) (W : WP.Ok T S n w) {c : Cx} (ok : c.Ok n) (hcl : c.cl = T.cl) {f : PySem.Expr} {args : List PySem.Expr} {kws : List Keyword} {pos : Pos} {ρ : Rho} {σ : Sg} {Φ : V → Sg → Prop} (h : wCall T S n w f args kws pos ρ σ Φ) :
    EvV c S (eval (.Call f args kws pos) (c.env S)) ρ σ Φ := by
  cases kws with
  | cons _ _ => exact False.elim h
  | nil =>
    obtain ⟨hs, h⟩ := chk_ok h
    rw [Bool.and_eq_true] at hs
    obtain ⟨hs, hl⟩ := hs
    cases f with
    | Name x p =>
      obtain ⟨hd, h⟩ := chk_ok h
      simp only [Bool.and_eq_true, Bool.not_eq_true', beq_iff_eq] at hd
      obtain ⟨hd, hx⟩ := hd
      cases args with
      | nil =>
        dsimp only at h
        cases e : T.fn x with
        | some f => rw [e] at h; exact Ev.call0 ok (hT.fn x f e) hk h hx hd
        | none => rw [e] at h; exact False.elim h
      | cons a r =>
        have hs' := hs
        rw [List.all_cons, Bool.and_eq_true] at hs
        dsimp only at h
        cases e : T.fn x with
        | some f =>
          rw [e] at h
          exact Ev.call ok (hT.fn x f e) (W.l c ok hcl pos _ _ _ _ h) hx hk hd hs.1 hs.2
        | none =>
          rw [e] at h
          dsimp only at h
          cases e : T.bn x with
          | some id =>
            rw [e] at h
            exact Ev.bcall' ok (hT.bn x id e) ((W.l c ok hcl pos _ _ _ _ h).mono fun vs σ' q => q c n S ok hk) hx hk hd hs'
          | none =>
            rw [e] at h
            dsimp only at h
            cases e : T.ty x with
            | some t => rw [e] at h; exact Ev.tcall ok (hT.ty x t e) hk (W.l c ok hcl pos _ _ _ _ h) hx hd hs'
            | none => rw [e] at h; exact False.elim h
    | Attribute e x apos =>
      obtain ⟨hb, h⟩ := chk_ok h
      rw [Bool.and_eq_true] at hb
      obtain ⟨hb, hap⟩ := hb
      refine Ev.methX ok hk hb hap hs hl ((W.e c ok hcl _ _ _ _ h).mono fun o σ₁ q => ?_)
      rcases q with ⟨a, C, dx, kvs, f, e1, I, g, m, q⟩ | ⟨id, m, q⟩
      · exact .inl ⟨a, C, dx, kvs, f, e1, I, g, hT.meth _ _ _ m, wArgs_ok W ok hcl pos q⟩
      · refine .inr ⟨id, m c n S ok, ?_⟩
        rcases wArgs_ok W ok hcl pos q with ⟨e, q⟩ | ⟨e, q⟩
        · exact .inl ⟨e, q c n S ok hk⟩
        · exact .inr ⟨e, q.mono fun vs σ₂ z => z c n S ok hk⟩
    | _ => exact False.elim h
theorem next_ok (hT : T.Ok) (hk : S.kind = .function) (W : WP.Ok T S n w) : WP.Ok T S n (WP.next T S n w) where
  e := fun c ok hcl e ρ σ Φ h => by
    cases e with
    | Name x p =>
      obtain ⟨hd, h⟩ := chk_ok h
      rw [Bool.not_eq_true'] at hd
      cases e : S.names.lookup x with
      | none => rw [e] at h; exact False.elim h
      | some k =>
        rw [e] at h
        cases k with
        | «local» =>
          dsimp only at h
          cases e' : ρ x with
          | none => rw [e'] at h; exact False.elim h
          | some v => rw [e'] at h; exact Ev.name e' h e hk hd
        | cell =>
          obtain ⟨a, v, h1, h2, h3⟩ := h
          intro fr h' tk R
          obtain ⟨mp, o, rest, F, N, hne, ⟨ou, hdt, u, rfl, hv⟩, _⟩ := R.focus h2 nk_cell
          exact nameX_C (c := a) N (by rw [hcl]; exact h1) (.head _) hdt ⟨v, σ, h', tk, rfl, R, hv, h3⟩ hk e hd
        | globalImplicit =>
          dsimp only at h
          cases e' : T.glob x with
          | none => rw [e'] at h; exact False.elim h
          | some v => rw [e'] at h; obtain ⟨u, hu, hg⟩ := hT.glob x v e'; exact Ev.global ok hu hg h e hk hd
        | _ => exact False.elim h
    | Constant k j p =>
      cases k with
      | int i => exact Ev.int h
      | str x => exact Ev.str h
      | bool b => exact Ev.bool h
      | _ => exact False.elim h
    | BinOp l op r p => exact Ev.bin ok ((W.e c ok hcl _ _ _ _ h).mono fun a σ₁ h => W.e c ok hcl _ _ _ _ h)
    | UnaryOp op x p =>
      cases op with
      | USub =>
        refine Ev.neg ((W.e c ok hcl _ _ _ _ h).mono fun a σ₁ h => ?_)
        cases a with
        | int i => exact ⟨i, rfl, h⟩
        | _ => exact False.elim h
      | _ => exact False.elim h
    | IfExp t x y p => exact Ev.ifExp ((W.b c ok hcl _ _ _ _ h).mono fun b σ' h => ⟨fun e => W.e c ok hcl _ _ _ _ (h.1 e), fun e => W.e c ok hcl _ _ _ _ (h.2 e)⟩)
    | Compare l ops rs p =>
      obtain ⟨op, r, rfl, rfl, hm, h⟩ := wCmp_ok W ok hcl h
      exact Ev.cmp h hm
    | Tuple es k p => exact Ev.tuple ok (W.l c ok hcl p _ _ _ _ h)
    | List es p => exact Ev.list ok (W.l c ok hcl p _ _ _ _ h)
    | ListComp a b d p => exact h.go c ok hcl hk
    | Subscript e i p =>
      cases i with
      | Slice a b d q => exact h.go c ok hcl hk
      | _ =>
        have h : w.e e ρ σ fun o σ₁ => w.e _ ρ σ₁ fun iv σ₂ => ItemN o iv σ₂ Φ := h
        exact Ev.item ((W.e c ok hcl _ _ _ _ h).mono fun o σ₁ h => (W.e c ok hcl _ _ _ _ h).mono fun iv σ₂ ⟨v, h1, h2⟩ => ⟨v, h1 c n S ok, h2⟩) rfl
    | Attribute e x p => exact Ev.attr ok ((W.e c ok hcl _ _ _ _ (chk_ok h).2).mono fun o σ₁ ⟨a, C, dx, kvs, v, h1, h2, h3, h4, h5⟩ => ⟨a, C, dx, kvs, v, h1, h2, h3, hT.attr _ _ h4, h5⟩) (chk_ok h).1
    | BoolOp op es p =>
      cases op with
      | And => match es, h with
        | [x], h => exact Ev.boolOne (W.e c ok hcl _ _ _ _ h)
        | x :: y :: r, h =>
          refine Ev.and ((W.e c ok hcl _ _ _ _ h).mono fun v σ' h => ?_)
          cases v with
          | bool b => exact ⟨b, rfl, fun e => W.e c ok hcl _ _ _ _ (h.1 e), h.2⟩
          | _ => exact False.elim h
      | Or => match es, h with
        | [x], h => exact Ev.boolOne (W.e c ok hcl _ _ _ _ h)
        | x :: y :: r, h =>
          refine Ev.or ((W.e c ok hcl _ _ _ _ h).mono fun v σ' h => ?_)
          cases v with
          | bool b => exact ⟨b, rfl, fun e => W.e c ok hcl _ _ _ _ (h.1 e), h.2⟩
          | _ => exact False.elim h
    | Dict ks vs p =>
      match vs, h with
      | [], h => exact wDict_ok W ok hcl h
      | [_], h => exact wDict_ok W ok hcl h
      | _ :: _ :: _, h => exact h.go c ok hcl hk
    | Call f args kws p => exact wCall_ok hT hk W ok hcl h
    | _ => exact False.elim h
  b := fun c ok hcl e ρ σ Ψ h => by
    have plain : plainTest e = true → w.e e ρ σ (fun v σ' => (match v with | .bool b => Ψ b σ' | _ => False)) → EvB c S (PySem.isTrue e (c.env S) (eval e (c.env S))) ρ σ Ψ := fun hp h =>
      Tr.plain ((W.e c ok hcl _ _ _ _ h).mono fun v σ' h => by
        cases v with
        | bool b => exact ⟨b, rfl, h⟩
        | _ => exact False.elim h) hp
    cases e with
    | UnaryOp op x p =>
      cases op with
      | Not => exact Tr.not (W.b c ok hcl _ _ _ _ h)
      | _ => exact False.elim h
    | Compare l ops rs p =>
      have key : wCmp w l ops rs ρ σ Ψ ∨ wChain w l ops rs ρ σ Ψ := by
        match ops, h with
        | [_, _], h => exact .inr h
        | [], h => exact .inl h
        | [_], h => exact .inl h
        | _ :: _ :: _ :: _, h => exact .inl h
      rcases key with h | h
      · obtain ⟨op, r, rfl, rfl, hm, h⟩ := wCmp_ok W ok hcl h
        exact Tr.cmp h hm
      · exact wChain_ok W ok hcl h
    | BoolOp op es p =>
      cases op with
      | And => exact W.ands c ok hcl _ _ _ _ _ _ h
      | Or => exact W.ors c ok hcl _ _ _ _ _ _ h
    | IfExp t x y p => exact False.elim h
    | _ => exact plain rfl h
  l := fun c ok hcl pos es ρ σ Θ h => by
    cases es with
    | nil => exact El.nil h
    | cons e r => exact El.cons ((W.e c ok hcl _ _ _ _ (chk_ok h).2).mono fun v σ' h => W.l c ok hcl pos _ _ _ _ h) (chk_ok h).1
  ands := fun c ok hcl pos whole es ρ σ Ψ h => by
    cases es with
    | nil => exact Tr.andNil h
    | cons x r => exact Tr.and ((W.b c ok hcl _ _ _ _ h).mono fun b σ' h => ⟨fun e => W.ands c ok hcl _ _ _ _ _ _ (h.1 e), h.2⟩)
  ors := fun c ok hcl pos whole es ρ σ Ψ h => by
    cases es with
    | nil => exact Tr.orNil h
    | cons x r => exact Tr.or ((W.b c ok hcl _ _ _ _ h).mono fun b σ' h => ⟨h.1, fun e => W.ors c ok hcl _ _ _ _ _ _ (h.2 e)⟩)
theorem wk_ok (hT : T.Ok) (hk : S.kind = .function) : ∀ k, WP.Ok T S n (wk T S n k)
  | 0 => ⟨fun _ _ _ _ _ _ _ h => h.elim, fun _ _ _ _ _ _ _ h => h.elim, fun _ _ _ _ _ _ _ _ h => h.elim, fun _ _ _ _ _ _ _ _ _ h => h.elim, fun _ _ _ _ _ _ _ _ _ h => h.elim⟩
  | k + 1 => next_ok hT hk (wk_ok hT hk k)
end
end
section
/-! ## statements -/
noncomputable def SetI (c : Cx) (S : Scope) (o i v : V) (σ σ' : Sg) : Prop := ∀ ρ fr h tk uo ui uv, Rel c ρ σ fr h → o.Is uo → i.Is ui → v.Is uv → ∀ (Q : Unit → Shared → Prop) E,
  (∀ h' tk', Rel c ρ σ' fr h' → Q () (c.sh h' tk')) → wpAny (model PW c.w) (c.A S) (setItem uo ui uv) Q E (c.sh h tk)
noncomputable def SISpec (o i v : V) (σ σ' : Sg) : Prop := ∀ c n S, Cx.Ok c n → SetI c S o i v σ σ'
section
variable {c : Cx} {S : Scope} {ρ : Rho} {σ : Sg} {Φ : Fl → Rho → Sg → Prop} {pos : Pos} {n : Nat}
theorem SISpec.idict {d : Addr} {kvs : List (Int × V)} {k : Int} {v : V} (e : σ d = some (.idict kvs)) (hz : kvs.length ≤ sizeLine) : SISpec (.ref d) (.int k) v σ (upd σ d (.idict (dput kvs k v))) := by
  intro c n S ok ρ fr h tk uo ui uv R ho hi hv Q E hQ
  obtain rfl : uo = .ref d := ho
  obtain ⟨t, rfl⟩ := hi
  obtain ⟨us, hd, hp⟩ := R.idict ok e
  have hk : kTup d ≠ some (.idict kvs) := by unfold kTup; repeat' split <;> simp
  refine wpAny_setItem_pairs (s := c.sh h tk) (intKind_is PW c.w k t) hd (fun h' hd' hs => ?_) (by rw [hp.length]; exact hz)
  obtain ⟨o', ho', hd''⟩ := Heap.dictOf_iff.mp hd'
  exact hQ h' _ (R.change e hk hs ho' ⟨_, hd'', hp.put k hv⟩)
theorem Ex.setItem {e o i : PySem.Expr} {pos' : Pos} (ok : c.Ok n) (h : EvV c S (eval e (c.env S)) ρ σ fun v σ₁ => EvV c S (eval o (c.env S)) ρ σ₁ fun ov σ₂ => EvV c S (eval i (c.env S)) ρ σ₂ fun iv σ₃ => ∃ σ', SetI c S ov iv v σ₃ σ' ∧ Φ .next ρ σ')
    (hs : notComp e = true) : ExS c (exec (.Assign [.Subscript o i pos'] e pos) (c.env S)) S ρ σ Φ := by
  intro fr h' tk R
  refine wpAny_Assign_Subscript (wpAny_mono (h fr h' tk R) (fun u s₁ q => ?_) fun _ _ e => e) (swaps_eq hs)
  obtain ⟨v, σ₁, h1, tk1, rfl, R1, iv, q⟩ := q
  refine wpAny_mono (q fr h1 tk1 R1) (fun u2 s₂ q => ?_) fun _ _ e => e
  obtain ⟨ov, σ₂, h2, tk2, rfl, R2, io, q⟩ := q
  refine wpAny_mono (q fr h2 tk2 R2) (fun u3 s₃ q => ?_) fun _ _ e => e
  obtain ⟨xv, σ₃, h3, tk3, rfl, R3, ix, σ', hS, q⟩ := q
  exact hS ρ fr h3 tk3 u2 u3 u R3 io ix iv _ _ fun h4 tk4 R4 => ⟨.next, ρ, σ', h4, tk4, rfl, R4, rfl, q⟩
theorem StrEs.isSome {w : World} {kvs : List (Str × V)} {es : List DictEntry} (h : StrEs w kvs es) (x : Str) : (getL x es).isSome = true := by
  have := h.find x
  cases e : dget kvs x with
  | none => rw [e] at this; dsimp only at this; rw [this]; rfl
  | some v => rw [e] at this; obtain ⟨u, hu, _⟩ := this; rw [hu]; rfl
theorem Ex.setAttr {e o : PySem.Expr} {x : Str} {pos' : Pos} (ok : c.Ok n) (h : EvV c S (eval e (c.env S)) ρ σ fun v σ₁ => EvV c S (eval o (c.env S)) ρ σ₁ fun ov σ₂ =>
      ∃ a C dx kvs, ov = .ref a ∧ InstIs σ₂ a C dx kvs ∧ SetOk C x ∧ (kvs.map (·.1)).Nodup ∧ kvs.length < 1000 ∧ Φ .next ρ (upd σ₂ dx (.sdict (dput kvs x v))))
    (hs : notComp e = true) : ExS c (exec (.Assign [.Attribute o x pos'] e pos) (c.env S)) S ρ σ Φ := by
  intro fr h' tk R
  refine plainObj_wpAny_Assign_Attribute (wpAny_mono (h fr h' tk R) (fun u s₁ q => ?_) fun _ _ e => e) (swaps_eq hs)
  obtain ⟨v, σ₁, h1, tk1, rfl, R1, iv, q⟩ := q
  refine wpAny_mono (q fr h1 tk1 R1) (fun u2 s₂ q => ?_) fun _ _ e => e
  obtain ⟨ov, σ₂, h2, tk2, rfl, R2, io, a, C, dx, kvs, rfl, I, A, hnd, hz, q⟩ := q
  obtain rfl : u2 = .ref a := io
  have hk : kTup dx ≠ some (.sdict kvs) := by unfold kTup; repeat' split <;> simp
  obtain ⟨mp, o, rest, F, N, hne, ⟨es, k, rfl, hE⟩, hsm, _, hoth, K⟩ := R2.focus I.dict hk
  obtain ⟨o', g1, g2, _⟩ := R2.obj ok I.obj
  have e : o' = instObj C dx := g2
  subst e
  have hI : W.InstAt h2 a (instObj C dx) C (some (dictOf es k)) := ⟨g1, rfl, rfl, (N _ (.head _)).1⟩
  have hput := hE.put (x := x) (t := tk2 + 1) iv hnd
  refine PySem.W.set_dict (s := c.sh h2 tk2) F ok.X N hI rfl (A.set _) (A.plain _) (A.taker _) (A.dict _) (hE.isSome x) rfl (Upd.head hne) ?_ fun h3 F3 N3 => ?_
  · rw [hput.length]; have := dput_length kvs x v; (first | lia | omega)
  · exact ⟨.next, ρ, _, h3, _, rfl, K h3 _ (.sdict (dput kvs x v)) F3 N3 ⟨_, _, rfl, hput⟩, rfl, q⟩
noncomputable def pairOk (x y : Str) (px py : Pos) (e f : PySem.Expr) : Bool := py.line == px.line && !(x == y) && !(([e, f].all (foldedForSure 8))) && !(([e, f].all (constantsAlone 8))) && notStar e && notStar f
theorem swapped_eq {x y : Str} {px py tp dp : Pos} {k k' : Nat} {e f : PySem.Expr} {env : Env} (hx : env.kindOf x = some .local) (hy : env.kindOf y = some .local) (hk : env.blockKind = .function) (h : pairOk x y px py e f = true) :
    swappedStores [.Tuple [.Name x px, .Name y py] k tp] (.Tuple [e, f] k' dp) env = pure (some [x, y]) := by
  unfold pairOk at h
  simp only [Bool.and_eq_true, Bool.not_eq_true'] at h
  obtain ⟨⟨⟨⟨⟨h1, h2⟩, h3⟩, h4⟩, h5⟩, h6⟩ := h
  have one : ∀ e : PySem.Expr, notStar e = true → (match e with | .Starred .. => true | _ => false) = false := fun e h => by cases e <;> first | rfl | cases h
  have e1 : ([e, f].any fun | .Starred .. => true | _ => false) = false := by
    show (_ || (_ || false)) = false
    rw [Bool.or_eq_false_iff, Bool.or_eq_false_iff]
    exact ⟨one e h5, one f h6, rfl⟩
  have e2 : [x, y].eraseDups = [x, y] := by
    have : (y == x) = false := by rw [beq_eq_false_iff_ne]; intro q; subst q; simp at h2
    simp [List.eraseDups_cons, List.filter_cons, this]
  have h1' : py.line = px.line := beq_iff_eq.mp h1
  have p1 : (PySem.Expr.Name x px).pos = px := rfl
  have p2 : (PySem.Expr.Name y py).pos = py := rfl
  unfold swappedStores
  simp only [List.length_cons, List.length_nil, List.head?_cons, Option.map_some, Option.getD_some, List.filterMap_cons, List.filterMap_nil, hx, hy, h1', p1, p2, hk, beq_self_eq_true, Bool.and_true, if_true, e2, h3, h4]
  refine (if_neg (by decide)).trans ((if_neg fun q => Bool.false_ne_true (e1.symm.trans q)).trans ?_)
  rfl
noncomputable def asName : PySem.Expr → Option (Str × Pos) | .Name x p => some (x, p) | _ => none
noncomputable def asTup : PySem.Expr → Option (List PySem.Expr) | .Tuple es _ _ => some es | _ => none
theorem asName_eq {e : PySem.Expr} {x : Str} {p : Pos} (h : asName e = some (x, p)) : e = .Name x p := by cases e <;> simp [asName] at h; obtain ⟨rfl, rfl⟩ := h; rfl
theorem asTup_eq {e : PySem.Expr} {es : List PySem.Expr} (h : asTup e = some es) : ∃ k p, e = .Tuple es k p := by cases e <;> simp [asTup] at h; subst h; exact ⟨_, _, rfl⟩
/-- a, b = (x, y) -/
noncomputable def wPair (S : Scope) (w : WP) (ts es : Option (List PySem.Expr)) (ρ : Rho) (σ : Sg) (K : Rho → Sg → Prop) : Prop := match ts, es with
  | some [t1, t2], some [e, f] => (match asName t1, asName t2 with
    | some (x, px), some (y, py) => chk (S.names.lookup x == some .local && S.names.lookup y == some .local && pairOk x y px py e f)
        (w.e e ρ σ fun v σ₁ => w.e f ρ σ₁ fun u σ₂ => ∀ a, σ₂ a = none → K (put (put ρ y u) x v) (upd σ₂ a (.tup [v, u])))
    | _, _ => False)
  | _, _ => False
structure XStm (T : Tabs) (S : Scope) (n : Nat) (st : Stmt) (ρ : Rho) (σ : Sg) (Φ : Fl → Rho → Sg → Prop) : Prop where
  go : ∀ c, Cx.Ok c n → c.cl = T.cl → c.S₀ = S → S.kind = .function → ExS c (exec st (c.env S)) S ρ σ Φ
noncomputable def isLoc (S : Scope) : PySem.Expr → Bool | .Name x _ => S.names.lookup x == some .local | _ => false
/-- is it a pair of plain names and a pair of values? -/
noncomputable def pairPlain (S : Scope) (t e : PySem.Expr) : Bool := match t with
  | .Tuple ts _ _ => (asTup e).isSome && ts.all (isLoc S)
  | _ => true
inductive CellS (T : Tabs) (x : Str) (σ : Sg) (v : V) (K : Sg → Prop) : Prop
  | mk (a : Addr) (u : Option V) (l : T.cl.lookup x = some a) (e : σ a = some (.cell u)) (k : K (upd σ a (.cell (some v)))) : CellS T x σ v K
inductive AttrS (T : Tabs) (x : Str) (o : V) (σ : Sg) (v : V) (K : Sg → Prop) : Prop
  | mk (a C dx : Addr) (kvs : List (Str × V)) (e : o = .ref a) (i : InstIs σ a C dx kvs) (t : T.sett C x = true) (d : (kvs.map (·.1)).Nodup) (l : kvs.length < 1000) (k : K (upd σ dx (.sdict (dput kvs x v)))) : AttrS T x o σ v K
inductive ItemS (o i v : V) (σ : Sg) (K : Sg → Prop) : Prop
  | mk (σ' : Sg) (h : SISpec o i v σ σ') (k : K σ') : ItemS o i v σ K
noncomputable def wAssign (T : Tabs) (S : Scope) (w : WP) (t e : PySem.Expr) (ρ : Rho) (σ : Sg) (K : Rho → Sg → Prop) : Prop := chk (notComp e) <| match t with
  | .Name x _ => (match S.names.lookup x with
    | some .cell => w.e e ρ σ fun v σ' => CellS T x σ' v (K ρ)
    | k => chk (k == some .local) (w.e e ρ σ fun v σ' => K (put ρ x v) σ'))
  | .Tuple ts _ _ => wPair S w (some ts) (asTup e) ρ σ K
  | .Attribute o x _ => w.e e ρ σ fun v σ₁ => w.e o ρ σ₁ fun ov σ₂ => AttrS T x ov σ₂ v (K ρ)
  | .Subscript o i _ => w.e e ρ σ fun v σ₁ => w.e o ρ σ₁ fun ov σ₂ => w.e i ρ σ₂ fun iv σ₃ => ItemS ov iv v σ₃ (K ρ)
  | _ => False
theorem storeC_ev {x : Str} {a : Addr} {ov : Option V} {v : V} {u : Value} {fr : Led} {h' : Heap} {tk : Nat} {Q : Unit → Shared → Prop} (R : Rel c ρ σ fr h') (hi : v.Is u) (hc : c.cl.lookup x = some a) (e : σ a = some (.cell ov)) (h : ∀ h1, Rel c ρ (upd σ a (.cell (some v))) fr h1 → Q () (c.sh h1 tk))
    (hx : S.names.lookup x = some .cell) (hk : S.kind = .function) : wpAny (model PW c.w) (c.A S) (storeName (c.env S) x u) Q c.E (c.sh h' tk) := by
  obtain ⟨mp, o, rest, F, N, hne, ⟨ou, hd, _⟩, _, _, _, K⟩ := R.focus e nk_cell
  exact storeX_C F N hc (g := fun o' => (a, o') :: rest) (UpdF.head hne) hd (fun h1 o' F1 N1 hd1 => h h1 (K h1 o' (.cell (some v)) F1 N1 ⟨_, hd1, u, rfl, hi⟩)) hk hx
theorem Ex.assignC {x : Str} {px : Pos} {e : PySem.Expr} (h : EvV c S (eval e (c.env S)) ρ σ fun v σ' => ∃ a u, c.cl.lookup x = some a ∧ σ' a = some (.cell u) ∧ Φ .next ρ (upd σ' a (.cell (some v))))
    (hx : S.names.lookup x = some .cell) (hk : S.kind = .function) (hs : notComp e = true) : ExS c (exec (.Assign [.Name x px] e pos) (c.env S)) S ρ σ Φ := by
  intro fr h' tk R
  refine wpAny_Assign_Name (wpAny_mono (h fr h' tk R) (fun u s₁ q => ?_) fun _ _ e => e) (swaps_eq hs)
  obtain ⟨v, σ', h1, tk1, rfl, R1, iv, a, ov, hc, ha, q⟩ := q
  exact storeC_ev R1 iv hc ha (fun h2 R2 => ⟨.next, _, _, h2, tk1, rfl, R2, rfl, q⟩) hx hk
theorem wAssign_ok {T : Tabs} {w : WP} (hT : T.Ok) (hk : S.kind = .function) (W : WP.Ok T S n w) (ok : c.Ok n) (hcl : c.cl = T.cl) {t e : PySem.Expr} {K : Rho → Sg → Prop} (h : wAssign T S w t e ρ σ K) (hK : ∀ ρ σ, K ρ σ → Φ .next ρ σ) :
    ExS c (exec (.Assign [t] e pos) (c.env S)) S ρ σ Φ := by
  obtain ⟨hc, h⟩ := chk_ok h
  cases t with
  | Name x px =>
    have plain : chk (S.names.lookup x == some .local) (w.e e ρ σ fun v σ' => K (put ρ x v) σ') → ExS c (exec (.Assign [.Name x px] e pos) (c.env S)) S ρ σ Φ := fun h =>
      Ex.assign ((W.e c ok hcl _ _ _ _ (chk_ok h).2).mono fun v σ' q => hK _ _ q) (beq_iff_eq.mp (chk_ok h).1) hk hc
    dsimp only at h
    generalize hl : S.names.lookup x = l at h
    rw [hl] at plain
    split at h
    · exact Ex.assignC ((W.e c ok hcl _ _ _ _ h).mono fun v σ' ⟨a, u, h1, h2, h3⟩ => ⟨a, u, by rw [hcl]; exact h1, h2, hK _ _ h3⟩) hl hk hc
    · exact plain h
  | Attribute o x p' => exact Ex.setAttr ok ((W.e c ok hcl _ _ _ _ h).mono fun v σ₁ q => (W.e c ok hcl _ _ _ _ q).mono fun ov σ₂ ⟨a, C, dx, kvs, h1, h2, h3, h4, h5, h6⟩ => ⟨a, C, dx, kvs, h1, h2, hT.sett _ _ h3, h4, h5, hK _ _ h6⟩) hc
  | Subscript o i p' => exact Ex.setItem ok ((W.e c ok hcl _ _ _ _ h).mono fun v σ₁ q => (W.e c ok hcl _ _ _ _ q).mono fun ov σ₂ q => (W.e c ok hcl _ _ _ _ q).mono fun iv σ₃ ⟨σ', h1, h2⟩ => ⟨σ', h1 c n S ok, hK _ _ h2⟩) hc
  | Tuple ts k p' =>
    cases he : asTup e with
    | none => dsimp only at h; rw [he] at h; unfold wPair at h; split at h <;> first | cases ‹_ = _› | exact h.elim
    | some es =>
      obtain ⟨k', dp, rfl⟩ := asTup_eq he
      dsimp only at h
      rw [he] at h
      match ts, es, h with
      | [t1, t2], [e, f], h =>
        unfold wPair at h
        dsimp only at h
        cases h1 : asName t1 with
        | none => rw [h1] at h; exact False.elim h
        | some q1 =>
          cases h2 : asName t2 with
          | none => rw [h1, h2] at h; exact False.elim h
          | some q2 =>
            rw [h1, h2] at h
            obtain ⟨x, px⟩ := q1
            obtain ⟨y, py⟩ := q2
            obtain rfl := asName_eq h1
            obtain rfl := asName_eq h2
            obtain ⟨hx, h⟩ := chk_ok h
            simp only [Bool.and_eq_true, beq_iff_eq] at hx
            obtain ⟨⟨hx, hy⟩, hp⟩ := hx
            have hp' := hp
            unfold pairOk at hp'
            simp only [Bool.and_eq_true] at hp'
            refine Ex.pair ok ((W.e c ok hcl _ _ _ _ h).mono fun v σ₁ q => (W.e c ok hcl _ _ _ _ q).mono fun u σ₂ q => fun a ha => hK _ _ (q a ha)) hx hy hk ?_ hp'.1.2 hp'.2
            exact swapped_eq hx hy (by unfold Env.blockKind; rw [show (c.env S).scope.kind = .function from hk]; rfl) hp
  | _ => exact False.elim h
end
end
section
inductive ForN (v : V) (σ₁ : Sg) (ρ : Rho) (St : Nat → (Nat → V → Prop) → (Nat → Rho → Sg → Prop) → Prop) (next : Rho → Sg → Prop) : Prop
  | mk (σ' : Sg) (N : Nat) (P : Nat → V → Prop) (need : Sg → Prop) (J : Nat → Rho → Sg → Prop) (s : SrcSpec v σ₁ σ' N P need) (i : ForP J 0 ρ σ') (n : ∀ i ρ σ, J i ρ σ → need σ) (st : St N P J) (dn : ∀ ρ σ, J N ρ σ → next ρ σ) : ForN v σ₁ ρ St next
inductive WhileN (ρ : Rho) (σ : Sg) (K : (Nat → Rho → Sg → Prop) → Prop) : Prop
  | mk (I : Nat → Rho → Sg → Prop) (m : Nat) (ρ₀ : Rho) (σ₀ : Sg) (r : RSub ρ₀ ρ) (s : Sub σ₀ σ) (i : I m ρ₀ σ₀) (k : K I) : WhileN ρ σ K
noncomputable def wFor (S : Scope) (w : WP) (t it : PySem.Expr) (body : Rho → Sg → (Fl → Rho → Sg → Prop) → Prop) (Φ : Fl → Rho → Sg → Prop) (next : Rho → Sg → Prop) (ρ : Rho) (σ : Sg) : Prop := chk (notSet it) <| match t with
  | .Name x _ => chk (S.names.lookup x == some .local) <| w.e it ρ σ fun v σ₁ => ForN v σ₁ ρ (fun N P J => ∀ i ρ σ v, i < N → J i ρ σ → P i v → body (put ρ x v) σ fun f ρ' σ' => match f with | .ret v => Φ (.ret v) ρ' σ' | .brk => next ρ' σ' | _ => ForP J (i + 1) ρ' σ') next
  | _ => False
/-- statements: w is the wp of the expressions -/
noncomputable def wS (T : Tabs) (S : Scope) (n : Nat) (w : WP) : Nat → List Stmt → Rho → Sg → (Fl → Rho → Sg → Prop) → Prop
  | 0, _, _, _, _ => False
  | k + 1, sts, ρ, σ, Φ => match sts with
    | [] => Φ .next ρ σ
    | st :: rest => match st with
      | .Assign ts e _ => (match ts with | [t] => (match pairPlain S t e with | true => wAssign T S w t e ρ σ fun ρ σ => wS T S n w k rest ρ σ Φ | false => XStm T S n st ρ σ fun f ρ σ => match f with | .next => wS T S n w k rest ρ σ Φ | f => Φ f ρ σ) | _ => False)
      | .Return v _ => (match v with | some e => w.e e ρ σ fun v σ' => Φ (.ret v) ρ σ' | none => False)
      | .Expr e _ => chk (notComp e) (w.e e ρ σ fun v σ' => (match v with | .ref _ => False | _ => wS T S n w k rest ρ σ' Φ))
      | .If t b o _ => w.b t ρ σ fun bo σ' =>
          (bo = true → wS T S n w k b ρ σ' fun f ρ σ => match f with | .next => wS T S n w k rest ρ σ Φ | f => Φ f ρ σ) ∧
          (bo = false → wS T S n w k o ρ σ' fun f ρ σ => match f with | .next => wS T S n w k rest ρ σ Φ | f => Φ f ρ σ)
      | .While t b o _ => chk o.isEmpty <| WhileN ρ σ fun I => ∀ m ρ σ, I m ρ σ → w.b t ρ σ fun bo σ' =>
          (bo = true → wS T S n w k b ρ σ' fun f ρ2 σ2 => match f with | .ret v => Φ (.ret v) ρ2 σ2 | .brk => wS T S n w k rest ρ2 σ2 Φ | _ => WhileP I m ρ2 σ2) ∧
          (bo = false → wS T S n w k rest ρ σ' Φ)
      | .For t it b o _ => (match t with | .Tuple .. => XStm T S n st ρ σ (fun f ρ σ => match f with | .next => wS T S n w k rest ρ σ Φ | f => Φ f ρ σ) | t => chk o.isEmpty <| wFor S w t it (wS T S n w k b) Φ (fun ρ σ => wS T S n w k rest ρ σ Φ) ρ σ)
      | .Continue _ => Φ .cont ρ σ
      | _ => False
section
variable {T : Tabs} {S : Scope} {n : Nat} {w : WP} {c : Cx}
theorem folded_eq {e : PySem.Expr} {env : Env} (h : notSet e = true) (x : Value) : foldedSetIterable e env x = pure x := by cases e <;> first | rfl | cases h
theorem wS_ok (hT : T.Ok) (hk : S.kind = .function) (W : WP.Ok T S n w) (ok : c.Ok n) (hcl : c.cl = T.cl) (hS : c.S₀ = S) : ∀ k sts ρ σ Φ, wS T S n w k sts ρ σ Φ → Exs c S sts ρ σ Φ := by
  intro k
  induction k with
  | zero => intro _ _ _ _ h; exact False.elim h
  | succ k ih =>
    intro sts ρ σ Φ h
    cases sts with
    | nil => exact Exs.nil h
    | cons st rest =>
      have K : ∀ f ρ σ, (match f with | .next => wS T S n w k rest ρ σ Φ | f => Φ f ρ σ) → Then c S rest Φ f ρ σ := fun f ρ σ q => by
        cases f with
        | next => exact ih _ _ _ _ q
        | _ => exact q
      refine Exs.cons ?_
      cases st with
      | Assign ts e p => match ts, h with
        | [t], h =>
          have h : (match (generalizing := false) pairPlain S t e with | true => wAssign T S w t e ρ σ fun ρ σ => wS T S n w k rest ρ σ Φ | false => XStm T S n (.Assign [t] e p) ρ σ fun f ρ σ => match f with | .next => wS T S n w k rest ρ σ Φ | f => Φ f ρ σ) := h
          cases hp : pairPlain S t e with
          | true => rw [hp] at h; exact wAssign_ok (K := fun ρ σ => wS T S n w k rest ρ σ Φ) hT hk W ok hcl h fun ρ σ q => ih _ _ _ _ q
          | false => rw [hp] at h; exact (h.go c ok hcl hS hk).mono K
      | Return v p => match v, h with
        | some e, h => exact Ex.ret ((W.e c ok hcl _ _ _ _ h).mono fun v σ' q => q)
      | Expr e p =>
        refine Ex.expr ((W.e c ok hcl _ _ _ _ (chk_ok h).2).mono fun v σ' q => ?_) hk (chk_ok h).1
        cases v with
        | ref a => exact False.elim q
        | none => exact ⟨fun _ => nofun, ih _ _ _ _ q⟩
        | bool b => exact ⟨fun _ => nofun, ih _ _ _ _ q⟩
        | int b => exact ⟨fun _ => nofun, ih _ _ _ _ q⟩
        | str b => exact ⟨fun _ => nofun, ih _ _ _ _ q⟩
      | If t b o p => exact Ex.if ((W.b c ok hcl _ _ _ _ h).mono fun bo σ' q => ⟨fun e => (ih _ _ _ _ (q.1 e)).mono K, fun e => (ih _ _ _ _ (q.2 e)).mono K⟩)
      | While t b o p =>
        obtain ⟨ho, I, m, ρ₀, σ₀, hr, hs, h0, hw⟩ := chk_ok h
        obtain rfl := List.isEmpty_iff.mp ho
        refine Ex.while ok hS I m hr hs h0 fun m ρ σ hI => (W.b c ok hcl _ _ _ _ (hw m ρ σ hI)).mono fun bo σ' q => ⟨fun e => (ih _ _ _ _ (q.1 e)).mono fun f ρ2 σ2 z => ?_, fun e => ih _ _ _ _ (q.2 e)⟩
        cases f with
        | next => exact z
        | cont => exact z
        | brk => exact ih _ _ _ _ z
        | ret v => exact z
      | For t it b o p =>
        have key : (XStm T S n (.For t it b o p) ρ σ (fun f ρ σ => match f with | .next => wS T S n w k rest ρ σ Φ | f => Φ f ρ σ)) ∨ chk o.isEmpty (wFor S w t it (wS T S n w k b) Φ (fun ρ σ => wS T S n w k rest ρ σ Φ) ρ σ) := by
          cases t with
          | Tuple x y z => exact .inl h
          | _ => exact .inr h
        clear h
        rcases key with h | h
        · exact (h.go c ok hcl hS hk).mono K
        obtain ⟨ho, h'⟩ := chk_ok h
        clear h
        obtain rfl := List.isEmpty_iff.mp ho
        unfold wFor at h'
        obtain ⟨hn, h⟩ := chk_ok h'
        clear h'
        cases t with
        | Name x px =>
          obtain ⟨hx, h⟩ := chk_ok h
          have hx := beq_iff_eq.mp hx
          refine Ex.for ok hS ((W.e c ok hcl _ _ _ _ h).mono fun v σ₁ ⟨σ', N, P, need, J, h1, h2, h3, h4, h5⟩ => ⟨σ', N, P, need, J, h1 c n S ok, h2, h3, fun i ρ σ v hi hJ hP => (ih _ _ _ _ (h4 i ρ σ v hi hJ hP)).mono fun f ρ' σ' z => ?_, fun ρ σ hJ => ih _ _ _ _ (h5 ρ σ hJ)⟩) hx hk (folded_eq hn)
          cases f with
          | next => exact z
          | cont => exact z
          | brk => exact ih _ _ _ _ z
          | ret v => exact z
        | _ => exact False.elim h
      | Continue p => exact Ex.continue h
      | _ => exact False.elim h
end
/-! ## a def: its object, its text -/
noncomputable def allVals : Nat → (List Value → Prop) → Prop
  | 0, P => P []
  | n + 1, P => ∀ a, allVals n fun l => P (a :: l)
theorem allVals_ok : ∀ {n : Nat} {P : List Value → Prop}, allVals n P → ∀ us : List Value, us.length = n → P us
  | 0, P, h, [], _ => h
  | n + 1, P, h, a :: us, e => allVals_ok (P := fun l => P (a :: l)) (h a) us (Nat.succ.inj e)
/-- what is asked of the object of a def -/
noncomputable def fnGood (o : Option Obj) : Option (FuncData × List Stmt) := match o with
  | some ⟨_, _, .func fd, _⟩ => (match fd.body with
    | .stmts b => if fd.globals == mainGlobals && fd.closure.isEmpty && fd.builtins == builtinsNs then some (fd, b) else none
    | _ => none)
  | _ => none
theorem fnGood_eq {o : Option Obj} {fd : FuncData} {b : List Stmt} (h : fnGood o = some (fd, b)) : (∃ oc od osl, o = some ⟨oc, od, .func fd, osl⟩) ∧ fd = fnOf fd.name fd.qualname fd.params b fd.scope fd.defaults fd.kwdefaults fd.doc fd.pyModule fd.annotations fd.code fd.closureTuple := by
  unfold fnGood at h
  split at h
  · rename_i oc od fd' osl
    split at h
    · rename_i b' hb
      split at h
      · rename_i hc
        cases h
        simp only [Bool.and_eq_true, beq_iff_eq, List.isEmpty_iff] at hc
        obtain ⟨⟨h1, h2⟩, h3⟩ := hc
        refine ⟨⟨oc, od, osl, rfl⟩, ?_⟩
        cases fd
        simp only at hb h1 h2 h3 ⊢
        subst hb h1 h2 h3
        rfl
      · cases h
    · cases h
  · cases h
noncomputable def scopeGood (names : List Str) (s : Scope) : Bool := names.all (fun x => s.names.lookup x == some .local) && !s.isCoroutine && !s.isGenerator && s.kind == .function && s.names.all (fun x => x.2 != .cell)
/-- what stands of a def at f: fd its data, of the text's def st -/
noncomputable def fdOf : Option Obj → FuncData | some ⟨_, _, .func fd, _⟩ => fd | _ => default
structure AtP (o : Option Obj) (K : Frag) (st : Stmt) (names : List Str) : Prop where
  good : fnGood o = some (fdOf o, fBody st)
  code : codeIn K (fdOf o).code (fdOf o).qualname = true
  sc : (fdOf o).scope = fScope st
  bind : allVals names.length fun us => bindArgs (fdOf o) ⟨us, []⟩ = pure (names.zip us)
structure At (f : Addr) (st : Stmt) (names : List Str) : Prop where
  good : ∀ P, AtP ((KK P).lookup f) (KK P) st names
  scope : scopeGood names (fScope st) = true
  nodup : names.Nodup
theorem At.defAt {f : Addr} {st : Stmt} {names : List Str} (A : At f st names) : DefAt f names (fBody st) (fScope st) := by
  have hs := A.scope
  unfold scopeGood at hs
  simp only [Bool.and_eq_true, Bool.not_eq_true', beq_iff_eq, bne_iff_ne, List.all_eq_true] at hs
  obtain ⟨⟨⟨⟨s1, s2⟩, s3⟩, s4⟩, s5⟩ := hs
  refine ⟨fun P => ?_, s1, s2, s3, s4, s5⟩
  obtain ⟨h1, h0, h2, h3⟩ := A.good P
  generalize (KK P).lookup f = o at h1 h0 h2 h3
  generalize fdOf o = fd at h1 h0 h2 h3
  obtain ⟨⟨oc, od, osl, rfl⟩, hb⟩ := fnGood_eq h1
  rw [h2] at hb
  exact ⟨fd.name, fd.qualname, fd.params, fd.defaults, fd.kwdefaults, fd.doc, fd.pyModule, fd.code, fd.closureTuple, oc, fd.annotations, od, osl, by rw [← hb], h0, fun us hl => by rw [← hb]; exact allVals_ok h3 us hl⟩
theorem CallOk.of {T : Tabs} (hT : T.Ok) {f : Addr} {st : Stmt} {names : List Str} (A : At f st names) {n k j : Nat} {vs : List V} {σ : Sg} {Φ : V → Sg → Prop} (hl : vs.length = names.length)
    (h : wS T (fScope st) n (wk T (fScope st) n j) k (fBody st) (binds names vs) σ fun fl _ σ' => match fl with | .ret v => SubQ (Φ v) σ' | .next => SubQ (Φ .none) σ' | _ => False) (hcl : T.cl = [] := by rfl) : CallOk (n + 1) f vs σ Φ := by
  have D := A.defAt
  refine CallOk.forget (enter D A.nodup hl fun c ok hS hc => (wS_ok hT D.kind (wk_ok hT D.kind j) ok (hc.trans hcl.symm) hS k _ _ _ _ h).mono fun fl ρ σ' q => ?_)
  cases fl <;> exact q
end
section
/-! ## built-in functions and methods -/
theorem VIs.one {a : V} {us : List Value} (h : VIs [a] us) : ∃ u, us = [u] ∧ a.Is u := by cases h with | cons h1 h => cases h; exact ⟨_, rfl, h1⟩
theorem VIs.two {a b : V} {us : List Value} (h : VIs [a, b] us) : ∃ u v, us = [u, v] ∧ a.Is u ∧ b.Is v := by
  cases h with | cons h1 h => obtain ⟨v, rfl, h2⟩ := h.one; exact ⟨_, v, rfl, h1, h2⟩
theorem VIs.three {a b d : V} {us : List Value} (h : VIs [a, b, d] us) : ∃ u v w, us = [u, v, w] ∧ a.Is u ∧ b.Is v ∧ d.Is w := by
  cases h with | cons h1 h => obtain ⟨v, w, rfl, h2, h3⟩ := h.two; exact ⟨_, v, w, rfl, h1, h2, h3⟩
theorem nk_list {a : Addr} {vs : List V} : kTup a ≠ some (.list vs) := by unfold kTup; repeat' split <;> simp
theorem nk_idict {a : Addr} {vs : List (Int × V)} : kTup a ≠ some (.idict vs) := by unfold kTup; repeat' split <;> simp
section
variable {σ : Sg} {Φ : V → Sg → Prop}
theorem Rel.idictX {c : Cx} {n : Nat} {ρ : Rho} (ok : c.Ok n) {fr : Led} {h : Heap} (R : Rel c ρ σ fr h) {d : Addr} {kvs : List (Int × V)} (e : σ d = some (.idict kvs)) :
    ∃ us, h.DictOf (intKind PW c.w) d us ∧ PIs kvs us ∧ (d == sysModules) = false := by
  obtain ⟨us, hd, hp⟩ := R.idict ok e
  obtain ⟨_, _, _, _, _, _, _, hs, _⟩ := R.focus e nk_idict
  exact ⟨us, hd, hp, hs⟩
theorem BSpec.abs {i : Int} (h : Φ (.int (i.natAbs : Int)) σ) : BSpec "abs" [.int i] σ Φ := fun _ _ _ _ _ => BCall.abs h
theorem BSpec.lenL {a : Addr} {vs : List V} (e : σ a = some (.list vs)) (hz : (vs.length : Int) < 2 ^ 63) (h : Φ (.int vs.length) σ) : BSpec "len" [.ref a] σ Φ := fun _ _ _ ok _ => BCall.lenList ok e hz h
theorem BSpec.lenD {a : Addr} {vs : List (Int × V)} (e : σ a = some (.idict vs)) (hz : (vs.length : Int) < 2 ^ 63) (h : Φ (.int vs.length) σ) : BSpec "len" [.ref a] σ Φ := fun _ _ _ ok _ => BCall.lenIdict ok e hz h
theorem BSpec.lenT {a : Addr} {vs : List V} (e : σ a = some (.tup vs)) (hz : (vs.length : Int) ≤ 16384) (h : Φ (.int vs.length) σ) : BSpec "len" [.ref a] σ Φ := by
  intro c n S ok _ ρ us hv fr h' tk R
  obtain ⟨u, rfl, i1⟩ := hv.one
  obtain rfl : u = .ref a := i1
  obtain ⟨o, hg, ⟨ws, m, rfl, hvs⟩, _⟩ := R.obj ok e
  have hl : IsTup h' a ws.toArray := ⟨_, hg, rfl, m, rfl⟩
  have e2 : (ws.toArray.size : Int) = vs.length := by rw [List.size_toArray, hvs.length]
  exact kun_lenT (s := c.sh h' tk) hl e2 hz ⟨.int vs.length, σ, h', _, rfl, R, ⟨_, rfl⟩, h⟩
theorem BSpec.append {a : Addr} {vs : List V} {v : V} (e : σ a = some (.list vs)) (hz : vs.length ≤ sizeLine) (h : Φ .none (upd σ a (.list (vs ++ [v])))) : BSpec "list.append" [.ref a, v] σ Φ := fun _ _ _ _ _ => BCall.append e hz h
theorem MSpec.append {a : Addr} {vs : List V} (e : σ a = some (.list vs)) : MSpec σ (.ref a) "append" "list.append" := fun _ _ _ ok => BMeth.list ok e F.slot_list_append F.type_list_append
theorem MSpec.pop {a : Addr} {vs : List V} (e : σ a = some (.list vs)) : MSpec σ (.ref a) "pop" "list.pop" := fun _ _ _ ok => BMeth.list ok e F.slot_list_pop F.type_list_pop
theorem MSpec.get {a : Addr} {vs : List (Int × V)} (e : σ a = some (.idict vs)) : MSpec σ (.ref a) "get" "dict.get" := fun _ _ _ ok => BMeth.idict ok e F.slot_dict_get F.type_dict_get
theorem MSpec.dpop {a : Addr} {vs : List (Int × V)} (e : σ a = some (.idict vs)) : MSpec σ (.ref a) "pop" "dict.pop" := fun _ _ _ ok => BMeth.idict ok e F.slot_dict_pop F.type_dict_pop
theorem MSpec.kget {a : Addr} {vs : List (Nd × Addr × V)} (e : σ a = some (.kdict vs)) : MSpec σ (.ref a) "get" "dict.get" := fun _ _ _ ok => BMeth.kdict ok e F.slot_dict_get F.type_dict_get
theorem BSpec.pop {a : Addr} {vs : List V} {v : V} (e : σ a = some (.list (vs ++ [v]))) (hz : vs.length < sizeLine) (h : Φ v (upd σ a (.list vs))) : BSpec "list.pop" [.ref a] σ Φ := by
  intro c n S ok _ ρ us hv fr h' tk R
  obtain ⟨u, rfl, i1⟩ := hv.one
  obtain rfl : u = .ref a := i1
  obtain ⟨mp, o, rest, F, N, hne, ⟨ws, m, rfl, hvs⟩, _, _, _, K⟩ := R.focus e nk_list
  obtain ⟨p, y, rfl, hp, hy⟩ : ∃ p y, ws = p ++ [y] ∧ VIs vs p ∧ v.Is y := by
    clear K N F e R hz h hne
    induction vs generalizing ws with
    | nil => obtain ⟨u, rfl, i⟩ := hvs.one; exact ⟨[], u, rfl, .nil, i⟩
    | cons x vs ih => cases hvs with | cons h1 h2 => obtain ⟨p, y, rfl, a, b⟩ := ih _ h2; exact ⟨_ :: p, y, rfl, .cons h1 a, b⟩
  have e1 : ∀ p : List Value, kl_last (p ++ [y]) = some (p, y) := fun p => by
    induction p with
    | nil => rfl
    | cons q r ih => rw [List.cons_append, kl_last, ih]
  refine kl_pop F N (by rw [List.toList_toArray]; exact e1 p) (Upd.head hne) (by rw [List.toList_toArray, List.length_append, hp.length]; exact hz) fun h1 F1 N1 => ?_
  exact ⟨v, _, h1, tk, rfl, K h1 _ (.list vs) F1 N1 ⟨p, m + 1, rfl, hp⟩, hy, h⟩
theorem BSpec.get {d : Addr} {kvs : List (Int × V)} {k : Int} {v : V} (e : σ d = some (.idict kvs)) (h : Φ ((dget kvs k).getD v) σ) : BSpec "dict.get" [.ref d, .int k, v] σ Φ := by
  intro c n S ok _ ρ us hv fr h' tk R
  obtain ⟨u, x, y, rfl, i1, ⟨t, rfl⟩, i3⟩ := hv.three
  obtain rfl : u = .ref d := i1
  obtain ⟨ws, hd, hp, hs⟩ := R.idictX ok e
  refine call_meetsIn (s := c.sh h' tk) F.slot_dict_get hd.typeIs F.entry_dict_get (F.args_dict_get_3 _ _ _) (meets_dict_get_default (intKind PW c.w) d (intKind_is PW c.w k t) hs y) ⟨_, hd.mapOf, ?_⟩
  cases e2 : dget kvs k with
  | some w =>
    rw [e2] at h
    obtain ⟨u, hu, iu⟩ := hp.get e2
    rw [hu]
    exact ⟨w, σ, h', _, rfl, R, iu, h⟩
  | none =>
    rw [e2] at h
    rw [hp.miss e2]
    exact ⟨v, σ, h', _, rfl, R, i3, h⟩
theorem PIs.without {kvs : List (Int × V)} {us : List (Int × Value)} (h : PIs kvs us) (k : Int) : PIs (kvs.filter fun kv => decide (kv.1 ≠ k)) (PySem.without us k) := by
  unfold PySem.without
  induction h with
  | nil => exact .nil
  | @cons k' v u vs us h1 _ ih =>
    by_cases q : k' = k
    · simp only [List.filter_cons, q, ne_eq, not_true_eq_false, decide_false, Bool.false_eq_true, if_false]; exact ih
    · simp only [List.filter_cons, q, ne_eq, not_false_eq_true, decide_true, if_true]; exact .cons h1 ih
theorem BSpec.dpop {d : Addr} {kvs : List (Int × V)} {k : Int} {v : V} (e : σ d = some (.idict kvs)) (hv : dget kvs k = some v) (hz : kvs.length ≤ sizeLine) (h : Φ v (upd σ d (.idict (kvs.filter fun kv => decide (kv.1 ≠ k))))) : BSpec "dict.pop" [.ref d, .int k] σ Φ := by
  intro c n S ok _ ρ us hvs fr h' tk R
  obtain ⟨u, x, rfl, i1, ⟨t, rfl⟩⟩ := hvs.two
  obtain rfl : u = .ref d := i1
  obtain ⟨ws, hd, hp, hs⟩ := R.idictX ok e
  obtain ⟨u, hu, iu⟩ := hp.get hv
  refine call_meetsIn (s := c.sh h' tk) F.slot_dict_pop hd.typeIs F.entry_dict_pop (F.args_dict_pop_2 _ _) (meets_dict_pop_there (intKind PW c.w) d (intKind_is PW c.w k t) [] (.inl rfl) rfl) ⟨ws, u, hd, by rw [hp.length]; exact hz, hu, fun h1 hd1 hs1 => ?_⟩
  obtain ⟨o', ho', hd''⟩ := Heap.dictOf_iff.mp hd1
  exact ⟨v, _, h1, _, rfl, R.change (ob' := .idict (kvs.filter fun kv => decide (kv.1 ≠ k))) e nk_idict hs1 ho' ⟨_, hd'', hp.without k⟩, iu, h⟩
theorem CSpec.inD {d : Addr} {kvs : List (Int × V)} {k : Int} (e : σ d = some (.idict kvs)) : CSpec .In (.int k) (.ref d) σ (dget kvs k).isSome := by
  intro c n S ok ρ ua ub ⟨t, ha⟩ hb fr h' tk R
  subst ha
  obtain rfl : ub = .ref d := hb
  obtain ⟨ws, hd, hp, hs⟩ := R.idictX ok e
  refine wpAny_in_of (s := c.sh h' tk) (intKind_is PW c.w k t) hs hd.mapOf ?_
  have : (PySem.valueAt ws k).isSome = (dget kvs k).isSome := by
    cases e2 : dget kvs k with
    | some w => obtain ⟨u, hu, _⟩ := hp.get e2; rw [hu]; rfl
    | none => rw [hp.miss e2]; rfl
  rw [this]
  exact ⟨.bool _, σ, h', _, rfl, R, rfl, rfl, rfl⟩
theorem CSpec.notInD {d : Addr} {kvs : List (Int × V)} {k : Int} (e : σ d = some (.idict kvs)) : CSpec .NotIn (.int k) (.ref d) σ (!(dget kvs k).isSome) := by
  intro c n S ok ρ ua ub ⟨t, ha⟩ hb fr h' tk R
  subst ha
  obtain rfl : ub = .ref d := hb
  obtain ⟨ws, hd, hp, hs⟩ := R.idictX ok e
  refine wpAny_notIn_of (s := c.sh h' tk) (intKind_is PW c.w k t) hs hd.mapOf ?_
  have : (PySem.valueAt ws k).isSome = (dget kvs k).isSome := by
    cases e2 : dget kvs k with
    | some w => obtain ⟨u, hu, _⟩ := hp.get e2; rw [hu]; rfl
    | none => rw [hp.miss e2]; rfl
  rw [this]
  exact ⟨.bool _, σ, h', _, rfl, R, rfl, rfl, rfl⟩
theorem ISpec.tup {a : Addr} {vs : List V} {k : Int} {j : Nat} {v : V} (e : σ a = some (.tup vs)) (hlo : -(2 ^ 63) ≤ k) (hhi : k < 2 ^ 63) (hj : seqIndex? k vs.length = some j) (hv : vs[j]? = some v) : ISpec σ (.ref a) (.int k) v := fun _ _ _ ok => Item.tup ok e hlo hhi hj hv
theorem ISpec.list {a : Addr} {vs : List V} {k : Int} {v : V} (e : σ a = some (.list vs)) (h0 : 0 ≤ k) (hhi : k < 2 ^ 63) (hv : vs[k.toNat]? = some v) : ISpec σ (.ref a) (.int k) v := fun _ _ _ ok => Item.list ok e h0 hhi hv
theorem ISpec.idict {d : Addr} {kvs : List (Int × V)} {k : Int} {v : V} (e : σ d = some (.idict kvs)) (hv : dget kvs k = some v) : ISpec σ (.ref d) (.int k) v := fun _ _ _ ok => Item.idict ok e hv
theorem SrcSpec.list {a : Addr} {vs : List V} (e : σ a = some (.list vs)) : SrcSpec (.ref a) σ σ vs.length (fun i v => vs[i]? = some v) (fun σ => σ a = some (.list vs)) := fun _ _ _ ok => Source.list ok e
theorem SrcSpec.tuple {a : Addr} {vs : List V} (e : σ a = some (.tup vs)) : SrcSpec (.ref a) σ σ vs.length (fun i v => vs[i]? = some v) (fun σ => σ a = some (.tup vs)) := fun _ _ _ ok => Source.tuple ok e
end
end
section
/-! ## keys of the bank's table: tuples of words, numbers and tuples of numbers -/
noncomputable def Sl.draws : Sl → Nat
  | .inl _ => 1
  | .inr (.inl _) => 1
  | .inr (.inr l) => l.length + 1
noncomputable def Sl.Is (w : World) (h : Heap) : Sl → Value → Prop
  | .inl x, v => (strKind PW w).is x v = true
  | .inr (.inl i), v => (intKind PW w).is i v = true
  | .inr (.inr l), v => ∃ a, v = .ref a ∧ IsTupleKey (intKind PW w) h l a
inductive SlsAre (w : World) (h : Heap) : List Sl → List Value → Prop
  | nil : SlsAre w h [] []
  | cons {k : Sl} {v : Value} {ks : List Sl} {vs : List Value} : k.Is w h v → SlsAre w h ks vs → SlsAre w h (k :: ks) (v :: vs)
noncomputable def sameK : Sl → Sl → Prop
  | .inl _, .inl _ => True
  | .inr (.inl _), .inr (.inl _) => True
  | .inr (.inr _), .inr (.inr _) => True
  | _, _ => False
noncomputable def Comp : List Sl → List Sl → Prop
  | a :: x, b :: y => sameK a b ∧ (a = b → Comp x y)
  | [], [] => True
  | _, _ => False
noncomputable def KeyAt (w : World) (h : Heap) (ks : List Sl) (a : Addr) : Prop := ∃ o items n, h.get? a = some o ∧ o.cls = .type "tuple" ∧ o.data = .seq items n ∧ SlsAre w h ks items.toList
section
variable {w : World} {A : Around} {E : Value → Shared → Prop} {s : Shared}
theorem Sl.pyHash {k : Sl} {v : Value} {Q : Int → Shared → Prop} (hu : A.units < cLine) (hk : k.Is w s.heap v) (h : Q (k.hash w) { s with toks := s.toks + k.draws }) : wpAny (model PW w) A (PySem.pyHash v) Q E s := by
  rcases k with x | i | l
  · exact (strKind PW w).pyHash hk h
  · exact (intKind PW w).pyHash hk h
  · obtain ⟨a, rfl, hk⟩ := hk
    exact wpAny_pyHash_tuple hu hk h
theorem Sl.eqBool {k k' : Sl} {v v' : Value} {Q : Bool → Shared → Prop} (hu : A.units < cLine) (hs : sameK k k') (hk : k.Is w s.heap v) (hk' : k'.Is w s.heap v') (h : Q (decide (k = k')) s) : wpAny (model PW w) A (PySem.eqBool v v') Q E s := by
  rcases k with x | i | l <;> rcases k' with y | j | m <;> first | exact False.elim hs | skip
  · have e : decide ((Sum.inl x : Sl) = .inl y) = decide (x = y) := by simp
    rw [e] at h
    exact (strKind PW w).eqBool hk hk' h
  · have e : decide ((Sum.inr (.inl i) : Sl) = .inr (.inl j)) = decide (i = j) := by simp
    rw [e] at h
    exact (intKind PW w).eqBool hk hk' h
  · have e : decide ((Sum.inr (.inr l) : Sl) = .inr (.inr m)) = decide (l = m) := by simp
    rw [e] at h
    obtain ⟨a, rfl, hk⟩ := hk
    obtain ⟨b, rfl, hk'⟩ := hk'
    exact wpAny_eqBool_tuple hu hk hk' h
noncomputable def sumD : List Sl → Nat
  | [] => 0
  | k :: r => k.draws + sumD r
theorem sumD_snoc (k : Sl) : ∀ l, sumD (l ++ [k]) = sumD l + k.draws
  | [] => by simp [sumD]
  | x :: r => by simp [sumD, sumD_snoc k r, Nat.add_assoc]
theorem SlsAre.mono {h h' : Heap} (hs : ∀ l a, IsTupleKey (intKind PW w) h l a → IsTupleKey (intKind PW w) h' l a) {ks : List Sl} {vs : List Value} (x : SlsAre w h ks vs) : SlsAre w h' ks vs := by
  induction x with
  | nil => exact .nil
  | @cons k v ks vs h1 _ ih =>
    refine .cons ?_ ih
    rcases k with x | i | l
    · exact h1
    · exact h1
    · obtain ⟨a, e, hk⟩ := h1; exact ⟨a, e, hs l a hk⟩
theorem pyHash_key {ks : List Sl} {a : Addr} {Q : Int → Shared → Prop} (hu : A.units + 1 < cLine) (hk : KeyAt w s.heap ks a) (h : Q (keyHash w ks) { s with toks := s.toks + (sumD ks + 1) }) : wpAny (model PW w) A (PySem.pyHash (.ref a)) Q E s := by
  obtain ⟨o, items, n, ho, hc, hd, hi⟩ := hk
  have hT : s.TypeIs (.ref a) "tuple" := ⟨o, ho, hc⟩
  unfold PySem.pyHash
  first | unfold pyHashByItsType | skip
  first | refine wpAny_bind (wpAny_cRoomFor_or (.inr (by (first | lia | omega))) ?_) | skip
  refine wpAny_bind (wpAny_specialOf hT F.slot_tuple_hash.lookup ?_)
  show wpAny _ _ (if (some (Value.builtin "tuple.__hash__") == some Value.none) = true then _ else _) Q E s
  rw [if_neg (by rw [beq_builtin_none]; exact Bool.false_ne_true)]
  refine wpAny_bind (wpAny_specialOf hT F.slot_tuple_hash.lookup ?_)
  show wpAny _ _ (callSpecialIfBoundUnlessNone? (.ref a) "__hash__" _ >>= _) Q E s
  refine wpAny_bind (wpAny_callSpecialIfBoundUnlessNone?_slot hT F.slot_tuple_hash (wpAny_call_entry F.slot_tuple_hash hT F.entry_tuple_hash ?_ (F.args_tuple_hash_1 _)))
  show wpAny _ _ (Builtin.Tuple.tupleItemsOf (.ref a) >>= _) _ _ s
  refine wpAny_bind (wpAny_tupleItemsOf ho hd ?_)
  refine wpAny_bind ?_
  rw [← Array.forIn_toList]
  refine wpAny_forIn_list _
    (fun rest (b : Array Int) s' => ∃ done left, ks = done ++ left ∧ SlsAre w s.heap left rest ∧ b.toList = done.map (Sl.hash w) ∧ s' = { s with toks := s.toks + sumD done })
    _ ?_ ?_ _ _ ⟨[], ks, rfl, hi, rfl, rfl⟩
  · rintro x rest b s' ⟨done, left, rfl, hl, hb, rfl⟩
    cases hl with
    | @cons k _ ks' _ h1 hl' =>
      have fin : ∃ done' left', done ++ k :: ks' = done' ++ left' ∧ SlsAre w s.heap left' rest ∧ (b.push (k.hash w)).toList = done'.map (Sl.hash w) ∧ ({ s with toks := s.toks + sumD done + k.draws } : Shared) = { s with toks := s.toks + sumD done' } :=
        ⟨done ++ [k], ks', by simp, hl', by simp [hb], by rw [sumD_snoc, Nat.add_assoc]⟩
      refine wpAny_bind (Sl.pyHash (s := { s with toks := s.toks + sumD done }) hu h1 ?_)
      first
        | exact wpAny_pure fin
        | exact wpAny_bind (wpAny_pure (wpAny_pure fin))
  · rintro b s' ⟨done, left, rfl, hl, hb, rfl⟩
    cases hl
    rw [List.append_nil] at h
    show wpAny _ _ (retInt (Builtin.Tuple.tupleHashOf b.toList)) _ _ _
    rw [hb]
    refine wpAny_ret_mkInt ?_
    show wpAny _ _ (if (decide (-(2 : Int) ^ 63 ≤ Builtin.Tuple.tupleHashOf (done.map (Sl.hash w))) && decide (Builtin.Tuple.tupleHashOf (done.map (Sl.hash w)) < 2 ^ 63)) = true then _ else _) Q E _
    unfold keyHash reduceHash at h
    by_cases hr : (decide (-(2 : Int) ^ 63 ≤ Builtin.Tuple.tupleHashOf (done.map (Sl.hash w))) && decide (Builtin.Tuple.tupleHashOf (done.map (Sl.hash w)) < 2 ^ 63)) = true
    · rw [if_pos hr]
      rw [if_pos hr] at h
      exact wpAny_pure (by simpa [Nat.add_assoc] using h)
    · rw [if_neg hr]
      rw [if_neg hr] at h
      exact wpAny_bind (wpAny_rule (wpAny_pure (by simpa [Nat.add_assoc] using h)))
theorem SlsAre.inj {x y : List Sl} {vs : List Value} {h : Heap} (hx : SlsAre w h x vs) (hy : SlsAre w h y vs) (hc : Comp x y) : x = y := by
  induction hx generalizing y with
  | nil => cases hy; rfl
  | @cons k v ks vs h1 _ ih =>
    cases hy with
    | @cons k' _ ks' _ h2 t2 =>
      have e : k = k' := by
        have hs := hc.1
        rcases k with x | i | l <;> rcases k' with y | j | m <;> first | exact False.elim hs | skip
        · rw [(strKind PW w).inj _ _ _ h1 h2]
        · rw [(intKind PW w).inj _ _ _ h1 h2]
        · obtain ⟨a, rfl, hk⟩ := h1
          obtain ⟨b, e, hk'⟩ := h2
          cases e
          rw [hk.inj hk']
      rw [e, ih t2 (hc.2 e)]
theorem KeyAt.inj {h : Heap} {a : Addr} {x y : List Sl} (hc : Comp x y) (hx : KeyAt w h x a) (hy : KeyAt w h y a) : x = y := by
  obtain ⟨o, items, n, ho, _, hd, hi⟩ := hx
  obtain ⟨o', items', n', ho', _, hd', hi'⟩ := hy
  obtain rfl : o = o' := Option.some.inj (ho.symm.trans ho')
  rw [hd] at hd'
  injection hd' with h1 _
  subst h1
  exact hi.inj hi' hc
theorem key_eq_tree {x y : List Sl} {a b : Addr} {P : Fin → Shared → Prop} (hu : A.units < cLine) (hc : Comp x y) (hx : KeyAt w s.heap x a) (hy : KeyAt w s.heap y b) (h : P (.done (.ret (.bool (decide (x = y))))) s) :
    wpAny (model PW w) A (Builtin.«tuple.__eq__» ⟨[.ref a, .ref b], []⟩) P E s := by
  obtain ⟨oa, xs, na, hoa, _, hda, hia⟩ := hx
  obtain ⟨ob, ys, nb, hob, hcb, hdb, hib⟩ := hy
  show wpAny _ _ (isInstance (.ref b) (.type "tuple") >>= _) _ _ s
  refine wpAny_bind (wpAny_isInstance ⟨ob, hob, hcb⟩ isSubtype_tuple_tuple ?_)
  simp only [Bool.not_true, Bool.false_eq_true, if_false]
  refine wpAny_bind (wpAny_tupleItemsOf hoa hda ?_)
  refine wpAny_bind (wpAny_tupleItemsOf hob hdb ?_)
  refine wpAny_bind ?_
  refine wpAny_forIn_list _
    (fun rest r s' => r.1 = none ∧ s' = s ∧ ∃ x' y' xs' ys', rest = List.zip xs' ys' ∧ SlsAre w s.heap x' xs' ∧ SlsAre w s.heap y' ys' ∧ Comp x' y' ∧ decide (x' = y') = decide (x = y) ∧ (xs'.length == ys'.length) = (xs.size == ys.size))
    _ ?_ ?_ _ _ ⟨rfl, rfl, x, y, xs.toList, ys.toList, rfl, hia, hib, hc, rfl, by simp⟩
  · rintro ⟨u, v⟩ rest r s' ⟨hr, rfl, x', y', xs', ys', hz, hx', hy', hc', hdec, hlen⟩
    cases hx' with
    | nil => simp at hz
    | @cons k1 u' x'' xs'' h1 hx'' =>
      cases hy' with
      | nil => simp at hz
      | @cons k2 v' y'' ys'' h2 hy'' =>
        simp only [List.zip_cons_cons, List.cons.injEq, Prod.mk.injEq] at hz
        obtain ⟨⟨rfl, rfl⟩, rfl⟩ := hz
        refine wpAny_bind (Sl.eqBool hu hc'.1 h1 h2 ?_)
        by_cases hk : k1 = k2
        · subst hk
          rw [decide_eq_true rfl]
          simp only [Bool.not_true, Bool.false_eq_true, if_false]
          refine wpAny_pure ⟨rfl, rfl, x'', y'', xs'', ys'', rfl, hx'', hy'', hc'.2 rfl, ?_, by simpa using hlen⟩
          rw [← hdec]
          by_cases hxy : x'' = y''
          · simp [hxy]
          · simp [hxy]
        · rw [decide_eq_false hk]
          simp only [Bool.not_false, if_true]
          have hf : decide (x = y) = false := by rw [← hdec]; simp [hk]
          rw [hf] at h
          exact wpAny_bind (wpAny_pure (wpAny_pure (wpAny_pure h)))
  · rintro ⟨r1, r2⟩ s' ⟨hr, rfl, x', y', xs', ys', hz, hx', hy', hc', hdec, hlen⟩
    simp only at hr
    subst hr
    refine wpAny_pure ?_
    have hfin : (xs.size == ys.size) = decide (x = y) := by
      rw [← hdec, ← hlen]
      cases hx' with
      | nil =>
        cases hy' with
        | nil => simp
        | cons _ _ => simp
      | cons _ _ =>
        cases hy' with
        | nil => simp
        | cons _ _ => simp at hz
    show P (.done (.ret (.bool (xs.size == ys.size)))) s'
    rw [hfin]; exact h
theorem KeyAt.typeIs {ks : List Sl} {a : Addr} (x : KeyAt w s.heap ks a) : s.TypeIs (.ref a) "tuple" := let ⟨o, _, _, ho, hc, _⟩ := x; ⟨o, ho, hc⟩
theorem eqBool_key {x y : List Sl} {a b : Addr} {Q : Bool → Shared → Prop} (hu : A.units + 1 < cLine) (hc : Comp x y) (hx : KeyAt w s.heap x a) (hy : KeyAt w s.heap y b) (h : Q (decide (x = y)) s) :
    wpAny (model PW w) A (PySem.eqBool (.ref a) (.ref b)) Q E s := by
  unfold PySem.eqBool
  try with_reducible refine wpAny_holding ?_
  show wpAny _ _ (if (Value.ref a == Value.ref b) = true then _ else _) Q E s
  by_cases hab : (Value.ref a == Value.ref b) = true
  · rw [if_pos hab]
    have e : a = b := by have := eq_of_beq hab; injection this
    subst e
    obtain rfl := KeyAt.inj hc hx hy
    exact wpAny_bind (wpAny_rule (wpAny_pure (by simpa using h)))
  · rw [if_neg hab]
    exact wpAny_bind (wpAny_richCompare_same_room (op := .Eq) hx.typeIs hy.typeIs F.slot_tuple_eq
      (wpAny_call_entry F.slot_tuple_eq hx.typeIs F.entry_tuple_eq (key_eq_tree (A := A.in1) hu hc hx hy ⟨_, rfl, (fun e => nomatch e), wpAny_truthy_bool h⟩) (F.args_tuple_eq_2 _ _)) (by (first | lia | omega)))
theorem quiet_of {items : Array Value} {a : Addr} {o : Obj} {n d : Nat} {Q : Bool → Shared → Prop} (ho : s.heap.get? a = some o) (hc : o.cls = .type "tuple") (hd : o.data = .seq items n)
    (hall : ∀ v ∈ items.toList, ∀ Q' : Bool → Shared → Prop, Q' true s → wpAny (model PW w) A (eqIsQuiet d v) Q' E s) (h : Q true s) : wpAny (model PW w) A (eqIsQuiet (d + 1) (.ref a)) Q E s := by
  have hT : s.TypeIs (.ref a) "tuple" := ⟨o, ho, hc⟩
  unfold eqIsQuiet
  refine wpAny_bind (wpAny_specialOf hT F.slot_tuple_eq.lookup ?_)
  show wpAny _ _ (isInstance (.ref a) (.type "tuple") >>= _) _ _ s
  refine wpAny_bind (wpAny_isInstance hT isSubtype_tuple_tuple ?_)
  simp only [Bool.not_true, Bool.false_eq_true, if_false]
  refine wpAny_bind (wpAny_seqItems ho hd ?_)
  refine wpAny_bind ?_
  show wpAny _ _ (forIn items _ _) _ _ s
  rw [← Array.forIn_toList]
  refine wpAny_forIn_list _ (fun rest r s' => r.1 = none ∧ s' = s ∧ ∀ v ∈ rest, v ∈ items.toList) _ ?_ ?_ _ _ ⟨rfl, rfl, fun _ h => h⟩
  · rintro v rest r s' ⟨hr, rfl, hm⟩
    refine wpAny_bind (hall v (hm v List.mem_cons_self) _ ?_)
    simp only [Bool.not_true, Bool.false_eq_true, if_false]
    exact wpAny_pure ⟨rfl, rfl, fun u hu' => hm u (List.mem_cons_of_mem _ hu')⟩
  · rintro ⟨r1, r2⟩ s' ⟨hr, rfl, _⟩
    simp only at hr
    subst hr
    exact wpAny_pure h
theorem SlsAre.all {ks : List Sl} {vs : List Value} {h : Heap} (x : SlsAre w h ks vs) : ∀ v ∈ vs, ∃ k : Sl, k.Is w h v := by
  induction x with
  | nil => intro v hv; cases hv
  | @cons k v' ks vs h1 _ ih =>
    intro v hv
    rcases List.mem_cons.mp hv with rfl | hv
    · exact ⟨k, h1⟩
    · exact ih v hv
theorem quiet_key {ks : List Sl} {a : Addr} {Q : Bool → Shared → Prop} (hk : KeyAt w s.heap ks a) (h : Q true s) : wpAny (model PW w) A (eqIsQuiet 8 (.ref a)) Q E s := by
  obtain ⟨o, items, n, ho, hc, hd, hi⟩ := hk
  refine quiet_of ho hc hd (fun v hv Q' hq => ?_) h
  obtain ⟨k, hk⟩ := hi.all v hv
  rcases k with x | i | l
  · rw [eqIsQuiet_byValue _ ((strKind PW w).byValue _ _ hk)]; exact wpAny_pure hq
  · rw [eqIsQuiet_byValue _ ((intKind PW w).byValue _ _ hk)]; exact wpAny_pure hq
  · obtain ⟨a, rfl, o', items', n', ho', hc', hd', hi'⟩ := hk
    refine quiet_of ho' hc' hd' (fun v hv Q' hq => ?_) hq
    rw [eqIsQuiet_byValue _ (hi'.byValue v hv)]; exact wpAny_pure hq
end
/-! ## the key (op, args, sort, data) -/
noncomputable def Nd.WF (k : Nd) : Prop := k.data.isRight = true ↔ k.op = "num"
theorem Nd.slots_inj {x y : Nd} (h : x.slots = y.slots) : x = y := by
  obtain ⟨o, a, s, d⟩ := x
  obtain ⟨o', a', s', d'⟩ := y
  simp only [Nd.slots, List.cons.injEq, Sum.inl.injEq, Sum.inr.injEq] at h
  obtain ⟨rfl, rfl, rfl, h, _⟩ := h
  rcases d with i | ⟨p, q⟩ <;> rcases d' with j | ⟨p', q'⟩ <;> simp at h <;> simp [h]
theorem Nd.comp {x y : Nd} (hx : x.WF) (hy : y.WF) : Comp x.slots y.slots := by
  refine ⟨trivial, fun e => ⟨trivial, fun _ => ⟨trivial, fun _ => ⟨?_, fun _ => trivial⟩⟩⟩⟩
  have e : x.op = y.op := by simpa using e
  unfold Nd.WF at hx hy
  rw [← e] at hy
  rcases hdx : x.data with i | ⟨p, q⟩ <;> rcases hdy : y.data with j | ⟨p', q'⟩ <;> rw [hdx] at hx <;> rw [hdy] at hy <;> first | exact trivial | (simp at hx hy; exact absurd hx hy) | (simp at hx hy; exact absurd hy hx)
noncomputable def ndKind (w : World) : HeapKind PW w Nd where
  is := fun h k a => k.WF ∧ KeyAt w h k.slots a
  hash := fun k => keyHash w k.slots
  draws := fun k => sumD k.slots + 1
  room := fun A => A.units + 1 < cLine
  inj := fun hx hy => Nd.slots_inj (KeyAt.inj (Nd.comp hx.1 hy.1) hx.2 hy.2)
  keeps := fun {h h' k a d o es ep} x ho hd hs => by
    obtain ⟨wf, o', items, n, ho', hc, hd', hi⟩ := x
    have hne : a ≠ d := by
      rintro rfl
      obtain rfl : o' = o := Option.some.inj (ho'.symm.trans ho)
      rw [hd] at hd'; exact nomatch hd'
    exact ⟨wf, o', items, n, (hs.2 a hne).trans ho', hc, hd', hi.mono fun l a x => x.keeps ho hd hs⟩
  pyHash := fun hu hk h => pyHash_key hu hk.2 h
  eqBool := fun {A E s x y a b Q} hu hx hy h => eqBool_key hu (Nd.comp hx.1 hy.1) hx.2 hy.2 (by
    have e : decide (x.slots = y.slots) = decide (x = y) := by
      by_cases q : x = y
      · simp [q]
      · simp only [q, decide_false, decide_eq_false_iff_not]; exact fun z => q (Nd.slots_inj z)
    rw [e]; exact h)
  quiet := fun hk h => quiet_key hk.2 h
end
section
/-! ## the bank's table -/
/-- in the state, a holds the key k -/
noncomputable def KeyHere (σ : Sg) (k : Nd) (a : Addr) : Prop := k.WF ∧ ∃ ta dv, σ a = some (.tup [.str k.op, .ref ta, .int k.sort, dv]) ∧ σ ta = some (.tup (k.args.map .int)) ∧
  (match k.data with | .inl i => dv = .int i | .inr (p, q) => ∃ td, dv = .ref td ∧ σ td = some (.tup [.int p, .int q]))
noncomputable def kfind (kvs : List (Nd × Addr × V)) (k : Nd) : Option V := (kvs.find? fun x => decide (x.1 = k)).map (·.2.2)
section
variable {c : Cx} {S : Scope} {ρ : Rho} {σ : Sg} {Φ : V → Sg → Prop} {n : Nat}
theorem ints_are {w : World} {l : List Int} {us : List Value} (h : VIs (l.map .int) us) : ItemsAre (intKind PW w) l us := by
  induction l generalizing us with
  | nil => cases h; exact .nil
  | cons i l ih => cases h with | cons h1 h2 => obtain ⟨t, rfl⟩ := h1; exact .cons (intKind_is PW w i t) (ih h2)
theorem Rel.ints (ok : c.Ok n) {fr : Led} {h : Heap} (R : Rel c ρ σ fr h) {a : Addr} {l : List Int} (e : σ a = some (.tup (l.map .int))) : IsTupleKey (intKind PW c.w) h l a := by
  obtain ⟨o, hg, ⟨us, m, rfl, hvs⟩, _⟩ := R.obj ok e
  exact ⟨_, us.toArray, m, hg, rfl, rfl, by rw [List.toList_toArray]; exact ints_are hvs⟩
theorem Rel.key (ok : c.Ok n) {fr : Led} {h : Heap} (R : Rel c ρ σ fr h) {k : Nd} {a : Addr} (K : KeyHere σ k a) : (ndKind c.w).is h k a := by
  obtain ⟨wf, ta, dv, h1, h2, h3⟩ := K
  obtain ⟨o, hg, ⟨us, m, rfl, hvs⟩, _⟩ := R.obj ok h1
  refine ⟨wf, _, us.toArray, m, hg, rfl, rfl, ?_⟩
  rw [List.toList_toArray]
  cases hvs with | cons i1 hvs =>
  cases hvs with | cons i2 hvs =>
  cases hvs with | cons i3 hvs =>
  cases hvs with | cons i4 hvs =>
  cases hvs
  obtain ⟨t1, rfl⟩ := i1
  obtain ⟨t3, rfl⟩ := i3
  refine .cons (isStrOf_self k.op t1) (.cons ⟨ta, i2, R.ints ok h2⟩ (.cons (intKind_is PW c.w _ _) (.cons ?_ .nil)))
  rcases hd : k.data with i | ⟨p, q⟩
  · rw [hd] at h3
    subst h3
    obtain ⟨t4, rfl⟩ := i4
    exact intKind_is PW c.w _ _
  · rw [hd] at h3
    obtain ⟨td, rfl, h3⟩ := h3
    exact ⟨td, i4, R.ints (l := [p, q]) ok h3⟩
theorem KeyEs.pairs {H : Nd → Int} {kvs : List (Nd × Addr × V)} {es : List DictEntry} (h : KeyEs H kvs es) : ∃ xs : List (Nd × Addr × Value), es = xs.map (fun x => ⟨H x.1, .ref x.2.1, x.2.2⟩) ∧ xs.map (·.1) = kvs.map (·.1) ∧ (∀ x ∈ xs, ∃ v, (x.1, x.2.1, v) ∈ kvs) ∧
    (∀ k, (kfind kvs k).isSome = (atKey xs k).isSome) ∧ ∀ k v, kfind kvs k = some v → ∃ p, atKey xs k = some p ∧ v.Is p.2 := by
  induction h with
  | nil => exact ⟨[], rfl, rfl, fun _ h => (nomatch h), fun _ => rfl, fun _ _ h => nomatch h⟩
  | @cons k a v u kvs es h1 _ ih =>
    obtain ⟨xs, e1, e2, e3, e4, e5⟩ := ih
    refine ⟨(k, a, u) :: xs, by rw [e1]; rfl, by rw [List.map_cons, List.map_cons, e2], fun x hx => ?_, fun k' => ?_, fun k' v' hv => ?_⟩
    · rcases List.mem_cons.mp hx with rfl | hx
      · exact ⟨v, .head _⟩
      · obtain ⟨v, hv⟩ := e3 x hx; exact ⟨v, .tail _ hv⟩
    · have := e4 k'
      unfold kfind atKey at this ⊢
      by_cases q : k = k'
      · simp [q]
      · simp only [List.find?_cons, q, decide_false]; exact this
    · have := e5 k' v'
      unfold kfind at this hv
      unfold atKey at this ⊢
      by_cases q : k = k'
      · simp only [List.find?_cons, q, decide_true, Option.map_some, Option.some.injEq] at hv ⊢
        exact ⟨_, rfl, hv ▸ h1⟩
      · simp only [List.find?_cons, q, decide_false] at hv ⊢; exact this hv
theorem Rel.kdict (ok : c.Ok n) {fr : Led} {h : Heap} (R : Rel c ρ σ fr h) {d : Addr} {kvs : List (Nd × Addr × V)} (e : σ d = some (.kdict kvs)) (hk : ∀ x ∈ kvs, KeyHere σ x.1 x.2.1) :
    ∃ xs, h.DictOfH (ndKind c.w) d xs ∧ (d == sysModules) = false ∧ xs.length = kvs.length ∧ (∀ k, (kfind kvs k).isSome = (atKey xs k).isSome) ∧ ∀ k v, kfind kvs k = some v → ∃ p, atKey xs k = some p ∧ v.Is p.2 := by
  have nk : kTup d ≠ some (.kdict kvs) := by unfold kTup; repeat' split <;> simp
  obtain ⟨mp, o, rest, F, N, hne, ⟨es, m, rfl, hE, hnd⟩, hs, _⟩ := R.focus e nk
  obtain ⟨xs, e1, e2, e3, e4, e5⟩ := hE.pairs
  refine ⟨xs, ⟨_, es.toArray, m, (N _ (.head _)).1, ⟨rfl, rfl, rfl⟩, rfl, ?_, fun x hx => ?_, by rw [e2]; exact hnd⟩, hs, by have := congrArg List.length e2; simpa using this, e4, e5⟩
  · rw [List.toList_toArray, e1]; rfl
  · obtain ⟨v, hv⟩ := e3 x hx
    exact R.key ok (hk _ hv)
theorem BSpec.kget {d a : Addr} {kvs : List (Nd × Addr × V)} {k : Nd} {v : V} (e : σ d = some (.kdict kvs)) (hk : ∀ x ∈ kvs, KeyHere σ x.1 x.2.1) (K : KeyHere σ k a) (h : Φ ((kfind kvs k).getD v) σ) : BSpec "dict.get" [.ref d, .ref a, v] σ Φ := by
  intro c n S ok _ ρ us hv fr h' tk R
  obtain ⟨u, x, y, rfl, i1, i2, i3⟩ := hv.three
  obtain rfl : u = .ref d := i1
  obtain rfl : x = .ref a := i2
  obtain ⟨xs, hd, hs, hlen, e4, e5⟩ := R.kdict ok e hk
  have hu : (c.A S).units + 2 < cLine := by have := ok.hu; show c.un + 2 < cLine; (first | lia | omega)
  refine call_meetsIn (s := c.sh h' tk) F.slot_dict_get hd.typeIs F.entry_dict_get (F.args_dict_get_3 _ _ _) (meetsH_dict_get_default (ndKind c.w) d a hs y) ⟨hu, k, xs, R.key ok K, hd, ?_⟩
  cases e2 : kfind kvs k with
  | some w =>
    rw [e2] at h
    obtain ⟨p, hp, iu⟩ := e5 k w e2
    rw [hp]
    exact ⟨w, σ, h', _, rfl, R, iu, h⟩
  | none =>
    rw [e2] at h
    have := e4 k
    rw [e2] at this
    have hn : atKey xs k = none := by cases q : atKey xs k with | none => rfl | some p => rw [q] at this; cases this
    rw [hn]
    exact ⟨v, σ, h', _, rfl, R, i3, h⟩
theorem KeyEs.snoc {H : Nd → Int} {kvs : List (Nd × Addr × V)} {es : List DictEntry} (h : KeyEs H kvs es) {k : Nd} {a : Addr} {v : V} {u : Value} (hi : v.Is u) : KeyEs H (kvs ++ [(k, a, v)]) (es ++ [⟨H k, .ref a, u⟩]) := by
  induction h with
  | nil => exact .cons hi .nil
  | cons h1 _ ih => exact .cons h1 ih
theorem kfind_none {kvs : List (Nd × Addr × V)} {k : Nd} (h : kfind kvs k = none) : k ∉ kvs.map (·.1) := by
  intro hm
  obtain ⟨x, hx, rfl⟩ := List.mem_map.mp hm
  unfold kfind at h
  rw [Option.map_eq_none_iff, List.find?_eq_none] at h
  exact h x hx (by simp)
theorem SISpec.kset {d a : Addr} {kvs : List (Nd × Addr × V)} {k : Nd} {v : V} (e : σ d = some (.kdict kvs)) (hk : ∀ x ∈ kvs, KeyHere σ x.1 x.2.1) (K : KeyHere σ k a) (hz : kvs.length ≤ sizeLine) (hno : kfind kvs k = none) :
    SISpec (.ref d) (.ref a) v σ (upd σ d (.kdict (kvs ++ [(k, a, v)]))) := by
  intro c n S ok ρ fr h tk uo ui uv R ho hi hv Q E hQ
  obtain rfl : uo = .ref d := ho
  obtain rfl : ui = .ref a := hi
  have nk : kTup d ≠ some (.kdict kvs) := by unfold kTup; repeat' split <;> simp
  have hu : (c.A S).units + 2 < cLine := by have := ok.hu; show c.un + 2 < cLine; (first | lia | omega)
  obtain ⟨mp, o, rest, F, N, hne, ⟨es, m, rfl, hE, hnd⟩, hs, _⟩ := R.focus e nk
  obtain ⟨xs, e1, e2, e3, e4, e5⟩ := hE.pairs
  have hd : h.DictOfH (ndKind c.w) d xs := ⟨_, es.toArray, m, (N _ (.head _)).1, ⟨rfl, rfl, rfl⟩, rfl, by rw [List.toList_toArray, e1]; rfl, fun x hx => by obtain ⟨v, hv⟩ := e3 x hx; exact R.key ok (hk _ hv), by rw [e2]; exact hnd⟩
  have hn : atKey xs k = none := by
    have := e4 k
    rw [hno] at this
    cases q : atKey xs k with | none => rfl | some p => rw [q] at this; cases this
  have hlen : xs.length = kvs.length := by have := congrArg List.length e2; simpa using this
  refine wpAny_setItem_heap (s := c.sh h tk) (knd := ndKind c.w) hu (R.key ok K) hd (fun h' hm' hs' => ?_) (by rw [hlen]; exact hz)
  rw [storedH_new hn] at hm'
  obtain ⟨o', es', ep', ho', hx', hd', he', _, _⟩ := hm'
  refine hQ h' _ (R.change e nk hs' ho' ⟨es'.toList, ep', ?_, ?_, ?_⟩)
  · obtain ⟨c1, c2, c3⟩ := hx'
    obtain ⟨oc, od, odt, osl⟩ := o'
    simp only at c1 c2 c3 hd'
    subst c1 c2 c3 hd'
    simp [dictOf]
  · rw [he', List.map_append, List.map_singleton]
    have := hE.snoc (k := k) (a := a) hv
    rw [e1] at this
    exact this
  · rw [List.map_append, List.nodup_append]
    refine ⟨hnd, by simp, fun x hx y hy => ?_⟩
    simp only [List.map_singleton, List.mem_singleton] at hy
    subst hy
    intro q
    subst q
    exact kfind_none hno hx
/-- max of a dict's keys -/
theorem BSpec.max {d : Addr} {kvs : List (Int × V)} (e : σ d = some (.idict kvs)) (hne : kvs ≠ []) (h : ∀ k v, (k, v) ∈ kvs → (∀ x ∈ kvs, x.1 ≤ k) → Φ (.int k) σ) : BSpec "max" [.ref d] σ Φ := by
  intro c n S ok _ ρ us hv fr h' tk R
  obtain ⟨u, rfl, i1⟩ := hv.one
  obtain rfl : u = .ref d := i1
  obtain ⟨ws, hd, hp, hs⟩ := R.idictX ok e
  obtain ⟨ep, hat⟩ := hd.dictAt
  have hlt : d < h'.objs.size := by obtain ⟨o, ho, _⟩ := Heap.dictOf_iff.mp hd; exact Heap.lt_size ho
  refine call_max_walk (wpAny_pyIter_dict (s := c.sh h' tk) hs hat ?_)
  have hpos : 0 < ws.length := by rw [hp.length]; exact List.length_pos_iff.mpr hne
  have keyAt : ∀ i : Nat, (ws[i]?.map (·.1)) = (kvs[i]?.map (·.1)) := by
    clear e hne h hat hpos hd R
    intro i
    induction hp generalizing i with
    | nil => rfl
    | cons _ _ ih => cases i with | zero => rfl | succ i => simpa using ih i
  refine ⟨h'.objs.size, _, _, ws.length, _, _, _, rfl, Walks.dictKeys (prog := PW) (w := c.w) (A := (c.A S).in1) (knd := intKind PW c.w) rfl h'.objs.size d (Nat.ne_of_lt hlt) ws ep, ⟨⟨_, Heap.get?_push_size _ rfl, rfl, rfl⟩, hat.at' fun o eo => Heap.get?_push_of_some _ eo⟩, fun b hb => ?_, hpos,
    CmpOf.ints_gt (fun i => (ws[i]?.map (·.1)).getD 0) fun i v ⟨k, x, hx, hk⟩ => ?_, fun v h1 tk1 hP hk1 => ?_⟩
  · have : b = h'.objs.size ∨ b = d := by simpa using hb
    have hsz : (h'.push { cls := .type "dict_keyiterator", data := .fields #[.ref d, .int 0 0, .int ws.length 0, .int ep 0] }).objs.size = h'.objs.size + 1 := Heap.size_push ..
    exact Nat.lt_of_lt_of_eq (show b < h'.objs.size + 1 by rcases this with rfl | rfl; exact Nat.lt_succ_self _; exact Nat.lt_succ_of_lt hlt) hsz.symm
  · rw [hx]
    obtain ⟨t, rfl⟩ : ∃ t, v = .int k t := by
      cases v <;> simp [intKind, Value.isInt] at hk
      subst hk; exact ⟨_, rfl⟩
    exact ⟨t, rfl⟩
  · obtain ⟨k, x, hx, hk⟩ := hP
    obtain ⟨t, rfl⟩ : ∃ t, v = .int k t := by
      cases v <;> simp [intKind, Value.isInt] at hk
      subst hk; exact ⟨_, rfl⟩
    obtain ⟨b1, b2⟩ := argBest_gt (fun i => (ws[i]?.map (·.1)).getD 0) (ws.length - 1)
    have hkv : ∃ v, kvs[argBest (fun i j => decide ((ws[i]?.map (·.1)).getD 0 > (ws[j]?.map (·.1)).getD 0)) (ws.length - 1)]? = some (k, v) := by
      have := keyAt (argBest (fun i j => decide ((ws[i]?.map (·.1)).getD 0 > (ws[j]?.map (·.1)).getD 0)) (ws.length - 1))
      rw [hx] at this
      cases q : kvs[argBest (fun i j => decide ((ws[i]?.map (·.1)).getD 0 > (ws[j]?.map (·.1)).getD 0)) (ws.length - 1)]? with
      | none => rw [q] at this; cases this
      | some y => rw [q] at this; obtain ⟨y1, y2⟩ := y; cases this; exact ⟨_, rfl⟩
    obtain ⟨v, hv⟩ := hkv
    refine ⟨.int k, σ, h1, tk1, rfl, R.keep fun b o eo => hk1 b o (fun q => ?_) (Heap.get?_push_of_some _ eo), ⟨t, rfl⟩, h k v (List.mem_of_getElem? hv) fun y hy => ?_⟩
    · have : b = h'.objs.size := by simpa using q
      subst this
      exact absurd (Heap.lt_size eo) (Nat.lt_irrefl _)
    · obtain ⟨j, hj⟩ := List.mem_iff_getElem?.mp hy
      have hj' := keyAt j
      rw [hj] at hj'
      have hjl : j < ws.length := by
        rcases Nat.lt_or_ge j ws.length with q | q
        · exact q
        · rw [List.getElem?_eq_none q] at hj'; cases hj'
      have := b2 j (by (first | lia | omega))
      simp only [hx, hj', Option.map_some, Option.getD_some] at this
      exact this
end
end
section
/-! ## comparing tuples and dicts of pairs -/
section
variable {c : Cx} {S : Scope} {ρ : Rho} {σ : Sg} {Φ : V → Sg → Prop} {n : Nat}
noncomputable def pairD (p q : Int) : PyData := .tuple [.int p, .int q]
theorem Rel.pair (ok : c.Ok n) {fr : Led} {h : Heap} (R : Rel c ρ σ fr h) {a : Addr} {p q : Int} (e : σ a = some (.tup [.int p, .int q])) : Reads h (.ref a) (pairD p q) [] := by
  obtain ⟨o, hg, ⟨us, m, rfl, hvs⟩, _⟩ := R.obj ok e
  obtain ⟨u, v, rfl, ⟨t1, rfl⟩, ⟨t2, rfl⟩⟩ := hvs.two
  exact reads_tuple_at hg rfl rfl (.cons (as := []) (bs := []) (.int p t1) (.cons (as := []) (bs := []) (.int q t2) .nil))
theorem pair_shaped (p q : Int) : SeqAt.shaped (pairD p q) = true := by
  simp [pairD, SeqAt.shaped, PyData.canLay0, PyData.canLayAll0, PyData.depth, PyData.depthAll]
theorem pair_eqv (p q r s : Int) : PyData.eqv (pairD p q) (pairD r s) = decide (p = r ∧ q = s) := by
  rw [← SeqAt.same_eq_eqv _ _ (SeqAt.noMix_of_shape (.tuple [.int, .int]) rfl _ _ rfl rfl)]
  unfold pairD
  simp only [PySem.Spec.same, PySem.Spec.sameAll]
  by_cases h1 : p = r <;> by_cases h2 : q = s <;> simp [h1, h2]
theorem CSpec.eqP {a b : Addr} {p q r s : Int} (ea : σ a = some (.tup [.int p, .int q])) (eb : σ b = some (.tup [.int r, .int s])) : CSpec .Eq (.ref a) (.ref b) σ (decide (p = r ∧ q = s)) := by
  intro c n S ok ρ ua ub ha hb fr h tk R
  obtain rfl : ua = .ref a := ha
  obtain rfl : ub = .ref b := hb
  refine eq_dataH (s := c.sh h tk) (R.pair ok ea) (R.pair ok eb) (pair_shaped _ _) (pair_shaped _ _) (by have := ok.hu; show c.un + 64 < cLine; (first | lia | omega)) ?_
  rw [pair_eqv]
  exact ⟨.bool _, σ, h, tk, rfl, R, rfl, rfl, rfl⟩
theorem CSpec.neP {a b : Addr} {p q r s : Int} (ea : σ a = some (.tup [.int p, .int q])) (eb : σ b = some (.tup [.int r, .int s])) : CSpec .NotEq (.ref a) (.ref b) σ (!decide (p = r ∧ q = s)) := by
  intro c n S ok ρ ua ub ha hb fr h tk R
  obtain rfl : ua = .ref a := ha
  obtain rfl : ub = .ref b := hb
  refine ne_dataH (s := c.sh h tk) (R.pair ok ea) (R.pair ok eb) (pair_shaped _ _) (pair_shaped _ _) (by have := ok.hu; show c.un + 64 < cLine; (first | lia | omega)) ?_
  rw [pair_eqv]
  exact ⟨.bool _, σ, h, tk, rfl, R, rfl, rfl, rfl⟩
/-- in the state, a dict's values are pairs of numbers -/
noncomputable def PairsAt (σ : Sg) (kvs : List (Int × V)) (l : List (Int × Int × Int)) : Prop := kvs.map (·.1) = l.map (·.1) ∧ ∀ k p q, (k, p, q) ∈ l → ∃ a, (k, V.ref a) ∈ kvs ∧ σ a = some (.tup [.int p, .int q])
/-- dict == dict, over values that are pairs -/
inductive Hits (σ : Sg) (kb : List (Int × V)) : List (Int × V) → Bool → Prop
  | nil : Hits σ kb [] true
  | miss {k : Int} {v : V} {r : List (Int × V)} : dget kb k = none → Hits σ kb ((k, v) :: r) false
  | hit {k : Int} {a b : Addr} {p q p' q' : Int} {r : List (Int × V)} {bo : Bool} : dget kb k = some (.ref b) → σ a = some (.tup [.int p, .int q]) → σ b = some (.tup [.int p', .int q']) → Hits σ kb r bo → Hits σ kb ((k, .ref a) :: r) (decide (p = p' ∧ q = q') && bo)
theorem CSpec.eqD {a b : Addr} {ka kb : List (Int × V)} {bo : Bool} (ea : σ a = some (.idict ka)) (eb : σ b = some (.idict kb)) (hh : ka.length = kb.length → Hits σ kb ka bo) : CSpec .Eq (.ref a) (.ref b) σ (ka.length == kb.length && bo) := by
  intro c n S ok ρ ua ub ha hb fr h tk R
  obtain rfl : ua = .ref a := ha
  obtain rfl : ub = .ref b := hb
  obtain ⟨us, da, pa, sa⟩ := R.idictX ok ea
  obtain ⟨ws, db, pb, sb⟩ := R.idictX ok eb
  have hits : us.length = ws.length → KeqHits (c.A S).in1 (c.sh h tk) ws us bo := fun e => by
    have H := hh (by rw [← pa.length, ← pb.length, e])
    clear hh da ea e
    induction H generalizing us with
    | nil => cases pa; exact .nil
    | miss hn => cases pa; exact .miss (pb.miss hn)
    | hit hb h1 h2 _ ih =>
      cases pa with
      | cons i1 pa =>
        obtain ⟨y, hy, iy⟩ := pb.get hb
        rename_i u _
        obtain rfl : u = .ref _ := i1
        obtain rfl : y = .ref _ := iy
        have x := keq_at (s := c.sh h tk) (A := c.A S) (R.pair ok h1) (R.pair ok h2) (pair_shaped _ _) (pair_shaped _ _) (by have := ok.hu; show c.un + 1 + 64 < cLine; (first | lia | omega))
        rw [pair_eqv] at x
        exact .hit hy x (ih _ pa)
  have := keq_eq (A := c.A S) (E := c.E) (s := c.sh h tk) (Q := ResV c ρ fr fun v σ' => v = .bool (ka.length == kb.length && bo) ∧ σ' = σ) sa sb da db (by have := ok.hu; show c.un < cLine; (first | lia | omega)) hits
  rw [pa.length, pb.length] at this
  exact this ⟨.bool _, σ, h, tk, rfl, R, rfl, rfl, rfl⟩
end
end
section
/-! ## the tables -/
noncomputable def globL : List (Str × V × Value) := [("INT", .int 1, .int 1 423), ("REAL", .int 2, .int 2 425), ("BOOL", .int 0, .int 0 421), ("ZERO", .ref 89, .ref 89), ("ONE", .ref 90, .ref 90), ("MOST_BITS", .int 65536, .int 65536 429)]
noncomputable def fnL : List (Str × Addr) := [("gcd_of", 97), ("ratio", 104), ("add", 111), ("mul", 118), ("is_whole", 125), ("LinearForm", 177), ("form_of", 188), ("want_small", 515), ("TermBank", 721), ("_law_draw", 730), ("_law_lowest", 737), ("_law_plus", 744), ("_law_times", 751), ("_law_value", 758), ("_law_is_told", 763), ("_law_more", 770)]
noncomputable def bnL : List (Str × String) := [("abs", "abs"), ("len", "len"), ("max", "max"), ("sorted", "sorted")]
noncomputable def tyL : List (Str × String) := [("tuple", "tuple"), ("list", "list"), ("dict", "dict"), ("range", "range"), ("reversed", "reversed"), ("zip", "zip"), ("enumerate", "enumerate")]
noncomputable def attrL : List (Addr × Str) := [(721, "term_ops"), (721, "term_args"), (721, "term_sorts"), (721, "term_datas"), (721, "numbers"), (721, "fun_names"), (721, "fun_args"), (721, "fun_results"), (177, "parts"), (177, "constant")]
noncomputable def settL : List (Addr × Str) := [(721, "sort_names"), (721, "sort_widths"), (721, "fun_names"), (721, "fun_args"), (721, "fun_results"), (721, "fresh_count"), (721, "term_ops"), (721, "term_args"), (721, "term_sorts"), (721, "term_datas"), (721, "numbers"), (721, "true_number"), (721, "false_number"), (721, "bv_numbers"), (177, "parts"), (177, "constant")]
noncomputable def methL : List ((Addr × Str) × Addr) := [((721, "make"), 335), ((721, "declare_fun"), 244), ((721, "fresh_const"), 258), ((721, "op"), 293), ((721, "args"), 300), ((721, "sort"), 307), ((721, "data"), 314), ((721, "want"), 356), ((721, "want_all"), 363), ((721, "parts"), 391), ((721, "parts_of_all"), 398), ((721, "is_number_sort"), 230), ((721, "ite"), 475), ((721, "app"), 482), ((721, "num"), 529), ((721, "want_number"), 536), ((721, "plus"), 543), ((721, "times_num"), 550), ((721, "times"), 557), ((721, "negative"), 571), ((721, "minus"), 578), ((177, "add_part"), 146), ((177, "add_constant"), 153), ((177, "evaluate"), 174)]
noncomputable def TT : Tabs where
  glob := fun x => (globL.lookup x).map (·.1)
  fn := fun x => fnL.lookup x
  bn := fun x => bnL.lookup x
  ty := fun x => tyL.lookup x
  attr := fun C x => attrL.contains (C, x)
  sett := fun C x => settL.contains (C, x)
  meth := fun C x => methL.lookup (C, x)
theorem lookup_mem {α β : Type} [BEq α] [LawfulBEq α] {l : List (α × β)} {x : α} {y : β} (h : l.lookup x = some y) : (x, y) ∈ l := by
  induction l with
  | nil => cases h
  | cons p r ih =>
    obtain ⟨a, b⟩ := p
    rw [List.lookup_cons] at h
    split at h
    · rename_i q; rw [beq_iff_eq] at q; subst q; cases h; exact .head _
    · exact .tail _ (ih h)
theorem glob_all : ∀ P, globL.all (fun p => nsIn (KK P) mainGlobals p.1 == some (some p.2.2)) = true := fun P => by kernel_rfl
theorem glob_is : ∀ p ∈ globL, p.2.1.Is p.2.2 := by
  unfold globL
  simp only [List.forall_mem_cons]
  exact ⟨⟨_, rfl⟩, ⟨_, rfl⟩, ⟨_, rfl⟩, rfl, rfl, ⟨_, rfl⟩, fun _ h => nomatch h⟩
theorem fn_all : ∀ P, fnL.all (fun p => nsIn (KK P) mainGlobals p.1 == some (some (.ref p.2)) && keepIn (KK P) (.ref p.2)) = true := fun P => by kernel_rfl
theorem bn_boot : bnL.all (fun p => bootBuiltins p.1 == some (.builtin p.2) && !(p.1 == "__name__")) = true := by kernel_rfl
theorem ty_boot : tyL.all (fun p => bootBuiltins p.1 == some (.type p.2) && !(p.1 == "__name__")) = true := by kernel_rfl
theorem bn_all : ∀ P, (bnL.map (·.1) ++ tyL.map (·.1)).all (fun x => nsIn (KK P) mainGlobals x == some none) = true := fun P => by kernel_rfl
theorem attr_all : ∀ P, attrL.all (fun p => plainGet (KK P) p.1 p.2 && hasDictIn (KK P) p.1 && findIn (KK P) (.ref p.1) p.2 == some none) = true := fun P => by kernel_rfl
theorem sett_all : ∀ P, settL.all (fun p => findIn (KK P) (.ref p.1) "__setattr__" == some (some (.builtin "object.__setattr__")) && plainOver (KK P) p.1 && takerIn (KK P) p.1 p.2 == some none && hasDictIn (KK P) p.1) = true := fun P => by kernel_rfl
theorem meth_all : ∀ P, methL.all (fun p => plainGet (KK P) p.1.1 p.1.2 && findIn (KK P) (.ref p.1.1) p.1.2 == some (some (.ref p.2)) && isFn (KK P) (.ref p.2) && keepIn (KK P) (.ref p.2)) = true := fun P => by kernel_rfl
theorem TT_ok : TT.Ok where
  glob := fun x v h => by
    have h : (globL.lookup x).map (·.1) = some v := h
    cases hq : globL.lookup x with
    | none => rw [hq] at h; cases h
    | some p =>
    obtain ⟨v', u⟩ := p
    rw [hq] at h
    have h : v' = v := Option.some.inj h
    subst h
    have hm := lookup_mem hq
    exact ⟨u, glob_is _ hm, fun P => beq_iff_eq.mp (List.all_eq_true.mp (glob_all P) _ hm)⟩
  fn := fun x f h => by
    have key := fun P => List.all_eq_true.mp (fn_all P) _ (lookup_mem h)
    simp only [Bool.and_eq_true, beq_iff_eq] at key
    exact ⟨fun P => (key P).1, fun P => (key P).2⟩
  bn := fun x id h => by
    have hm := lookup_mem h
    have k1 := List.all_eq_true.mp bn_boot _ hm
    simp only [Bool.and_eq_true, beq_iff_eq, Bool.not_eq_true', beq_eq_false_iff_ne] at k1
    exact ⟨k1.1, fun P => beq_iff_eq.mp (List.all_eq_true.mp (bn_all P) x (List.mem_append_left _ (List.mem_map.mpr ⟨_, hm, rfl⟩))), k1.2⟩
  ty := fun x id h => by
    have hm := lookup_mem h
    have k1 := List.all_eq_true.mp ty_boot _ hm
    simp only [Bool.and_eq_true, beq_iff_eq, Bool.not_eq_true', beq_eq_false_iff_ne] at k1
    exact ⟨k1.1, fun P => beq_iff_eq.mp (List.all_eq_true.mp (bn_all P) x (List.mem_append_right _ (List.mem_map.mpr ⟨_, hm, rfl⟩))), k1.2⟩
  attr := fun C x h => by
    have key := fun P => List.all_eq_true.mp (attr_all P) _ (List.contains_iff_mem.mp h)
    simp only [Bool.and_eq_true, beq_iff_eq] at key
    exact ⟨fun P => (key P).1.1, fun P => (key P).1.2, none, fun P => (key P).2, fun P => rfl⟩
  sett := fun C x h => by
    have key := fun P => List.all_eq_true.mp (sett_all P) _ (List.contains_iff_mem.mp h)
    simp only [Bool.and_eq_true, beq_iff_eq] at key
    exact ⟨fun P => (key P).1.1.1, fun P => (key P).1.1.2, fun P => (key P).1.2, fun P => (key P).2⟩
  meth := fun C x f h => by
    have key := fun P => List.all_eq_true.mp (meth_all P) _ (lookup_mem h)
    simp only [Bool.and_eq_true, beq_iff_eq] at key
    exact ⟨fun P => (key P).1.1.1, fun P => (key P).1.1.2, fun P => (key P).1.2, fun P => (key P).2⟩
end
section
theorem at_gcd : At 97 (topN PW 8) ["a", "b"] := ⟨fun P => ⟨by kernel_rfl, by kernel_rfl, by kernel_rfl, fun a b => by show bindArgs _ _ = _; kernel_rfl⟩, by kernel_rfl, by decide +kernel⟩
theorem at_ratio : At 104 (topN PW 9) ["top", "bottom"] := ⟨fun P => ⟨by kernel_rfl, by kernel_rfl, by kernel_rfl, fun a b => by show bindArgs _ _ = _; kernel_rfl⟩, by kernel_rfl, by decide +kernel⟩
theorem gcd_step (x y : Int) (hy : 0 ≤ y) (h : y ≠ 0) : 0 ≤ Int.fmod x y ∧ (Int.fmod x y).natAbs < y.natAbs ∧ Int.gcd y (Int.fmod x y) = Int.gcd x y := by
  have e : Int.fmod x y = x % y := Int.fmod_eq_emod_of_nonneg x hy
  rw [e]
  have h1 := Int.emod_nonneg x h
  have h2 := Int.emod_lt_of_pos x (show 0 < y by (first | lia | omega))
  refine ⟨h1, by (first | lia | omega), ?_⟩
  rw [Int.emod_def, Int.sub_eq_add_neg, ← Int.mul_neg, Int.gcd_add_mul_left_right, Int.gcd_comm]
theorem gcd_ok {n : Nat} {σ : Sg} {Φ : V → Sg → Prop} (a b : Int) (h : Φ (.int (Int.gcd a b)) σ) : CallOk (n + 1) 97 [.int a, .int b] σ Φ := by
  refine CallOk.of TT_ok at_gcd (k := 20) (j := 20) rfl ?_
  refine BSpec.abs (BSpec.abs ?_)
  intro q hq
  refine ⟨fun k ρ σ' => ∃ x y : Int, ρ = binds ["a", "b"] [.int x, .int y] ∧ 0 ≤ x ∧ 0 ≤ y ∧ k = y.natAbs ∧ Int.gcd x y = Int.gcd a b ∧ σ' = σ, _, _, σ, rsub_cons (rsub_cons rsub_nil rfl) rfl, Sub.upd hq, ⟨a.natAbs, b.natAbs, rfl, by (first | lia | omega), by (first | lia | omega), rfl, by simp [Int.gcd], rfl⟩, ?_⟩
  rintro k ρ σ' ⟨x, y, rfl, hx, hy, rfl, hg, rfl⟩
  refine ⟨fun hne => ?_, fun he => ?_⟩
  · have hne : y ≠ 0 := by simpa using hne
    obtain ⟨h1, h2, h3⟩ := gcd_step x y hy hne
    refine ⟨hne, fun q hq => ⟨_, _, σ', h2, rsub_cons (rsub_cons rsub_nil rfl) rfl, Sub.upd hq, y, _, rfl, hy, h1, rfl, h3.trans hg, rfl⟩⟩
  · have he : y = 0 := by simpa using he
    subst he
    refine ⟨σ', Sub.refl, ?_⟩
    have e : (Int.gcd a b : Int) = x := by rw [← hg]; simp [Int.gcd]; (first | lia | omega)
    rw [← e]; exact h
/-- lowest terms, as the text computes them -/
noncomputable def lowT (t b : Int) : Int := Int.fdiv t (if b < 0 then -(Int.gcd t b : Int) else Int.gcd t b)
noncomputable def lowB (t b : Int) : Int := Int.fdiv b (if b < 0 then -(Int.gcd t b : Int) else Int.gcd t b)
theorem ratio_ok {n : Nat} {σ : Sg} {Φ : V → Sg → Prop} (t b : Int) (hb : b ≠ 0) (hd : ∀ i, (i = t ∨ i = b) → Builtin.divisionGoesByPylong i (if b < 0 then -(Int.gcd t b : Int) else Int.gcd t b) = false)
    (h : ∀ a, σ a = none → Φ (.ref a) (upd σ a (.tup [.int (lowT t b), .int (lowB t b)]))) : CallOk (n + 2) 104 [.int t, .int b] σ Φ := by
  have hg : (Int.gcd t b : Int) ≠ 0 := by
    have : Int.gcd t b ≠ 0 := fun e => hb (Int.gcd_eq_zero_iff.mp e).2
    (first | lia | omega)
  have d1 := hd t (.inl rfl)
  have d2 := hd b (.inr rfl)
  refine CallOk.of TT_ok at_ratio (k := 20) (j := 20) rfl ?_
  refine ⟨fun e => absurd (by simpa using e) hb, fun _ => ?_⟩
  refine gcd_ok t b ⟨fun e => ?_, fun e => ?_⟩
  · have e : b < 0 := by simpa using e
    rw [if_pos e] at d1 d2
    refine ⟨⟨by (first | lia | omega), d1⟩, ⟨by (first | lia | omega), d2⟩, Nat.le_of_ble_eq_true rfl, fun a ha => ⟨_, Sub.refl, ?_⟩⟩
    have := h a ha
    unfold lowT lowB at this
    rwa [if_pos e] at this
  · have e : ¬ b < 0 := by simpa using e
    rw [if_neg e] at d1 d2
    refine ⟨⟨hg, d1⟩, ⟨hg, d2⟩, Nat.le_of_ble_eq_true rfl, fun a ha => ⟨_, Sub.refl, ?_⟩⟩
    have := h a ha
    unfold lowT lowB at this
    rwa [if_neg e] at this
theorem at_add : At 111 (topN PW 10) ["a", "b"] := ⟨fun P => ⟨by kernel_rfl, by kernel_rfl, by kernel_rfl, fun a b => by show bindArgs _ _ = _; kernel_rfl⟩, by kernel_rfl, by decide +kernel⟩
theorem at_mul : At 118 (topN PW 11) ["a", "b"] := ⟨fun P => ⟨by kernel_rfl, by kernel_rfl, by kernel_rfl, fun a b => by show bindArgs _ _ = _; kernel_rfl⟩, by kernel_rfl, by decide +kernel⟩
theorem at_whole : At 125 (topN PW 12) ["a"] := ⟨fun P => ⟨by kernel_rfl, by kernel_rfl, by kernel_rfl, fun a => by show bindArgs _ _ = _; kernel_rfl⟩, by kernel_rfl, by decide +kernel⟩
theorem i0 {σ : Sg} {a : Addr} {p q : V} (e : σ a = some (.tup [p, q])) : ISpec σ (.ref a) (.int 0) p := ISpec.tup e (by decide) (by decide) (j := 0) rfl rfl
theorem i1 {σ : Sg} {a : Addr} {p q : V} (e : σ a = some (.tup [p, q])) : ISpec σ (.ref a) (.int 1) q := ISpec.tup e (by decide) (by decide) (j := 1) rfl rfl
/-- what is asked of a fraction's making: below is not nought, the divisions are the plain ones -/
structure Divs (t b : Int) : Prop where
  ne : b ≠ 0
  go : ∀ i, (i = t ∨ i = b) → Builtin.divisionGoesByPylong i (if b < 0 then -(Int.gcd t b : Int) else Int.gcd t b) = false
theorem add_ok {n : Nat} {σ : Sg} {Φ : V → Sg → Prop} {x y : Addr} {a b c d : Int} (ex : σ x = some (.tup [.int a, .int b])) (ey : σ y = some (.tup [.int c, .int d]))
    (h1 : b = 1 → d = 1 → ∀ r, σ r = none → Φ (.ref r) (upd σ r (.tup [.int (a + c), .int 1])))
    (h2 : ¬ (b = 1 ∧ d = 1) → (IntMulOk a d ∧ IntMulOk c b ∧ IntMulOk b d) ∧ Divs (a * d + c * b) (b * d) ∧ ∀ r, σ r = none → Φ (.ref r) (upd σ r (.tup [.int (lowT (a * d + c * b) (b * d)), .int (lowB (a * d + c * b) (b * d))]))) : CallOk (n + 3) 111 [.ref x, .ref y] σ Φ := by
  have general : ¬ (b = 1 ∧ d = 1) → wS TT (fScope (topN PW 10)) (n + 2) (wk TT (fScope (topN PW 10)) (n + 2) 20) 19 ((fBody (topN PW 10)).drop 1) (binds ["a", "b"] [.ref x, .ref y]) σ (fun fl _ σ' => match fl with | .ret v => SubQ (Φ v) σ' | .next => SubQ (Φ .none) σ' | _ => False) := fun hn => by
    obtain ⟨⟨m1, m2, m3⟩, dv, h2⟩ := h2 hn
    refine ⟨_, i0 ex, _, i1 ey, m1, _, i0 ey, _, i1 ex, m2, _, i1 ex, _, i1 ey, m3, ?_⟩
    exact ratio_ok _ _ dv.ne dv.go fun r hr => ⟨_, Sub.refl, h2 r hr⟩
  refine CallOk.of TT_ok at_add (k := 20) (j := 20) rfl ?_
  refine ⟨_, i1 ex, _, i1 ey, fun e => ?_, fun e => ?_⟩
  · have e : b = d := by simpa using e
    subst e
    refine ⟨fun e => ?_, fun e => ?_⟩
    · have e : b = 1 := by simpa using e
      exact ⟨_, i0 ex, _, i0 ey, Nat.le_of_ble_eq_true rfl, fun r hr => ⟨_, Sub.refl, h1 e e r hr⟩⟩
    · have e : ¬ b = 1 := by simpa using e
      exact general fun q => e q.1
  · have e : ¬ b = d := by simpa using e
    refine ⟨fun q => (by cases q), fun _ => ?_⟩
    exact general fun q => e (q.1.trans q.2.symm)
theorem mul_ok {n : Nat} {σ : Sg} {Φ : V → Sg → Prop} {x y : Addr} {a b c d : Int} (ex : σ x = some (.tup [.int a, .int b])) (ey : σ y = some (.tup [.int c, .int d])) (m0 : IntMulOk a c)
    (h1 : b = 1 → d = 1 → ∀ r, σ r = none → Φ (.ref r) (upd σ r (.tup [.int (a * c), .int 1])))
    (h2 : ¬ (b = 1 ∧ d = 1) → IntMulOk b d ∧ Divs (a * c) (b * d) ∧ ∀ r, σ r = none → Φ (.ref r) (upd σ r (.tup [.int (lowT (a * c) (b * d)), .int (lowB (a * c) (b * d))]))) : CallOk (n + 3) 118 [.ref x, .ref y] σ Φ := by
  have general : ¬ (b = 1 ∧ d = 1) → wS TT (fScope (topN PW 11)) (n + 2) (wk TT (fScope (topN PW 11)) (n + 2) 20) 19 ((fBody (topN PW 11)).drop 1) (binds ["a", "b"] [.ref x, .ref y]) σ (fun fl _ σ' => match fl with | .ret v => SubQ (Φ v) σ' | .next => SubQ (Φ .none) σ' | _ => False) := fun hn => by
    obtain ⟨m3, dv, h2⟩ := h2 hn
    refine ⟨_, i0 ex, _, i0 ey, m0, _, i1 ex, _, i1 ey, m3, ?_⟩
    exact ratio_ok _ _ dv.ne dv.go fun r hr => ⟨_, Sub.refl, h2 r hr⟩
  refine CallOk.of TT_ok at_mul (k := 20) (j := 20) rfl ?_
  refine ⟨_, i1 ex, _, i1 ey, fun e => ?_, fun e => ?_⟩
  · have e : b = d := by simpa using e
    subst e
    refine ⟨fun e => ?_, fun e => ?_⟩
    · have e : b = 1 := by simpa using e
      exact ⟨_, i0 ex, _, i0 ey, m0, Nat.le_of_ble_eq_true rfl, fun r hr => ⟨_, Sub.refl, h1 e e r hr⟩⟩
    · have e : ¬ b = 1 := by simpa using e
      exact general fun q => e q.1
  · have e : ¬ b = d := by simpa using e
    refine ⟨fun q => (by cases q), fun _ => ?_⟩
    exact general fun q => e (q.1.trans q.2.symm)
theorem whole_ok {n : Nat} {σ : Sg} {Φ : V → Sg → Prop} {x : Addr} {a b : Int} (ex : σ x = some (.tup [.int a, .int b])) (h : Φ (.bool (b == 1)) σ) : CallOk (n + 1) 125 [.ref x] σ Φ :=
  CallOk.of TT_ok at_whole (k := 20) (j := 20) rfl ⟨_, i1 ex, σ, Sub.refl, h⟩
end
section
/-! ## the bank -/
structure Nn where
  key : Nd
  aA : Addr
  dV : V
noncomputable def DataHere (σ : Sg) (d : Int ⊕ (Int × Int)) (v : V) : Prop := match d with
  | .inl i => v = .int i
  | .inr (p, q) => ∃ td, v = .ref td ∧ σ td = some (.tup [.int p, .int q])
structure Bk where
  a : Addr
  dx : Addr
  kvs : List (Str × V)
  lo : Addr
  la : Addr
  ls : Addr
  ld : Addr
  nb : Addr
  nodes : List Nn
  ks : List (Nd × Addr × V)
noncomputable def Bk.mut (B : Bk) : List Addr := [B.lo, B.la, B.ls, B.ld, B.nb]
structure BankAt (σ : Sg) (B : Bk) : Prop where
  inst : InstIs σ B.a 721 B.dx B.kvs
  g1 : dget B.kvs "term_ops" = some (.ref B.lo)
  g2 : dget B.kvs "term_args" = some (.ref B.la)
  g3 : dget B.kvs "term_sorts" = some (.ref B.ls)
  g4 : dget B.kvs "term_datas" = some (.ref B.ld)
  g5 : dget B.kvs "numbers" = some (.ref B.nb)
  own : ∀ x ∈ methL.map (·.1.2), dget B.kvs x = none
  o1 : σ B.lo = some (.list (B.nodes.map fun n => .str n.key.op))
  o2 : σ B.la = some (.list (B.nodes.map fun n => .ref n.aA))
  o3 : σ B.ls = some (.list (B.nodes.map fun n => .int n.key.sort))
  o4 : σ B.ld = some (.list (B.nodes.map fun n => n.dV))
  o5 : σ B.nb = some (.kdict B.ks)
  node : ∀ n ∈ B.nodes, σ n.aA = some (.tup (n.key.args.map .int)) ∧ DataHere σ n.key.data n.dV
  keys : ∀ x ∈ B.ks, KeyHere σ x.1 x.2.1
  find : ∀ k, match kfind B.ks k with
    | some v => ∃ i : Nat, v = .int i ∧ 0 < i ∧ (B.nodes[i]?.map (·.key)) = some k
    | none => ∀ i : Nat, 0 < i → (B.nodes[i]?.map (·.key)) ≠ some k
  len : B.ks.length + 1 = B.nodes.length
  nd : B.mut.Nodup
/-- the rest of the state stays -/
noncomputable def Keeps (B : Bk) (σ σ' : Sg) : Prop := ∀ a ob, σ a = some ob → a ∉ B.mut → σ' a = some ob
theorem at_op : At 293 (inN (topN PW 21) 13) ["self", "t"] := ⟨fun P => ⟨by kernel_rfl, by kernel_rfl, by kernel_rfl, fun a b => by show bindArgs _ _ = _; kernel_rfl⟩, by kernel_rfl, by decide +kernel⟩
theorem at_args : At 300 (inN (topN PW 21) 14) ["self", "t"] := ⟨fun P => ⟨by kernel_rfl, by kernel_rfl, by kernel_rfl, fun a b => by show bindArgs _ _ = _; kernel_rfl⟩, by kernel_rfl, by decide +kernel⟩
theorem at_data : At 314 (inN (topN PW 21) 16) ["self", "t"] := ⟨fun P => ⟨by kernel_rfl, by kernel_rfl, by kernel_rfl, fun a b => by show bindArgs _ _ = _; kernel_rfl⟩, by kernel_rfl, by decide +kernel⟩
theorem at_make : At 335 (inN (topN PW 21) 19) ["self", "op", "args", "sort", "data"] := ⟨fun P => ⟨by kernel_rfl, by kernel_rfl, by kernel_rfl, fun a b c d e => by show bindArgs _ _ = _; kernel_rfl⟩, by kernel_rfl, by decide +kernel⟩
section
variable {n : Nat} {σ : Sg} {Φ : V → Sg → Prop} {B : Bk}
theorem BankAt.item (H : BankAt σ B) {α : Type} {la : Addr} {f : Nn → V} (e : σ la = some (.list (B.nodes.map f))) {t : Nat} {m : Nn} (hm : B.nodes[t]? = some m) (hz : B.nodes.length < 2 ^ 62) : ISpec σ (.ref la) (.int t) (f m) :=
  ISpec.list e (by (first | lia | omega)) (by have := (List.getElem?_eq_some_iff.mp hm).1; (first | lia | omega)) (by rw [Int.toNat_natCast, List.getElem?_map, hm]; rfl)
theorem op_ok (H : BankAt σ B) {t : Nat} {m : Nn} (hm : B.nodes[t]? = some m) (hz : B.nodes.length < 2 ^ 62) (h : Φ (.str m.key.op) σ) : CallOk (n + 1) 293 [.ref B.a, .int t] σ Φ :=
  CallOk.of TT_ok at_op (k := 20) (j := 20) rfl ⟨_, _, _, _, _, rfl, H.inst, H.g1, by kernel_rfl, _, H.item (α := Nat) H.o1 hm hz, σ, Sub.refl, h⟩
theorem args_ok (H : BankAt σ B) {t : Nat} {m : Nn} (hm : B.nodes[t]? = some m) (hz : B.nodes.length < 2 ^ 62) (h : Φ (.ref m.aA) σ) : CallOk (n + 1) 300 [.ref B.a, .int t] σ Φ :=
  CallOk.of TT_ok at_args (k := 20) (j := 20) rfl ⟨_, _, _, _, _, rfl, H.inst, H.g2, by kernel_rfl, _, H.item (α := Nat) H.o2 hm hz, σ, Sub.refl, h⟩
theorem data_ok (H : BankAt σ B) {t : Nat} {m : Nn} (hm : B.nodes[t]? = some m) (hz : B.nodes.length < 2 ^ 62) (h : Φ m.dV σ) : CallOk (n + 1) 314 [.ref B.a, .int t] σ Φ :=
  CallOk.of TT_ok at_data (k := 20) (j := 20) rfl ⟨_, _, _, _, _, rfl, H.inst, H.g4, by kernel_rfl, _, H.item (α := Nat) H.o4 hm hz, σ, Sub.refl, h⟩
end
end
section
theorem ne_of {σ : Sg} {a b : Addr} {x y : Ob} (ha : σ a = some x) (hb : σ b = some y) (h : x ≠ y) : a ≠ b := fun e => h (by subst e; rw [ha] at hb; exact Option.some.inj hb)
theorem DataHere.sub {σ σ' : Sg} {d : Int ⊕ (Int × Int)} {v : V} (s : Sub σ σ') (h : DataHere σ d v) : DataHere σ' d v := by
  rcases d with i | ⟨p, q⟩
  · exact h
  · obtain ⟨td, e, h⟩ := h; exact ⟨td, e, s _ _ h⟩
theorem KeyHere.sub {σ σ' : Sg} {k : Nd} {a : Addr} (s : Sub σ σ') (h : KeyHere σ k a) : KeyHere σ' k a := by
  obtain ⟨wf, ta, dv, h1, h2, h3⟩ := h
  refine ⟨wf, ta, dv, s _ _ h1, s _ _ h2, ?_⟩
  rcases hd : k.data with i | ⟨p, q⟩
  · rw [hd] at h3; exact h3
  · rw [hd] at h3; obtain ⟨td, e, h3⟩ := h3; exact ⟨td, e, s _ _ h3⟩
/-- a change at an object that is no tuple leaves the tuples -/
noncomputable def TSub (σ σ' : Sg) : Prop := ∀ a vs, σ a = some (.tup vs) → σ' a = some (.tup vs)
theorem DataHere.tsub {σ σ' : Sg} {d : Int ⊕ (Int × Int)} {v : V} (s : TSub σ σ') (h : DataHere σ d v) : DataHere σ' d v := by
  rcases d with i | ⟨p, q⟩
  · exact h
  · obtain ⟨td, e, h⟩ := h; exact ⟨td, e, s _ _ h⟩
theorem KeyHere.tsub {σ σ' : Sg} {k : Nd} {a : Addr} (s : TSub σ σ') (h : KeyHere σ k a) : KeyHere σ' k a := by
  obtain ⟨wf, ta, dv, h1, h2, h3⟩ := h
  refine ⟨wf, ta, dv, s _ _ h1, s _ _ h2, ?_⟩
  rcases hd : k.data with i | ⟨p, q⟩
  · rw [hd] at h3; exact h3
  · rw [hd] at h3; obtain ⟨td, e, h3⟩ := h3; exact ⟨td, e, s _ _ h3⟩
theorem TSub.upd {σ : Sg} {b : Addr} {x ob : Ob} (hb : σ b = some x) (hx : ∀ vs, x ≠ .tup vs) : TSub σ (Mine.upd σ b ob) := fun a vs h => by
  rw [upd_ne (ne_of h hb fun e => hx vs e.symm)]; exact h
theorem TSub.trans {σ σ' σ'' : Sg} (h : TSub σ σ') (h' : TSub σ' σ'') : TSub σ σ'' := fun a vs e => h' a vs (h a vs e)
theorem InstIs.upd {σ : Sg} {x C dx b : Addr} {kvs : List (Str × V)} {y ob : Ob} (I : InstIs σ x C dx kvs) (hb : σ b = some y) (h1 : ∀ C dx, y ≠ .inst C dx) (h2 : ∀ l, y ≠ .sdict l) : InstIs (Mine.upd σ b ob) x C dx kvs :=
  ⟨by rw [upd_ne (ne_of I.obj hb fun e => h1 _ _ e.symm)]; exact I.obj, by rw [upd_ne (ne_of I.dict hb fun e => h2 _ e.symm)]; exact I.dict⟩
theorem BankAt.sub {σ σ' : Sg} {B : Bk} (s : Sub σ σ') (H : BankAt σ B) : BankAt σ' B where
  inst := ⟨s _ _ H.inst.obj, s _ _ H.inst.dict⟩
  g1 := H.g1
  g2 := H.g2
  g3 := H.g3
  g4 := H.g4
  g5 := H.g5
  own := H.own
  o1 := s _ _ H.o1
  o2 := s _ _ H.o2
  o3 := s _ _ H.o3
  o4 := s _ _ H.o4
  o5 := s _ _ H.o5
  node := fun n hn => ⟨s _ _ (H.node n hn).1, (H.node n hn).2.sub s⟩
  keys := fun x hx => (H.keys x hx).sub s
  find := H.find
  len := H.len
  nd := H.nd
theorem kfind_push {ks : List (Nd × Addr × V)} {k k' : Nd} {kA : Addr} {v : V} : kfind (ks ++ [(k, kA, v)]) k' = (kfind ks k').or (if k = k' then some v else none) := by
  unfold kfind
  rw [List.find?_append]
  cases ks.find? (fun x => decide (x.1 = k')) with
  | some x => rfl
  | none =>
    by_cases q : k = k'
    · simp [q]
    · simp [q]
theorem find_push {nodes : List Nn} {ks : List (Nd × Addr × V)} {k : Nd} {ta kA : Addr} {dv : V}
    (hf : ∀ k, match kfind ks k with
    | some v => ∃ i : Nat, v = .int i ∧ 0 < i ∧ (nodes[i]?.map (·.key)) = some k
    | none => ∀ i : Nat, 0 < i → (nodes[i]?.map (·.key)) ≠ some k)
    (hno : ∀ i : Nat, 0 < i → (nodes[i]?.map (·.key)) ≠ some k) (hl : ks.length + 1 = nodes.length) (k' : Nd) :
    match kfind (ks ++ [(k, kA, .int nodes.length)]) k' with
    | some v => ∃ i : Nat, v = .int i ∧ 0 < i ∧ ((nodes ++ [⟨k, ta, dv⟩])[i]?.map (·.key)) = some k'
    | none => ∀ i : Nat, 0 < i → ((nodes ++ [⟨k, ta, dv⟩])[i]?.map (·.key)) ≠ some k' := by
  rw [kfind_push]
  have F := hf k'
  cases hk : kfind ks k' with
  | some v =>
    rw [hk] at F
    obtain ⟨i, e, hi, hm⟩ := F
    refine ⟨i, e, hi, ?_⟩
    have hlt : i < nodes.length := by
      rcases Nat.lt_or_ge i nodes.length with q | q
      · exact q
      · rw [List.getElem?_eq_none q] at hm; cases hm
    rw [List.getElem?_append_left hlt]; exact hm
  | none =>
    rw [hk] at F
    by_cases q : k = k'
    · rw [if_pos q]
      refine ⟨nodes.length, rfl, by (first | lia | omega), ?_⟩
      rw [List.getElem?_append_right (Nat.le_refl _), Nat.sub_self]
      simp [q]
    · rw [if_neg q]
      intro i hi e
      rcases Nat.lt_or_ge i nodes.length with z | z
      · rw [List.getElem?_append_left z] at e; exact F i hi e
      · rw [List.getElem?_append_right z] at e
        cases hj : i - nodes.length with
        | zero => rw [hj] at e; simp at e; exact q e
        | succ j => rw [hj] at e; simp at e
/-- the bank with a node more -/
noncomputable def Bk.push (B : Bk) (k : Nd) (ta : Addr) (dv : V) (kA : Addr) : Bk := { B with nodes := B.nodes ++ [⟨k, ta, dv⟩], ks := B.ks ++ [(k, kA, .int B.nodes.length)] }
section
variable {n : Nat} {σ : Sg} {Φ : V → Sg → Prop} {B : Bk}
theorem make_ok (H : BankAt σ B) (hz : B.nodes.length < 2 ^ 20) (k : Nd) (wf : k.WF) {ta : Addr} {dv : V} (h1 : σ ta = some (.tup (k.args.map .int))) (h2 : DataHere σ k.data dv)
    (hf : ∀ i : Nat, 0 < i → (B.nodes[i]?.map (·.key)) = some k → Φ (.int i) σ)
    (hn : (∀ i : Nat, 0 < i → (B.nodes[i]?.map (·.key)) ≠ some k) → ∀ kA σ', BankAt σ' (B.push k ta dv kA) → Keeps B σ σ' → Φ (.int B.nodes.length) σ') :
    CallOk (n + 1) 335 [.ref B.a, .str k.op, .ref ta, .int k.sort, dv] σ Φ := by
  refine CallOk.of TT_ok at_make (k := 20) (j := 20) rfl ?_
  refine ⟨Nat.le_of_ble_eq_true rfl, fun kA hkA => ?_⟩
  have s1 : Sub σ (upd σ kA (.tup [.str k.op, .ref ta, .int k.sort, dv])) := Sub.upd hkA
  have H1 := H.sub s1
  have K1 : KeyHere (upd σ kA (.tup [.str k.op, .ref ta, .int k.sort, dv])) k kA := ⟨wf, ta, dv, upd_same, s1 _ _ h1, by
    rcases hd : k.data with i | ⟨p, q⟩
    · rw [hd] at h2; exact h2
    · rw [hd] at h2; obtain ⟨td, e, h2⟩ := h2; exact ⟨td, e, s1 _ _ h2⟩⟩
  have kne : ∀ a ∈ B.mut, a ≠ kA := fun a ha e => by
    subst e
    simp only [Bk.mut, List.mem_cons, List.not_mem_nil, or_false] at ha
    rcases ha with rfl | rfl | rfl | rfl | rfl
    · rw [H.o1] at hkA; cases hkA
    · rw [H.o2] at hkA; cases hkA
    · rw [H.o3] at hkA; cases hkA
    · rw [H.o4] at hkA; cases hkA
    · rw [H.o5] at hkA; cases hkA
  have hs1 : ∀ a ob, σ a = some ob → (upd σ kA (.tup [.str k.op, .ref ta, .int k.sort, dv])) a = some ob := s1
  generalize hσ1 : upd σ kA (.tup [.str k.op, .ref ta, .int k.sort, dv]) = σ1 at H1 K1 s1 hs1
  refine ⟨_, _, _, _, _, rfl, H1.inst, H1.g5, by kernel_rfl, .inr ⟨_, MSpec.kget H1.o5, ?_⟩⟩
  refine BSpec.kget H1.o5 H1.keys K1 ?_
  have F := H.find k
  cases hk : kfind B.ks k with
  | some v =>
    rw [hk] at F
    obtain ⟨i, rfl, hi, hm⟩ := F
    refine ⟨fun e => ?_, fun e => ⟨σ, s1, hf i hi hm⟩⟩
    have : (i : Int) = 0 := by simpa using e
    (first | lia | omega)
  | none =>
    rw [hk] at F
    refine ⟨fun _ => ?_, fun e => (by cases e)⟩
    have N := H.nd
    simp only [Bk.mut, List.nodup_cons, List.mem_cons, List.not_mem_nil, or_false, not_or] at N
    obtain ⟨⟨n12, n13, n14, n15⟩, ⟨n23, n24, n25⟩, ⟨n34, n35⟩, n45, _⟩ := N
    have hsz : B.nodes.length ≤ sizeLine := by
      have : 2 ^ 20 ≤ sizeLine := Nat.le_of_ble_eq_true rfl
      (first | lia | omega)
    have len1 : ∀ f : Nn → V, (B.nodes.map f).length ≤ sizeLine := fun f => by rw [List.length_map]; exact hsz
    -- found = len(self.term_ops)
    refine ⟨_, _, _, _, _, rfl, H1.inst, H1.g1, by kernel_rfl, BSpec.lenL H1.o1 (by rw [List.length_map]; (first | lia | omega)) ?_⟩
    rw [List.length_map]
    -- term_ops.append
    refine ⟨_, _, _, _, _, rfl, H1.inst, H1.g1, by kernel_rfl, .inr ⟨_, MSpec.append H1.o1, BSpec.append H1.o1 (len1 _) ?_⟩⟩
    have I2 := H1.inst.upd (ob := .list (B.nodes.map (fun n => .str n.key.op) ++ [.str k.op])) H1.o1 (fun _ _ => nofun) (fun _ => nofun)
    have a2 : upd σ1 B.lo (.list (B.nodes.map (fun n => .str n.key.op) ++ [.str k.op])) B.la = _ := (upd_ne (Ne.symm n12)).trans H1.o2
    have a3 : upd σ1 B.lo (.list (B.nodes.map (fun n => .str n.key.op) ++ [.str k.op])) B.ls = _ := (upd_ne (Ne.symm n13)).trans H1.o3
    have a4 : upd σ1 B.lo (.list (B.nodes.map (fun n => .str n.key.op) ++ [.str k.op])) B.ld = _ := (upd_ne (Ne.symm n14)).trans H1.o4
    have a5 : upd σ1 B.lo (.list (B.nodes.map (fun n => .str n.key.op) ++ [.str k.op])) B.nb = _ := (upd_ne (Ne.symm n15)).trans H1.o5
    have a1 : upd σ1 B.lo (.list (B.nodes.map (fun n => .str n.key.op) ++ [.str k.op])) B.lo = _ := upd_same
    have T2 := TSub.upd (ob := .list (B.nodes.map (fun n => .str n.key.op) ++ [.str k.op])) H1.o1 (fun _ => nofun)
    have k2 : ∀ b, b ∉ B.mut → upd σ1 B.lo (.list (B.nodes.map (fun n => .str n.key.op) ++ [.str k.op])) b = σ1 b := fun b hb => upd_ne fun e => hb (by rw [e]; simp [Bk.mut])
    generalize upd σ1 B.lo (.list (B.nodes.map (fun n => .str n.key.op) ++ [.str k.op])) = σ2 at I2 a1 a2 a3 a4 a5 T2 k2
    -- term_args.append
    refine ⟨_, _, _, _, _, rfl, I2, H.g2, by kernel_rfl, .inr ⟨_, MSpec.append a2, BSpec.append a2 (len1 _) ?_⟩⟩
    have I3 := I2.upd (ob := .list (B.nodes.map (fun n => .ref n.aA) ++ [.ref ta])) a2 (fun _ _ => nofun) (fun _ => nofun)
    have T3 := T2.trans (TSub.upd (ob := .list (B.nodes.map (fun n => .ref n.aA) ++ [.ref ta])) a2 (fun _ => nofun))
    have b1 : upd σ2 B.la (.list (B.nodes.map (fun n => .ref n.aA) ++ [.ref ta])) B.lo = _ := (upd_ne n12).trans a1
    have b2 : upd σ2 B.la (.list (B.nodes.map (fun n => .ref n.aA) ++ [.ref ta])) B.la = _ := upd_same
    have b3 : upd σ2 B.la (.list (B.nodes.map (fun n => .ref n.aA) ++ [.ref ta])) B.ls = _ := (upd_ne (Ne.symm n23)).trans a3
    have b4 : upd σ2 B.la (.list (B.nodes.map (fun n => .ref n.aA) ++ [.ref ta])) B.ld = _ := (upd_ne (Ne.symm n24)).trans a4
    have b5 : upd σ2 B.la (.list (B.nodes.map (fun n => .ref n.aA) ++ [.ref ta])) B.nb = _ := (upd_ne (Ne.symm n25)).trans a5
    have k3 : ∀ b, b ∉ B.mut → upd σ2 B.la (.list (B.nodes.map (fun n => .ref n.aA) ++ [.ref ta])) b = σ1 b := fun b hb => (upd_ne fun e => hb (by rw [e]; simp [Bk.mut])).trans (k2 b hb)
    generalize upd σ2 B.la (.list (B.nodes.map (fun n => .ref n.aA) ++ [.ref ta])) = σ3 at I3 T3 b1 b2 b3 b4 b5 k3
    -- term_sorts.append
    refine ⟨_, _, _, _, _, rfl, I3, H.g3, by kernel_rfl, .inr ⟨_, MSpec.append b3, BSpec.append b3 (len1 _) ?_⟩⟩
    have I4 := I3.upd (ob := .list (B.nodes.map (fun n => .int n.key.sort) ++ [.int k.sort])) b3 (fun _ _ => nofun) (fun _ => nofun)
    have T4 := T3.trans (TSub.upd (ob := .list (B.nodes.map (fun n => .int n.key.sort) ++ [.int k.sort])) b3 (fun _ => nofun))
    have c1 : upd σ3 B.ls (.list (B.nodes.map (fun n => .int n.key.sort) ++ [.int k.sort])) B.lo = _ := (upd_ne n13).trans b1
    have c2 : upd σ3 B.ls (.list (B.nodes.map (fun n => .int n.key.sort) ++ [.int k.sort])) B.la = _ := (upd_ne n23).trans b2
    have c3 : upd σ3 B.ls (.list (B.nodes.map (fun n => .int n.key.sort) ++ [.int k.sort])) B.ls = _ := upd_same
    have c4 : upd σ3 B.ls (.list (B.nodes.map (fun n => .int n.key.sort) ++ [.int k.sort])) B.ld = _ := (upd_ne (Ne.symm n34)).trans b4
    have c5 : upd σ3 B.ls (.list (B.nodes.map (fun n => .int n.key.sort) ++ [.int k.sort])) B.nb = _ := (upd_ne (Ne.symm n35)).trans b5
    have k4 : ∀ b, b ∉ B.mut → upd σ3 B.ls (.list (B.nodes.map (fun n => .int n.key.sort) ++ [.int k.sort])) b = σ1 b := fun b hb => (upd_ne fun e => hb (by rw [e]; simp [Bk.mut])).trans (k3 b hb)
    generalize upd σ3 B.ls (.list (B.nodes.map (fun n => .int n.key.sort) ++ [.int k.sort])) = σ4 at I4 T4 c1 c2 c3 c4 c5 k4
    -- term_datas.append
    refine ⟨_, _, _, _, _, rfl, I4, H.g4, by kernel_rfl, .inr ⟨_, MSpec.append c4, BSpec.append c4 (len1 _) ?_⟩⟩
    have I5 := I4.upd (ob := .list (B.nodes.map (fun n => n.dV) ++ [dv])) c4 (fun _ _ => nofun) (fun _ => nofun)
    have T5 := T4.trans (TSub.upd (ob := .list (B.nodes.map (fun n => n.dV) ++ [dv])) c4 (fun _ => nofun))
    have d1 : upd σ4 B.ld (.list (B.nodes.map (fun n => n.dV) ++ [dv])) B.lo = _ := (upd_ne n14).trans c1
    have d2 : upd σ4 B.ld (.list (B.nodes.map (fun n => n.dV) ++ [dv])) B.la = _ := (upd_ne n24).trans c2
    have d3 : upd σ4 B.ld (.list (B.nodes.map (fun n => n.dV) ++ [dv])) B.ls = _ := (upd_ne n34).trans c3
    have d4 : upd σ4 B.ld (.list (B.nodes.map (fun n => n.dV) ++ [dv])) B.ld = _ := upd_same
    have d5 : upd σ4 B.ld (.list (B.nodes.map (fun n => n.dV) ++ [dv])) B.nb = _ := (upd_ne (Ne.symm n45)).trans c5
    have k5 : ∀ b, b ∉ B.mut → upd σ4 B.ld (.list (B.nodes.map (fun n => n.dV) ++ [dv])) b = σ1 b := fun b hb => (upd_ne fun e => hb (by rw [e]; simp [Bk.mut])).trans (k4 b hb)
    generalize upd σ4 B.ld (.list (B.nodes.map (fun n => n.dV) ++ [dv])) = σ5 at I5 T5 d1 d2 d3 d4 d5 k5
    -- numbers[key] = found
    refine ⟨_, _, _, _, _, rfl, I5, H.g5, by kernel_rfl, _, SISpec.kset d5 (fun x hx => (H1.keys x hx).tsub T5) (K1.tsub T5) (by have := H.len; (first | lia | omega)) hk, ?_⟩
    have T6 := T5.trans (TSub.upd (ob := .kdict (B.ks ++ [(k, kA, .int B.nodes.length)])) d5 (fun _ => nofun))
    refine ⟨_, Sub.refl, hn F kA _ ?_ ?_⟩
    · refine ⟨I5.upd d5 (fun _ _ => nofun) (fun _ => nofun), H.g1, H.g2, H.g3, H.g4, H.g5, H.own, ?_, ?_, ?_, ?_, upd_same, ?_, ?_, ?_, ?_, H.nd⟩
      · exact (upd_ne n15).trans (d1.trans (by simp [Bk.push]))
      · exact (upd_ne n25).trans (d2.trans (by simp [Bk.push]))
      · exact (upd_ne n35).trans (d3.trans (by simp [Bk.push]))
      · exact (upd_ne n45).trans (d4.trans (by simp [Bk.push]))
      · intro m hm
        rcases List.mem_append.mp hm with hm | hm
        · exact ⟨T6 _ _ (H1.node m hm).1, (H1.node m hm).2.tsub T6⟩
        · rw [List.mem_singleton.mp hm]; exact ⟨T6 _ _ (s1 _ _ h1), (h2.sub s1).tsub T6⟩
      · intro x hx
        rcases List.mem_append.mp hx with hx | hx
        · exact (H1.keys x hx).tsub T6
        · rw [List.mem_singleton.mp hx]; exact K1.tsub T6
      · exact fun k' => find_push H.find F H.len k'
      · simp only [Bk.push, List.length_append, List.length_singleton]; have := H.len; (first | lia | omega)
    · intro b ob hb hm
      have hb1 := s1 b ob hb
      rw [← k5 b hm] at hb1
      rw [upd_ne fun e => hm (by rw [e]; simp [Bk.mut])]
      exact hb1
end
end
section
theorem at_isnum : At 230 (inN (topN PW 21) 4) ["self", "s"] := ⟨fun P => ⟨by kernel_rfl, by kernel_rfl, by kernel_rfl, fun a b => by show bindArgs _ _ = _; kernel_rfl⟩, by kernel_rfl, by decide +kernel⟩
theorem at_want : At 356 (inN (topN PW 21) 22) ["self", "t", "s", "where"] := ⟨fun P => ⟨by kernel_rfl, by kernel_rfl, by kernel_rfl, fun a b c d => by show bindArgs _ _ = _; kernel_rfl⟩, by kernel_rfl, by decide +kernel⟩
theorem at_wantall : At 363 (inN (topN PW 21) 23) ["self", "some", "s", "where"] := ⟨fun P => ⟨by kernel_rfl, by kernel_rfl, by kernel_rfl, fun a b c d => by show bindArgs _ _ = _; kernel_rfl⟩, by kernel_rfl, by decide +kernel⟩
theorem at_small : At 515 (topN PW 23) ["value"] := ⟨fun P => ⟨by kernel_rfl, by kernel_rfl, by kernel_rfl, fun a => by show bindArgs _ _ = _; kernel_rfl⟩, by kernel_rfl, by decide +kernel⟩
theorem at_num : At 529 (inN (topN PW 24) 0) ["self", "value", "s"] := ⟨fun P => ⟨by kernel_rfl, by kernel_rfl, by kernel_rfl, fun a b c => by show bindArgs _ _ = _; kernel_rfl⟩, by kernel_rfl, by decide +kernel⟩
theorem at_wantnum : At 536 (inN (topN PW 24) 1) ["self", "t", "where"] := ⟨fun P => ⟨by kernel_rfl, by kernel_rfl, by kernel_rfl, fun a b c => by show bindArgs _ _ = _; kernel_rfl⟩, by kernel_rfl, by decide +kernel⟩
section
variable {n : Nat} {σ : Sg} {Φ : V → Sg → Prop} {B : Bk}
theorem isnum_ok {a : Addr} {s : Int} (h : Φ (.bool (s == 1 || s == 2)) σ) : CallOk (n + 1) 230 [.ref a, .int s] σ Φ := by
  refine CallOk.of TT_ok at_isnum (k := 20) (j := 20) rfl ⟨fun e => ⟨σ, Sub.refl, ?_⟩, fun e => ⟨σ, Sub.refl, ?_⟩⟩
  · have e : (s == 1) = false := e
    rw [e, Bool.false_or] at h; exact h
  · have e : (s == 1) = true := e
    rw [e, Bool.true_or] at h; exact h
theorem want_ok (H : BankAt σ B) {t : Nat} {m : Nn} {s : Int} {wh : Str} (hm : B.nodes[t]? = some m) (hz : B.nodes.length < 2 ^ 62) (hs : m.key.sort = s) (h : Φ .none σ) : CallOk (n + 1) 356 [.ref B.a, .int t, .int s, .str wh] σ Φ := by
  refine CallOk.of TT_ok at_want (k := 20) (j := 20) rfl ⟨_, _, _, _, _, rfl, H.inst, H.g3, by kernel_rfl, _, H.item (α := Nat) H.o3 hm hz, fun e => ?_, fun _ => ⟨σ, Sub.refl, h⟩⟩
  have : (m.key.sort != s) = true := e
  rw [hs] at this
  simp at this
theorem wantall_ok (H : BankAt σ B) {l : Addr} {ts : List Nat} {s : Int} {wh : Str} (hl : σ l = some (.list (ts.map fun (t : Nat) => V.int t)) ∨ σ l = some (.tup (ts.map fun (t : Nat) => V.int t))) (hz : B.nodes.length < 2 ^ 62)
    (hs : ∀ t ∈ ts, ∃ m, B.nodes[t]? = some m ∧ m.key.sort = s) (h : Φ .none σ) : CallOk (n + 2) 363 [.ref B.a, .ref l, .int s, .str wh] σ Φ := by
  have step : ∀ i v, i < (ts.map fun (t : Nat) => V.int t).length → (ts.map fun (t : Nat) => V.int t)[i]? = some v → ∃ (t : Nat) (m : Nn), v = .int t ∧ B.nodes[t]? = some m ∧ m.key.sort = s := fun i v hi hv => by
    rw [List.getElem?_map] at hv
    obtain ⟨t, ht, rfl⟩ := Option.map_eq_some_iff.mp hv
    obtain ⟨m, h1, h2⟩ := hs t (List.mem_of_getElem? ht)
    exact ⟨t, m, rfl, h1, h2⟩
  have src : ∃ need, SrcSpec (.ref l) σ σ (ts.map fun (t : Nat) => V.int t).length (fun i v => (ts.map fun (t : Nat) => V.int t)[i]? = some v) need ∧ need σ := by
    rcases hl with hl | hl
    · exact ⟨_, SrcSpec.list hl, hl⟩
    · exact ⟨_, SrcSpec.tuple hl, hl⟩
  obtain ⟨need, src, hneed⟩ := src
  refine CallOk.of TT_ok at_wantall (k := 20) (j := 20) rfl ?_
  refine ⟨σ, _, _, need, fun i ρ σ' => ρ = binds ["self", "some", "s", "where"] [.ref B.a, .ref l, .int s, .str wh] ∧ σ' = σ, src, ⟨_, σ, RSub.refl, Sub.refl, rfl, rfl⟩, fun i ρ σ' q => by rw [q.2]; exact hneed, ?_, ?_⟩
  · rintro i ρ σ' v hi ⟨rfl, rfl⟩ hv
    obtain ⟨t, m, rfl, hm, hms⟩ := step i v hi hv
    refine .inl ⟨_, _, _, _, 356, rfl, H.inst, H.own _ (by decide +kernel), by kernel_rfl, ?_⟩
    exact want_ok H hm hz hms ⟨_, _, rsub_cons (rsub_cons (rsub_cons (rsub_cons rsub_nil rfl) rfl) rfl) rfl, Sub.refl, rfl, rfl⟩
  · rintro ρ σ' ⟨rfl, rfl⟩
    exact ⟨_, Sub.refl, h⟩
theorem shr_zero {i : Int} {j : Nat} (h0 : 0 ≤ i) (h1 : i < 2 ^ 62) (hj : 62 ≤ j) : Int.fdiv i (2 ^ j) = 0 := by
  have h2 : (2 : Int) ^ 62 ≤ 2 ^ j := by
    have := Nat.pow_le_pow_right (n := 2) (by decide) hj
    exact_mod_cast this
  have h3 : i < 2 ^ j := Int.lt_of_lt_of_le h1 h2
  generalize (2 : Int) ^ j = m at h3
  rw [Int.fdiv_eq_ediv_of_nonneg _ (by (first | lia | omega))]
  exact Int.ediv_eq_zero_of_lt h0 h3
theorem small_ok {x : Addr} {p q : Int} (ex : σ x = some (.tup [.int p, .int q])) (h1 : p.natAbs < 2 ^ 62) (h2 : 0 ≤ q) (h3 : q < 2 ^ 62) (h : Φ .none σ) : CallOk (n + 1) 515 [.ref x] σ Φ := by
  have e1 : Int.fdiv (p.natAbs : Int) (2 ^ (65536 : Int).toNat) = 0 := shr_zero (by (first | lia | omega)) (by (first | lia | omega)) (by decide)
  have e2 : Int.fdiv q (2 ^ (65536 : Int).toNat) = 0 := shr_zero h2 h3 (by decide)
  refine CallOk.of TT_ok at_small (k := 20) (j := 20) rfl ?_
  refine ⟨_, i0 ex, BSpec.abs ⟨by decide, ?_⟩⟩
  rw [e1]
  refine ⟨fun e => (by cases e), fun _ => ⟨_, i1 ex, by decide, ?_⟩⟩
  rw [e2]
  exact ⟨fun e => (by cases e), fun _ => ⟨fun e => (by cases e), fun _ => ⟨_, Sub.refl, h⟩⟩⟩
theorem wantnum_ok (H : BankAt σ B) {t : Nat} {m : Nn} {wh : Str} (hm : B.nodes[t]? = some m) (hz : B.nodes.length < 2 ^ 62) (hs : m.key.sort = 1 ∨ m.key.sort = 2) (h : Φ .none σ) : CallOk (n + 2) 536 [.ref B.a, .int t, .str wh] σ Φ := by
  refine CallOk.of TT_ok at_wantnum (k := 20) (j := 20) rfl ?_
  refine .inl ⟨_, _, _, _, 230, rfl, H.inst, H.own _ (by decide +kernel), by kernel_rfl, ?_⟩
  refine ⟨_, _, _, _, _, rfl, H.inst, H.g3, by kernel_rfl, _, H.item (α := Nat) H.o3 hm hz, ?_⟩
  refine isnum_ok ⟨fun e => ?_, fun _ => ⟨_, Sub.refl, h⟩⟩
  rcases hs with hs | hs <;> rw [hs] at e <;> cases e
end
end
section
section
variable {n : Nat} {σ : Sg} {Φ : V → Sg → Prop} {B : Bk}
theorem TSpec.tupT {a : Addr} {vs : List V} (e : σ a = some (.tup vs)) (h : Φ (.ref a) σ) : TSpec "tuple" [.ref a] σ Φ := by
  intro c n S ρ us ok _ hv fr h' tk R
  obtain ⟨u, rfl, i1⟩ := hv.one
  obtain rfl : u = .ref a := i1
  obtain ⟨o, hg, ⟨ws, m, rfl, hvs⟩, _⟩ := R.obj ok e
  exact call_tuple_tup (s := c.sh h' tk) ⟨_, hg, rfl, m, rfl⟩ ⟨.ref a, σ, h', tk, rfl, R, rfl, h⟩
theorem TSpec.tupL {a : Addr} {vs : List V} (e : σ a = some (.list vs)) (hz : vs.length ≤ sizeLine) (h : ∀ b, σ b = none → Φ (.ref b) (upd σ b (.tup vs))) : TSpec "tuple" [.ref a] σ Φ := by
  intro c n S ρ us ok _ hv fr h' tk R
  obtain ⟨u, rfl, i1⟩ := hv.one
  obtain rfl : u = .ref a := i1
  obtain ⟨o, hg, ⟨ws, m, rfl, hvs⟩, _⟩ := R.obj ok e
  have hl : h'.IsList a ws.toArray := ⟨_, hg, rfl, m, rfl⟩
  refine call_tuple_list (s := c.sh h' tk) hl (fun h1 hk => ?_) (by rw [List.size_toArray, hvs.length]; exact hz)
  have R1 := R.keep hk
  have ha := R1.alloc ok (o := { cls := .type "tuple", data := .seq ws.toArray }) (ob := .tup vs) ⟨ws, 0, rfl, hvs⟩ rfl
  exact ⟨.ref h1.objs.size, _, _, tk, rfl, ha, rfl, h _ (R1.fresh ok)⟩
/-- the outcomes of a making -/
noncomputable def Made (B : Bk) (σ : Sg) (k : Nd) (Φ : V → Sg → Prop) : Prop :=
  (∀ i : Nat, 0 < i → (B.nodes[i]?.map (·.key)) = some k → Φ (.int i) σ) ∧
  ((∀ i : Nat, 0 < i → (B.nodes[i]?.map (·.key)) ≠ some k) → ∀ ta dv kA σ', BankAt σ' (B.push k ta dv kA) → Keeps B σ σ' → Φ (.int B.nodes.length) σ')
theorem Keeps.after {σ σ1 σ' : Sg} (s : Sub σ σ1) (K : Keeps B σ1 σ') : Keeps B σ σ' := fun a ob h hm => K a ob (s a ob h) hm
theorem made_ok (H : BankAt σ B) (hz : B.nodes.length < 2 ^ 20) (k : Nd) (wf : k.WF) {σ1 : Sg} (s : Sub σ σ1) {ta : Addr} {dv : V} (h1 : σ1 ta = some (.tup (k.args.map .int))) (h2 : DataHere σ1 k.data dv)
    {Ψ : V → Sg → Prop} (h : Made B σ k Φ) (hi : ∀ v σ', Φ v σ' → Ψ v σ') (hs : ∀ v, Φ v σ → Ψ v σ1) : CallOk (n + 1) 335 [.ref B.a, .str k.op, .ref ta, .int k.sort, dv] σ1 Ψ :=
  make_ok (H.sub s) hz k wf h1 h2 (fun i hi' hm => hs _ (h.1 i hi' hm)) (fun hno kA σ' H' K => hi _ _ (h.2 hno ta dv kA σ' H' (K.after s)))
theorem num_ok (H : BankAt σ B) (hz : B.nodes.length < 2 ^ 20) {x : Addr} {p q s : Int} (ex : σ x = some (.tup [.int p, .int q])) (hs : s = 1 ∨ s = 2) (hq : s = 1 → q = 1) (h1 : p.natAbs < 2 ^ 62) (h2 : 0 ≤ q) (h3 : q < 2 ^ 62)
    (h : Made B σ ⟨"num", [], s, .inr (p, q)⟩ Φ) : CallOk (n + 2) 529 [.ref B.a, .ref x, .int s] σ Φ := by
  refine CallOk.of TT_ok at_num (k := 20) (j := 20) rfl ?_
  refine .inl ⟨_, _, _, _, 230, rfl, H.inst, H.own _ (by decide +kernel), by kernel_rfl, isnum_ok ⟨fun e => ?_, fun _ => ?_⟩⟩
  · rcases hs with rfl | rfl <;> cases e
  have fin : wS TT (fScope (inN (topN PW 24) 0)) (n + 1) (wk TT (fScope (inN (topN PW 24) 0)) (n + 1) 20) 18 ((fBody (inN (topN PW 24) 0)).drop 2) (binds ["self", "value", "s"] [.ref B.a, .ref x, .int s]) σ (fun fl _ σ' => match fl with | .ret v => SubQ (Φ v) σ' | .next => SubQ (Φ .none) σ' | _ => False) := by
    refine small_ok ex h1 h2 h3 ?_
    refine .inl ⟨_, _, _, _, 335, rfl, H.inst, H.own _ (by decide +kernel), by kernel_rfl, Nat.le_of_ble_eq_true rfl, fun ta hta => ?_⟩
    exact made_ok H hz ⟨"num", [], s, .inr (p, q)⟩ ⟨fun _ => rfl, fun _ => rfl⟩ (Sub.upd hta) upd_same ⟨x, rfl, Sub.upd hta _ _ ex⟩ h (fun v σ' q => ⟨σ', Sub.refl, q⟩) (fun v q => ⟨σ, Sub.upd hta, q⟩)
  refine ⟨fun e => ?_, fun e => ⟨fun q => (by cases q), fun _ => fin⟩⟩
  have e : s = 1 := by simpa using e
  refine whole_ok ex ⟨fun e2 => ?_, fun _ => ⟨fun q => (by cases q), fun _ => fin⟩⟩
  have : (!(q == 1)) = true := e2
  rw [hq e] at this
  cases this
end
end
section
theorem at_plus : At 543 (inN (topN PW 24) 2) ["self", "some"] := ⟨fun P => ⟨by kernel_rfl, by kernel_rfl, by kernel_rfl, fun a b => by show bindArgs _ _ = _; kernel_rfl⟩, by kernel_rfl, by decide +kernel⟩
theorem at_timesnum : At 550 (inN (topN PW 24) 3) ["self", "value", "t"] := ⟨fun P => ⟨by kernel_rfl, by kernel_rfl, by kernel_rfl, fun a b c => by show bindArgs _ _ = _; kernel_rfl⟩, by kernel_rfl, by decide +kernel⟩
theorem at_negative : At 571 (inN (topN PW 24) 6) ["self", "t"] := ⟨fun P => ⟨by kernel_rfl, by kernel_rfl, by kernel_rfl, fun a b => by show bindArgs _ _ = _; kernel_rfl⟩, by kernel_rfl, by decide +kernel⟩
theorem at_minus : At 578 (inN (topN PW 24) 7) ["self", "a", "b"] := ⟨fun P => ⟨by kernel_rfl, by kernel_rfl, by kernel_rfl, fun a b c => by show bindArgs _ _ = _; kernel_rfl⟩, by kernel_rfl, by decide +kernel⟩
/-- a tuple or a list -/
noncomputable def SeqOf (σ : Sg) (l : Addr) (vs : List V) : Prop := σ l = some (.list vs) ∨ σ l = some (.tup vs)
section
variable {n : Nat} {σ : Sg} {Φ : V → Sg → Prop} {B : Bk}
theorem SeqOf.len {l : Addr} {vs : List V} (h : SeqOf σ l vs) (hz : vs.length ≤ 16384) (q : Φ (.int vs.length) σ) : BSpec "len" [.ref l] σ Φ := by
  rcases h with h | h
  · exact BSpec.lenL h (by (first | lia | omega)) q
  · exact BSpec.lenT h (by (first | lia | omega)) q
theorem SeqOf.head {l : Addr} {v : V} {vs : List V} (h : SeqOf σ l (v :: vs)) : ISpec σ (.ref l) (.int 0) v := by
  rcases h with h | h
  · exact ISpec.list h (by decide) (by decide) rfl
  · exact ISpec.tup h (by decide) (by decide) (j := 0) (by simp [seqIndex?]) rfl
theorem SeqOf.tuple {l : Addr} {vs : List V} (h : SeqOf σ l vs) (hz : vs.length ≤ 16384) (q : ∀ b σ', Sub σ σ' → σ' b = some (.tup vs) → Φ (.ref b) σ') : TSpec "tuple" [.ref l] σ Φ := by
  rcases h with h | h
  · exact TSpec.tupL h (by have : 16384 ≤ sizeLine := Nat.le_of_ble_eq_true rfl; (first | lia | omega)) fun b hb => q b _ (Sub.upd hb) upd_same
  · exact TSpec.tupT h (q l σ Sub.refl h)
theorem SeqOf.sub {σ' : Sg} {l : Addr} {vs : List V} (h : SeqOf σ l vs) (s : Sub σ σ') : SeqOf σ' l vs := h.imp (s _ _) (s _ _)
theorem wf_inl {op : Str} {as : List Int} {s i : Int} (h : op ≠ "num") : (Nd.mk op as s (.inl i)).WF := ⟨fun e => (by cases e), fun e => absurd e h⟩
theorem plus_ok (H : BankAt σ B) (hz : B.nodes.length < 2 ^ 20) {l : Addr} {t0 : Nat} {ts : List Nat} {s : Int} (hl : SeqOf σ l ((t0 :: ts).map fun (t : Nat) => V.int t)) (hlen : 1 ≤ ts.length ∧ ts.length ≤ 100)
    (hs : s = 1 ∨ s = 2) (hn : ∀ t ∈ t0 :: ts, ∃ m, B.nodes[t]? = some m ∧ m.key.sort = s)
    (h : Made B σ ⟨"+", (t0 :: ts).map fun (t : Nat) => (t : Int), s, .inl 0⟩ Φ) : CallOk (n + 3) 543 [.ref B.a, .ref l] σ Φ := by
  obtain ⟨m, hm, hms⟩ := hn t0 (.head _)
  have hlen' : ((t0 :: ts).map fun (t : Nat) => V.int t).length = ts.length + 1 := by simp
  have it0 : ISpec σ (.ref l) (.int 0) (.int t0) := SeqOf.head hl
  have srt : ISpec σ (.ref B.ls) (.int t0) (.int s) := by have q := H.item (α := Nat) H.o3 hm (by (first | lia | omega)); rw [show m.key.sort = s from hms] at q; exact q
  refine CallOk.of TT_ok at_plus (k := 20) (j := 20) rfl ?_
  refine hl.len (by (first | lia | omega)) ⟨fun e => ?_, fun _ => ?_⟩
  · rw [hlen'] at e
    have : ((ts.length + 1 : Nat) : Int) = 0 := by simpa using e
    (first | lia | omega)
  refine .inl ⟨_, _, _, _, 536, rfl, H.inst, H.own _ (by decide +kernel), by kernel_rfl, _, it0, ?_⟩
  refine wantnum_ok H hm (by (first | lia | omega)) (by rw [hms]; exact hs) ?_
  refine .inl ⟨_, _, _, _, 363, rfl, H.inst, H.own _ (by decide +kernel), by kernel_rfl, _, _, _, _, _, rfl, H.inst, H.g3, by kernel_rfl, _, it0, _, srt, ?_⟩
  refine wantall_ok (ts := t0 :: ts) H hl (by (first | lia | omega)) hn ?_
  refine hl.len (by (first | lia | omega)) ⟨fun e => ?_, fun _ => ?_⟩
  · rw [hlen'] at e
    have : ((ts.length + 1 : Nat) : Int) = 1 := by simpa using e
    (first | lia | omega)
  refine .inl ⟨_, _, _, _, 335, rfl, H.inst, H.own _ (by decide +kernel), by kernel_rfl, hl.tuple (by (first | lia | omega)) fun ta σ1 s1 hta => ?_⟩
  have H1 := H.sub s1
  have srt1 : ISpec σ1 (.ref B.ls) (.int t0) (.int s) := by have q := H1.item (α := Nat) H1.o3 hm (by (first | lia | omega)); rw [show m.key.sort = s from hms] at q; exact q
  refine ⟨_, _, _, _, _, rfl, H1.inst, H.g3, by kernel_rfl, _, (hl.sub s1).head, _, srt1, ?_⟩
  have hta' : σ1 ta = some (.tup (((t0 :: ts).map fun (t : Nat) => (t : Int)).map .int)) := by rw [hta]; simp
  exact made_ok H hz ⟨"+", (t0 :: ts).map fun (t : Nat) => (t : Int), s, .inl 0⟩ (wf_inl (by decide +kernel)) s1 hta' rfl h (fun v σ' q => ⟨σ', Sub.refl, q⟩) (fun v q => ⟨σ, s1, q⟩)
end
end
section
/-- a bank that has grown -/
structure Ext (B B' : Bk) : Prop where
  a : B'.a = B.a
  mt : B'.mut = B.mut
  pre : B.nodes <+: B'.nodes
  kv : B'.kvs = B.kvs
theorem Ext.refl {B : Bk} : Ext B B := ⟨rfl, rfl, List.prefix_refl _, rfl⟩
theorem Ext.trans {B B' B'' : Bk} (h : Ext B B') (h' : Ext B' B'') : Ext B B'' := ⟨h'.a.trans h.a, h'.mt.trans h.mt, h.pre.trans h'.pre, h'.kv.trans h.kv⟩
theorem Ext.get {B B' : Bk} (h : Ext B B') {t : Nat} {m : Nn} (hm : B.nodes[t]? = some m) : B'.nodes[t]? = some m := by
  obtain ⟨l, e⟩ := h.pre
  rw [← e, List.getElem?_append_left (List.getElem?_eq_some_iff.mp hm).1]; exact hm
theorem Keeps.refl {B : Bk} {σ : Sg} : Keeps B σ σ := fun _ _ h _ => h
theorem Keeps.trans {B B' : Bk} {σ σ' σ'' : Sg} (h : Keeps B σ σ') (x : Ext B B') (h' : Keeps B' σ' σ'') : Keeps B σ σ'' := fun a ob e hm => h' a ob (h a ob e hm) (by rw [x.mt]; exact hm)
/-- the bank has grown by a node with the key k, or had one -/
structure Grow (B B' : Bk) (k : Nd) (t : Nat) : Prop where
  ext : Ext B B'
  ks : (B'.nodes.map (·.key) = B.nodes.map (·.key)) ∨ ((∀ i : Nat, 0 < i → (B.nodes[i]?.map (·.key)) ≠ some k) ∧ t = B.nodes.length ∧ B'.nodes.map (·.key) = B.nodes.map (·.key) ++ [k])
  pos : 0 < t
  at_ : (B'.nodes[t]?.map (·.key)) = some k
theorem Grow.len {B B' : Bk} {k : Nd} {t : Nat} (g : Grow B B' k t) : B'.nodes.length ≤ B.nodes.length + 1 := by
  rcases g.ks with e | ⟨_, _, e⟩ <;> have := congrArg List.length e <;> simp at this <;> (first | lia | omega)
/-- a node with the key k is had -/
noncomputable def Got (B : Bk) (σ : Sg) (k : Nd) (Φ : V → Sg → Prop) : Prop :=
  ∀ B' σ' (t : Nat), BankAt σ' B' → Grow B B' k t → Keeps B σ σ' → Φ (.int t) σ'
section
variable {n : Nat} {σ : Sg} {Φ : V → Sg → Prop} {B : Bk}
theorem Got.made {k : Nd} (H : BankAt σ B) (h : Got B σ k Φ) : Made B σ k Φ := by
  refine ⟨fun i hi hm => h B σ i H ⟨.refl, .inl rfl, hi, hm⟩ .refl, fun hno ta dv kA σ' H' K => h _ σ' _ H' ⟨⟨rfl, rfl, List.prefix_append _ _, rfl⟩, .inr ⟨hno, rfl, by simp [Bk.push]⟩, ?_, ?_⟩ K⟩
  · have := H.len; (first | lia | omega)
  · show (((B.nodes ++ [⟨k, ta, dv⟩])[B.nodes.length]?).map _) = _
    rw [List.getElem?_append_right (Nat.le_refl _), Nat.sub_self]; rfl
theorem timesnum_ok (H : BankAt σ B) (hz : B.nodes.length + 2 < 2 ^ 20) {x : Addr} {p q s : Int} {t : Nat} {m : Nn} (ex : σ x = some (.tup [.int p, .int q])) (hm : B.nodes[t]? = some m) (hms : m.key.sort = s) (hs : s = 1 ∨ s = 2)
    (h1 : m.key.op = "num" → ∃ c d, m.key.data = .inr (c, d) ∧ ∀ y, σ y = some (.tup [.int c, .int d]) → CallOk (n + 3) 118 [.ref x, .ref y] σ fun v σ' => ∃ r, v = .ref r ∧ CallOk (n + 3) 529 [.ref B.a, .ref r, .int s] σ' Φ)
    (h2 : m.key.op ≠ "num" → p = 1 → q = 1 → Φ (.int t) σ)
    (h3 : m.key.op ≠ "num" → ¬ (p = 1 ∧ q = 1) → (s = 1 → q = 1) ∧ p.natAbs < 2 ^ 62 ∧ 0 ≤ q ∧ q < 2 ^ 62 ∧
      ∀ B1 σ1 (c : Nat), BankAt σ1 B1 → Grow B B1 ⟨"num", [], s, .inr (p, q)⟩ c → Keeps B σ σ1 → Got B1 σ1 ⟨"*", [(c : Int), (t : Int)], s, .inl 0⟩ Φ) :
    CallOk (n + 4) 550 [.ref B.a, .ref x, .int t] σ Φ := by
  have srt : ISpec σ (.ref B.ls) (.int t) (.int s) := by have q := H.item (α := Nat) H.o3 hm (by (first | lia | omega)); rw [show m.key.sort = s from hms] at q; exact q
  refine CallOk.of TT_ok at_timesnum (k := 20) (j := 20) rfl ?_
  refine .inl ⟨_, _, _, _, 536, rfl, H.inst, H.own _ (by decide +kernel), by kernel_rfl, wantnum_ok H hm (by (first | lia | omega)) (by rw [hms]; exact hs) ?_⟩
  refine ⟨_, _, _, _, _, rfl, H.inst, H.g3, by kernel_rfl, _, srt, ?_⟩
  refine ⟨_, _, _, _, _, rfl, H.inst, H.g1, by kernel_rfl, _, H.item (α := Nat) H.o1 hm (by (first | lia | omega)), fun e => ?_, fun e => ?_⟩
  · have e : m.key.op = "num" := by simpa using e
    obtain ⟨c, d, hd, h1⟩ := h1 e
    have hn := (H.node m (List.mem_of_getElem? hm)).2
    rw [hd] at hn
    obtain ⟨y, hy, ey⟩ := hn
    have dat : ISpec σ (.ref B.ld) (.int t) (.ref y) := by have q := H.item (α := Nat) H.o4 hm (by (first | lia | omega)); rw [show m.dV = _ from hy] at q; exact q
    refine .inl ⟨_, _, _, _, 529, rfl, H.inst, H.own _ (by decide +kernel), by kernel_rfl, ?_⟩
    refine ⟨_, _, _, _, _, rfl, H.inst, H.g4, by kernel_rfl, _, dat, ?_⟩
    refine (h1 y ey).mono fun v σ' q => ?_
    obtain ⟨r, rfl, q⟩ := q
    exact q.mono fun v σ' z => ⟨σ', Sub.refl, z⟩
  · have e : m.key.op ≠ "num" := by simpa using e
    refine ⟨Nat.le_of_ble_eq_true rfl, fun o ho => ?_⟩
    have so : Sub σ (upd σ o (.tup [.int 1, .int 1])) := Sub.upd ho
    have H1 := H.sub so
    refine ⟨_, CSpec.eqP (so _ _ ex) upd_same, fun q => ?_, fun q => ?_⟩
    · have q := of_decide_eq_true q
      exact ⟨σ, so, h2 e q.1 q.2⟩
    · have q := of_decide_eq_false q
      obtain ⟨g1, g2, g3, g4, g5⟩ := h3 e q
      refine .inl ⟨_, _, _, _, 335, rfl, H1.inst, H1.own _ (by decide +kernel), by kernel_rfl, ?_⟩
      refine .inl ⟨_, _, _, _, 529, rfl, H1.inst, H1.own _ (by decide +kernel), by kernel_rfl, ?_⟩
      refine num_ok H1 (by (first | lia | omega)) (so _ _ ex) hs g1 g2 g3 g4 (Got.made H1 fun B1 σ1 c HB X K => ?_)
      refine ⟨Nat.le_of_ble_eq_true rfl, fun ta hta => ?_⟩
      have s1 : Sub σ1 (upd σ1 ta (.tup [.int c, .int t])) := Sub.upd hta
      have K0 : Keeps B σ σ1 := fun b ob hb hm => K b ob (so b ob hb) hm
      have G := g5 B1 σ1 c HB X K0
      have e1 : B1.a = B.a := X.ext.a
      have hl := X.len
      have := made_ok (n := n + 2) HB (by (first | lia | omega)) ⟨"*", [(c : Int), (t : Int)], s, .inl 0⟩ (wf_inl (by decide +kernel)) s1 upd_same rfl (Got.made HB G) (Ψ := fun v σ' => SubQ (Φ v) σ') (fun v σ' q => ⟨σ', Sub.refl, q⟩) (fun v q => ⟨σ1, s1, q⟩)
      rw [e1] at this
      exact this
end
end
section
theorem at_ite : At 475 (inN (topN PW 22) 8) ["self", "c", "a", "b"] := ⟨fun P => ⟨by kernel_rfl, by kernel_rfl, by kernel_rfl, fun a b c d => by show bindArgs _ _ = _; kernel_rfl⟩, by kernel_rfl, by decide +kernel⟩
theorem at_declare : At 244 (inN (topN PW 21) 6) ["self", "name", "arg_sorts", "result"] := ⟨fun P => ⟨by kernel_rfl, by kernel_rfl, by kernel_rfl, fun a b c d => by show bindArgs _ _ = _; kernel_rfl⟩, by kernel_rfl, by decide +kernel⟩
theorem at_fresh : At 258 (inN (topN PW 21) 8) ["self", "name", "s"] := ⟨fun P => ⟨by kernel_rfl, by kernel_rfl, by kernel_rfl, fun a b c => by show bindArgs _ _ = _; kernel_rfl⟩, by kernel_rfl, by decide +kernel⟩
section
variable {n : Nat} {σ : Sg} {Φ : V → Sg → Prop} {B : Bk}
theorem negative_ok (H : BankAt σ B) {t : Nat} (h : ∀ x σ0, Sub σ σ0 → σ0 x = some (.tup [.int (-1), .int 1]) → CallOk (n + 4) 550 [.ref B.a, .ref x, .int t] σ0 Φ) : CallOk (n + 5) 571 [.ref B.a, .int t] σ Φ := by
  refine CallOk.of TT_ok at_negative (k := 20) (j := 20) rfl ?_
  refine .inl ⟨_, _, _, _, 550, rfl, H.inst, H.own _ (by decide +kernel), by kernel_rfl, Nat.le_of_ble_eq_true rfl, fun x hx => ?_⟩
  exact (h x _ (Sub.upd hx) upd_same).mono fun v σ' q => ⟨σ', Sub.refl, q⟩
theorem minus_ok (H : BankAt σ B) (hz : B.nodes.length < 2 ^ 20) {a b : Nat} {ma mb : Nn} {s : Int} (ha : B.nodes[a]? = some ma) (hb : B.nodes[b]? = some mb) (hma : ma.key.sort = s) (hmb : mb.key.sort = s) (hs : s = 1 ∨ s = 2)
    (h : CallOk (n + 5) 571 [.ref B.a, .int b] σ fun v σ1 => ∀ l, σ1 l = none → CallOk (n + 5) 543 [.ref B.a, .ref l] (upd σ1 l (.list [.int a, v])) Φ) : CallOk (n + 6) 578 [.ref B.a, .int a, .int b] σ Φ := by
  have srt : ISpec σ (.ref B.ls) (.int a) (.int s) := by have q := H.item (α := Nat) H.o3 ha (by (first | lia | omega)); rw [show ma.key.sort = s from hma] at q; exact q
  refine CallOk.of TT_ok at_minus (k := 20) (j := 20) rfl ?_
  refine .inl ⟨_, _, _, _, 536, rfl, H.inst, H.own _ (by decide +kernel), by kernel_rfl, wantnum_ok H ha (by (first | lia | omega)) (by rw [hma]; exact hs) ?_⟩
  refine .inl ⟨_, _, _, _, 356, rfl, H.inst, H.own _ (by decide +kernel), by kernel_rfl, _, _, _, _, _, rfl, H.inst, H.g3, by kernel_rfl, _, srt, want_ok H hb (by (first | lia | omega)) hmb ?_⟩
  refine .inl ⟨_, _, _, _, 543, rfl, H.inst, H.own _ (by decide +kernel), by kernel_rfl, ?_⟩
  refine .inl ⟨_, _, _, _, 571, rfl, H.inst, H.own _ (by decide +kernel), by kernel_rfl, h.mono fun v σ1 q => ?_⟩
  exact ⟨Nat.le_of_ble_eq_true rfl, fun l hl => (q l hl).mono fun v σ' z => ⟨σ', Sub.refl, z⟩⟩
theorem ite_ok (H : BankAt σ B) (hz : B.nodes.length < 2 ^ 20) {c a b : Nat} {mc ma mb : Nn} {s : Int} (hc : B.nodes[c]? = some mc) (ha : B.nodes[a]? = some ma) (hb : B.nodes[b]? = some mb) (hmc : mc.key.sort = 0) (hma : ma.key.sort = s) (hmb : mb.key.sort = s)
    (h : Got B σ ⟨"ite", [(c : Int), (a : Int), (b : Int)], s, .inl 0⟩ Φ) : CallOk (n + 2) 475 [.ref B.a, .int c, .int a, .int b] σ Φ := by
  have srt : ∀ {σ1 : Sg}, BankAt σ1 B → ISpec σ1 (.ref B.ls) (.int a) (.int s) := fun H => by have q := H.item (α := Nat) H.o3 ha (by (first | lia | omega)); rw [show ma.key.sort = s from hma] at q; exact q
  refine CallOk.of TT_ok at_ite (k := 20) (j := 20) rfl ?_
  refine .inl ⟨_, _, _, _, 356, rfl, H.inst, H.own _ (by decide +kernel), by kernel_rfl, want_ok H hc (by (first | lia | omega)) hmc ?_⟩
  refine .inl ⟨_, _, _, _, 356, rfl, H.inst, H.own _ (by decide +kernel), by kernel_rfl, _, _, _, _, _, rfl, H.inst, H.g3, by kernel_rfl, _, srt H, want_ok H hb (by (first | lia | omega)) hmb ?_⟩
  refine .inl ⟨_, _, _, _, 335, rfl, H.inst, H.own _ (by decide +kernel), by kernel_rfl, Nat.le_of_ble_eq_true rfl, fun ta hta => ?_⟩
  have s1 : Sub σ (upd σ ta (.tup [.int c, .int a, .int b])) := Sub.upd hta
  have H1 := H.sub s1
  refine ⟨_, _, _, _, _, rfl, H1.inst, H1.g3, by kernel_rfl, _, srt H1, ?_⟩
  exact made_ok H hz ⟨"ite", [(c : Int), (a : Int), (b : Int)], s, .inl 0⟩ (wf_inl (by decide +kernel)) s1 upd_same rfl (Got.made H h) (fun v σ' q => ⟨σ', Sub.refl, q⟩) (fun v q => ⟨σ, s1, q⟩)
end
end
section
/-! ## the bank's functions -/
structure Fu where
  fn : Addr
  fa : Addr
  fr : Addr
  names : List V
  args : List V
  res : List V
structure FunAt (σ : Sg) (B : Bk) (F : Fu) : Prop where
  g1 : dget B.kvs "fun_names" = some (.ref F.fn)
  g2 : dget B.kvs "fun_args" = some (.ref F.fa)
  g3 : dget B.kvs "fun_results" = some (.ref F.fr)
  o1 : σ F.fn = some (.list F.names)
  o2 : σ F.fa = some (.list F.args)
  o3 : σ F.fr = some (.list F.res)
  nd : (F.fn :: F.fa :: F.fr :: B.mut).Nodup
noncomputable def Fu.push (F : Fu) (nm a r : V) : Fu := { F with names := F.names ++ [nm], args := F.args ++ [a], res := F.res ++ [r] }
theorem BankAt.upd {σ : Sg} {B : Bk} (H : BankAt σ B) {b : Addr} {vs : List V} {ob : Ob} (e : σ b = some (.list vs)) (hm : b ∉ B.mut) : BankAt (Mine.upd σ b ob) B := by
  have T : TSub σ (Mine.upd σ b ob) := TSub.upd e fun _ => nofun
  simp only [Bk.mut, List.mem_cons, List.not_mem_nil, or_false, not_or] at hm
  obtain ⟨h1, h2, h3, h4, h5⟩ := hm
  exact {
    inst := H.inst.upd e (fun _ _ => nofun) (fun _ => nofun), g1 := H.g1, g2 := H.g2, g3 := H.g3, g4 := H.g4, g5 := H.g5, own := H.own
    o1 := (upd_ne (Ne.symm h1)).trans H.o1, o2 := (upd_ne (Ne.symm h2)).trans H.o2, o3 := (upd_ne (Ne.symm h3)).trans H.o3, o4 := (upd_ne (Ne.symm h4)).trans H.o4, o5 := (upd_ne (Ne.symm h5)).trans H.o5
    node := fun n hn => ⟨T _ _ (H.node n hn).1, (H.node n hn).2.tsub T⟩
    keys := fun x hx => (H.keys x hx).tsub T
    find := H.find, len := H.len, nd := H.nd }
section
variable {n : Nat} {σ : Sg} {Φ : V → Sg → Prop} {B : Bk} {F : Fu}
theorem declare_ok (H : BankAt σ B) (G : FunAt σ B F) (hl : F.names.length ≤ 100 ∧ F.args.length ≤ 100 ∧ F.res.length ≤ 100) {nm : Str} {t : Addr} {vs : List V} {r : V} (ht : σ t = some (.tup vs))
    (h : ∀ σ', BankAt σ' B → FunAt σ' B (F.push (.str nm) (.ref t) r) → (∀ a ob, σ a = some ob → a ∉ [F.fn, F.fa, F.fr] → σ' a = some ob) → Φ (.int F.names.length) σ') : CallOk (n + 1) 244 [.ref B.a, .str nm, .ref t, r] σ Φ := by
  have big : 100 ≤ sizeLine := Nat.le_of_ble_eq_true rfl
  have N := G.nd
  simp only [List.nodup_cons, List.mem_cons, not_or] at N
  obtain ⟨⟨n12, n13, m1⟩, ⟨n23, m2⟩, m3, _⟩ := N
  refine CallOk.of TT_ok at_declare (k := 20) (j := 20) rfl ?_
  refine ⟨_, _, _, _, _, rfl, H.inst, G.g1, by kernel_rfl, .inr ⟨_, MSpec.append G.o1, BSpec.append G.o1 (by (first | lia | omega)) ?_⟩⟩
  have H2 := H.upd (ob := .list (F.names ++ [.str nm])) G.o1 m1
  have a1 : upd σ F.fn (.list (F.names ++ [.str nm])) F.fn = _ := upd_same
  have a2 : upd σ F.fn (.list (F.names ++ [.str nm])) F.fa = _ := (upd_ne (Ne.symm n12)).trans G.o2
  have a3 : upd σ F.fn (.list (F.names ++ [.str nm])) F.fr = _ := (upd_ne (Ne.symm n13)).trans G.o3
  have at' : upd σ F.fn (.list (F.names ++ [.str nm])) t = _ := (upd_ne (ne_of ht G.o1 nofun)).trans ht
  have k2 : ∀ b, b ∉ [F.fn, F.fa, F.fr] → upd σ F.fn (.list (F.names ++ [.str nm])) b = σ b := fun b hb => upd_ne fun e => hb (by rw [e]; simp)
  generalize upd σ F.fn (.list (F.names ++ [.str nm])) = σ2 at H2 a1 a2 a3 at' k2
  refine ⟨_, _, _, _, _, rfl, H2.inst, G.g2, by kernel_rfl, .inr ⟨_, MSpec.append a2, TSpec.tupT at' (BSpec.append a2 (by (first | lia | omega)) ?_)⟩⟩
  have H3 := H2.upd (ob := .list (F.args ++ [.ref t])) a2 m2
  have b1 : upd σ2 F.fa (.list (F.args ++ [.ref t])) F.fn = _ := (upd_ne n12).trans a1
  have b2 : upd σ2 F.fa (.list (F.args ++ [.ref t])) F.fa = _ := upd_same
  have b3 : upd σ2 F.fa (.list (F.args ++ [.ref t])) F.fr = _ := (upd_ne (Ne.symm n23)).trans a3
  have k3 : ∀ b, b ∉ [F.fn, F.fa, F.fr] → upd σ2 F.fa (.list (F.args ++ [.ref t])) b = σ b := fun b hb => (upd_ne fun e => hb (by rw [e]; simp)).trans (k2 b hb)
  generalize upd σ2 F.fa (.list (F.args ++ [.ref t])) = σ3 at H3 b1 b2 b3 k3
  refine ⟨_, _, _, _, _, rfl, H3.inst, G.g3, by kernel_rfl, .inr ⟨_, MSpec.append b3, BSpec.append b3 (by (first | lia | omega)) ?_⟩⟩
  have H4 := H3.upd (ob := .list (F.res ++ [r])) b3 m3
  have c1 : upd σ3 F.fr (.list (F.res ++ [r])) F.fn = _ := (upd_ne n13).trans b1
  have c2 : upd σ3 F.fr (.list (F.res ++ [r])) F.fa = _ := (upd_ne n23).trans b2
  have c3 : upd σ3 F.fr (.list (F.res ++ [r])) F.fr = _ := upd_same
  have k4 : ∀ b, b ∉ [F.fn, F.fa, F.fr] → upd σ3 F.fr (.list (F.res ++ [r])) b = σ b := fun b hb => (upd_ne fun e => hb (by rw [e]; simp)).trans (k3 b hb)
  generalize upd σ3 F.fr (.list (F.res ++ [r])) = σ4 at H4 c1 c2 c3 k4
  have e : ((F.names ++ [V.str nm]).length : Int) - 1 = F.names.length := by simp
  refine ⟨_, _, _, _, _, rfl, H4.inst, G.g1, by kernel_rfl, BSpec.lenL c1 (by simp; (first | lia | omega)) ⟨σ4, Sub.refl, ?_⟩⟩
  rw [e]
  exact h σ4 H4 ⟨G.g1, G.g2, G.g3, c1, c2, c3, G.nd⟩ fun a ob ha hm => (k4 a hm).trans ha
end
end
section
section
variable {n : Nat} {σ : Sg} {Φ : V → Sg → Prop} {B : Bk} {F : Fu}
theorem FunAt.sub {σ' : Sg} (s : Sub σ σ') (G : FunAt σ B F) : FunAt σ' B F := ⟨G.g1, G.g2, G.g3, s _ _ G.o1, s _ _ G.o2, s _ _ G.o3, G.nd⟩
theorem fresh_ok (H : BankAt σ B) (hz : B.nodes.length < 2 ^ 20) (G : FunAt σ B F) (hl : F.names.length ≤ 100 ∧ F.args.length ≤ 100 ∧ F.res.length ≤ 100) {nm : Str} {s : Int}
    (h : ∀ t0 σ', BankAt σ' B → FunAt σ' B (F.push (.str nm) (.ref t0) (.int s)) → σ' t0 = some (.tup []) → (∀ a ob, σ a = some ob → a ∉ [F.fn, F.fa, F.fr] → σ' a = some ob) → Got B σ' ⟨"app", [], s, .inl F.names.length⟩ Φ) :
    CallOk (n + 2) 258 [.ref B.a, .str nm, .int s] σ Φ := by
  refine CallOk.of TT_ok at_fresh (k := 20) (j := 20) rfl ?_
  refine .inl ⟨_, _, _, _, 335, rfl, H.inst, H.own _ (by decide +kernel), by kernel_rfl, Nat.le_of_ble_eq_true rfl, fun ta hta => ?_⟩
  have s1 : Sub σ (upd σ ta (.tup [])) := Sub.upd hta
  have e1 : upd σ ta (.tup []) ta = some (.tup []) := upd_same
  have H1 := H.sub s1
  have G1 := G.sub s1
  generalize upd σ ta (.tup []) = σ1 at s1 H1 G1 e1
  refine .inl ⟨_, _, _, _, 244, rfl, H1.inst, H1.own _ (by decide +kernel), by kernel_rfl, Nat.le_of_ble_eq_true rfl, fun tb htb => ?_⟩
  have s2 : Sub σ1 (upd σ1 tb (.tup [])) := Sub.upd htb
  have e2 : upd σ1 tb (.tup []) tb = some (.tup []) := upd_same
  have H2 := H1.sub s2
  have G2 := G1.sub s2
  generalize upd σ1 tb (.tup []) = σ2 at s2 H2 G2 e2
  refine declare_ok H2 G2 hl e2 fun σ' H' G' K => ?_
  have tne : ∀ t, σ2 t = some (.tup []) → t ∉ [F.fn, F.fa, F.fr] := fun t ht hm => by
    simp only [List.mem_cons, List.not_mem_nil, or_false] at hm
    rcases hm with rfl | rfl | rfl
    · rw [G2.o1] at ht; cases ht
    · rw [G2.o2] at ht; cases ht
    · rw [G2.o3] at ht; cases ht
  have q := h tb σ' H' G' (K _ _ e2 (tne _ e2)) fun a ob ha hm => K a ob (s2 _ _ (s1 _ _ ha)) hm
  exact made_ok H' hz ⟨"app", [], s, .inl F.names.length⟩ (wf_inl (by decide +kernel)) Sub.refl (K _ _ (s2 _ _ e1) (tne _ (s2 _ _ e1))) rfl (Got.made H' q) (fun v σ' q => ⟨σ', Sub.refl, q⟩) (fun v q => ⟨_, Sub.refl, q⟩)
end
/-! ## linear forms -/
theorem at_lfinit : At 139 (inN (topN PW 14) 0) ["self"] := ⟨fun P => ⟨by kernel_rfl, by kernel_rfl, by kernel_rfl, fun a => by show bindArgs _ _ = _; kernel_rfl⟩, by kernel_rfl, by decide +kernel⟩
theorem at_addpart : At 146 (inN (topN PW 14) 1) ["self", "term", "factor"] := ⟨fun P => ⟨by kernel_rfl, by kernel_rfl, by kernel_rfl, fun a b c => by show bindArgs _ _ = _; kernel_rfl⟩, by kernel_rfl, by decide +kernel⟩
theorem at_addconst : At 153 (inN (topN PW 14) 2) ["self", "number"] := ⟨fun P => ⟨by kernel_rfl, by kernel_rfl, by kernel_rfl, fun a b => by show bindArgs _ _ = _; kernel_rfl⟩, by kernel_rfl, by decide +kernel⟩
/-- a linear form: its parts (a dict), its constant (a pair) -/
structure FormAt (σ : Sg) (f : Addr) (dx pd : Addr) (ps : List (Int × V)) (ca : Addr) (c d : Int) : Prop where
  inst : InstIs σ f 177 dx [("parts", .ref pd), ("constant", .ref ca)]
  parts : σ pd = some (.idict ps)
  const : σ ca = some (.tup [.int c, .int d])
section
variable {n : Nat} {σ : Sg} {Φ : V → Sg → Prop} {f dx pd ca : Addr} {ps : List (Int × V)} {c d : Int}
theorem addconst_ok (L : FormAt σ f dx pd ps ca c d) {x : Addr} {a b : Int}
    (h : CallOk (n + 3) 111 [.ref ca, .ref x] σ fun v σ' => ∃ r e g, v = .ref r ∧ Sub σ σ' ∧ σ' r = some (.tup [.int e, .int g]) ∧ Φ .none (upd σ' dx (.sdict [("parts", .ref pd), ("constant", .ref r)]))) :
    CallOk (n + 4) 153 [.ref f, .ref x] σ Φ := by
  refine CallOk.of TT_ok at_addconst (k := 20) (j := 20) rfl ?_
  refine ⟨_, _, _, _, _, rfl, L.inst, rfl, by kernel_rfl, h.mono fun v σ' q => ?_⟩
  obtain ⟨r, e, g, rfl, s, hr, q⟩ := q
  exact ⟨_, _, _, _, rfl, ⟨s _ _ L.inst.obj, s _ _ L.inst.dict⟩, by kernel_rfl, (show (["parts", "constant"] : List Str).Nodup from by decide +kernel), Nat.le_of_ble_eq_true rfl, _, Sub.refl, q⟩
theorem addpart_ok (L : FormAt σ f dx pd ps ca c d) {x : Addr} {t : Int} {v0 : Addr} {a b : Int} (hz : ps.length ≤ 1000) (hd : ((dget ps t).getD (.ref 89)) = .ref v0)
    (h : CallOk (n + 3) 111 [.ref v0, .ref x] σ fun v σ' => ∃ r e g, v = .ref r ∧ Sub σ σ' ∧ σ' r = some (.tup [.int e, .int g]) ∧ (e ≠ 0 → Φ .none (upd σ' pd (.idict (dput ps t v)))) ∧ (e = 0 → dget ps t = none ∧ Φ .none σ')) :
    CallOk (n + 4) 146 [.ref f, .int t, .ref x] σ Φ := by
  refine CallOk.of TT_ok at_addpart (k := 20) (j := 20) rfl ?_
  refine ⟨_, _, _, _, _, rfl, L.inst, rfl, by kernel_rfl, .inr ⟨_, MSpec.get L.parts, BSpec.get L.parts ?_⟩⟩
  rw [hd]
  refine h.mono fun v σ' q => ?_
  obtain ⟨r, e, g, rfl, s, hr, q1, q2⟩ := q
  have I : InstIs σ' f 177 dx [("parts", .ref pd), ("constant", .ref ca)] := ⟨s _ _ L.inst.obj, s _ _ L.inst.dict⟩
  refine ⟨_, i0 hr, fun z => ?_, fun z => ?_⟩
  · have z : e ≠ 0 := by simpa using z
    exact ⟨_, _, _, _, _, rfl, I, rfl, by kernel_rfl, _, SISpec.idict (s _ _ L.parts) (by have : 1000 ≤ sizeLine := Nat.le_of_ble_eq_true rfl; (first | lia | omega)), _, Sub.refl, q1 z⟩
  · have z : e = 0 := by simpa using z
    obtain ⟨hn, q2⟩ := q2 z
    refine ⟨_, _, _, _, _, rfl, I, rfl, by kernel_rfl, _, CSpec.inD (s _ _ L.parts), fun w => ?_, fun _ => ⟨_, Sub.refl, q2⟩⟩
    rw [hn] at w
    cases w
end
end
section
/-! ## a class's call -/
theorem enterCode {f : Addr} {names : List Str} {body : List Stmt} {scope : Scope} (D : DefAt f names body scope) (hn : names.Nodup) {n : Nat} {vs : List V} {σ : Sg} {Φ : V → Sg → Prop} (hl : vs.length = names.length)
    (h : ∀ c : Cx, c.Ok n → c.S₀ = scope → c.cl = [] → Exs c scope body (binds names vs) σ fun fl _ σ' => match fl with | .ret v => Φ v σ' | .next => Φ .none σ' | _ => False)
    {c : Cx} {S : Scope} {us : List Value} {ρ : Rho} {fr : Led} {h' : Heap} {tk : Nat} {RR : Result → Shared → Prop}
    (oB : Below c.A₀ c.base c.outer c.h₀) (oX : (KK c.w.params).In c.h₀) (oT : Top c.p c.loose c.mean c.mg c.mb c.h₀) (od : c.dp + n + 1 < recursionLimit) (ou : c.un + 8 * n + 208 < cLine)
    (hk : S.kind = .function) (hv : VIs vs us) (R : Rel c ρ σ fr h') (hR : ∀ v u σ' h'' tk', v.Is u → Φ v σ' → Rel c ρ σ' fr h'' → RR (.ok (.ret u)) (c.sh h'' tk')) :
    codeAny (model PW c.w) (c.A S) (.call (.ref f) ⟨us, []⟩) RR (c.sh h' tk) := by
  obtain ⟨name, qual, params, dV, kV, doc, pm, cdv, ct, oc, an, od', osl, d1, d2, d3⟩ := D.at_ c.w.params
  obtain ⟨mp, news, F, N, m, G, Dj⟩ := R
  have hus : us.length = names.length := by rw [hv.length, hl]
  refine code_def (A := c.A S) (env := c.env S) (outer := c.outer) oB F oX N oT rfl rfl hk d1 d2 (by show c.dp < recursionLimit; (first | lia | omega)) (BindsTo.of_eq (d3 us hus)) ?_ (fun g L' h₁ FG F' N' B' X' T' => ?_) D.co D.gen D.kind D.cell
  · intro y hy
    exact D.loc _ (List.of_mem_zip hy).1
  · refine wpAny_mono (h (deeperCx c S qual f cdv scope g L' _) ⟨B', X', T', ?_, ?_, ?_⟩ rfl rfl fr h₁ _ ⟨_, news, F', N', binds_ok hv hn, ⟨G.at_⟩, Dj⟩) (fun fl s₂ q => ?_) fun _ _ e => e
    · show c.dp + 1 + n < _; (first | lia | omega)
    · show c.un + 3 + 8 * n + 200 < _; (first | lia | omega)
    · show PassesOwn (model PW c.w) ((c.A S).deeper (envOf qual scope L' f cdv)) (envOf qual scope L' f cdv) _
      passes_own
    obtain ⟨f', ρ', σ', h2, tk2, rfl, R2, i, q⟩ := q
    obtain ⟨mp2, news2, F2, N2, m2, G2, Dj2⟩ := R2
    have back : ∀ (v : V) (u : Value), v.Is u → Φ v σ' → LeaveK c.h₀ c.L mp g RR u (c.sh h2 tk2) := fun v u iv qv =>
      leaveK_ F2 N2 fun Fc Nc => hR v u σ' h2 tk2 iv qv ⟨mp, news2, Fc, Nc, m, ⟨G2.at_⟩, Dj2⟩
    cases f' with
    | ret v => obtain ⟨u, rfl, iv⟩ := i; exact back v u iv q
    | next => have e : fl = .next := i; subst e; exact back .none .none rfl q
    | brk => exact q.elim
    | cont => exact q.elim
structure ClsAt (C f : Addr) : Prop where
  makes : ∀ P, makesIn (KK P) C = true
  init : ∀ P, findIn (KK P) (.ref C) "__init__" = some (some (.ref f))
  fn : ∀ P, isFn (KK P) (.ref f) = true
theorem cls_ok {C f : Addr} {st : Stmt} {names : List Str} (hC : ClsAt C f) (A : At f st names) {T : Tabs} (hT : T.Ok) {n j k : Nat} {σ : Sg} {Φ : V → Sg → Prop} (hl : names.length = 1)
    (h : ∀ x dx, σ x = none → σ dx = none → x ≠ dx → wS T (fScope st) n (wk T (fScope st) n j) k (fBody st) (binds names [.ref x]) (upd (upd σ dx (.sdict [])) x (.inst C dx))
      fun fl _ σ' => match fl with | .ret v => v = .none ∧ Φ (.ref x) σ' | .next => Φ (.ref x) σ' | _ => False) (hcl : T.cl = [] := by rfl) : CallOk (n + 2) C [] σ Φ := by
  intro c S us ρ ok hk hv fr h' tk R
  cases hv
  have R0 := R
  obtain ⟨mp, news, F, N, m, G, Dj⟩ := R
  have hd := ok.hd
  have hu := ok.hu
  refine call_cls (s := c.sh h' tk) F ok.X N (hC.makes _) (hC.init _) (hC.fn _) fun x dx h1 F1 N1 l1 l2 => ?_
  let c1 : Cx := { c with dp := c.dp + 1, un := c.un + 1 }
  have hA : (c.A S).under (.builtin "type.__call__" ⟨[.ref C], []⟩) = c1.A S := by
    have e1 : ∀ l : List Env, pushEnvs (Code.builtin "type.__call__" ⟨[.ref C], []⟩).envs (some l) = some l := fun l => by kernel_rfl
    have e2 : ∀ g, pushGuards (Code.builtin "type.__call__" ⟨[.ref C], []⟩).guards g = g := fun g => by cases g <;> kernel_rfl
    have e3 : (Code.builtin "type.__call__" ⟨[.ref C], []⟩).weight = 1 := by kernel_rfl
    have e4 : (Code.builtin "type.__call__" ⟨[.ref C], []⟩).cUnits = 1 := by kernel_rfl
    show Around.mk none _ (pushEnvs _ (some _)) (pushGuards _ _) _ = _
    rw [e1, e2, e3, e4]
  rw [hA]
  have D := A.defAt
  have hx0 : c.h₀.get? x = none := (N1 _ (.head _)).2.2
  have hd0 : c.h₀.get? dx = none := (N1 _ (.tail _ (.head _))).2.2
  have none_of : ∀ a, c.h₀.get? a = none → dx ≤ a → σ a = none := fun a h0 hle => by
    cases e : σ a with
    | none => rfl
    | some ob =>
      rcases G.at_ a ob e with ⟨o, ho, _⟩ | hk
      · exact absurd (l1 _ (List.mem_append_left _ ho)) (Nat.not_lt.mpr hle)
      · obtain ⟨us, k, hg, _⟩ := kTup_lt ok hk
        rw [h0] at hg; cases hg
  have nx : σ x = none := none_of x hx0 (Nat.le_of_lt l2)
  have ndx : σ dx = none := none_of dx hd0 (Nat.le_refl _)
  have nosys : ∀ a, c.h₀.get? a = none → (a == sysModules) = false := fun a h0 => beq_eq_false_iff_ne.mpr fun e => by
    subst e
    obtain ⟨o, ho⟩ : ∃ o, c.h₀.get? sysModules = some o := by
      have hs : ∀ P, ((KK P).lookup sysModules).isSome = true := fun P => by kernel_rfl
      obtain ⟨o, ho⟩ := Option.isSome_iff_exists.mp (hs c.w.params)
      exact ⟨o, ok.X _ _ ho⟩
    rw [h0] at ho; cases ho
  have R1 : Rel c1 ρ (upd (upd σ dx (.sdict [])) x (.inst C dx)) fr h1 := by
    refine ⟨mp, (x, instObj C dx) :: (dx, dictOf [] 0) :: news, F1, N1, m, ⟨fun a ob e => ?_⟩, fun p hp q hq => ?_⟩
    · unfold upd at e
      split at e
      · rename_i z; cases e; subst z; exact .inl ⟨_, .head _, rfl, nosys _ hx0⟩
      · split at e
        · rename_i z; cases e; subst z; exact .inl ⟨_, .tail _ (.head _), ⟨[], 0, rfl, .nil⟩, nosys _ hd0⟩
        · rcases G.at_ a ob e with ⟨o, ho, z⟩ | hk
          · exact .inl ⟨o, .tail _ (.tail _ ho), z⟩
          · exact .inr hk
    · have hp1 := l1 p (List.mem_append_right _ hp)
      rcases List.mem_cons.mp hq with rfl | hq
      · exact Nat.ne_of_lt (Nat.lt_trans hp1 l2)
      · rcases List.mem_cons.mp hq with rfl | hq
        · exact Nat.ne_of_lt hp1
        · exact Dj p hp q hq
  refine enterCode (c := c1) (n := n) (vs := [.ref x]) D A.nodup (by rw [hl]; rfl) (Φ := fun v σ' => v = .none ∧ Φ (.ref x) σ') (fun c2 ok2 hS2 hcl2 => (wS_ok hT D.kind (wk_ok hT D.kind j) ok2 (hcl2.trans hcl.symm) hS2 k _ _ _ _ (h x dx nx ndx (Nat.ne_of_gt l2))).mono fun fl ρ' σ' q => ?_) ok.B ok.X ok.T (by show c.dp + 1 + n + 1 < _; (first | lia | omega)) (by show c.un + 1 + 8 * n + 208 < _; (first | lia | omega)) hk (.cons rfl .nil) R1 ?_
  · cases fl with
    | next => exact ⟨rfl, q⟩
    | ret v => exact q
    | brk => exact q
    | cont => exact q
  · rintro v u σ' h2 tk2 iv ⟨rfl, q⟩ R2
    have e : u = .none := iv
    subst e
    obtain ⟨mp2, news2, F2, N2, m2, G2, D2⟩ := R2
    exact ⟨rfl, .ref x, σ', h2, tk2, rfl, ⟨mp2, news2, F2, N2, m2, ⟨G2.at_⟩, D2⟩, rfl, q⟩
end
section
theorem cls_lf : ClsAt 177 139 := ⟨fun P => by kernel_rfl, fun P => by kernel_rfl, fun P => by kernel_rfl⟩
section
variable {n : Nat} {σ : Sg} {Φ : V → Sg → Prop}
theorem lf_ok (h89 : σ 89 = some (.tup [.int 0, .int 1])) (h : ∀ f dx pd σ', Sub σ σ' → σ f = none → σ dx = none → σ pd = none → FormAt σ' f dx pd [] 89 0 1 → Φ (.ref f) σ') : CallOk (n + 2) 177 [] σ Φ := by
  refine cls_ok cls_lf at_lfinit TT_ok (j := 20) (k := 20) rfl fun x dx hx hdx hne => ?_
  have s1 : Sub σ (upd (upd σ dx (.sdict [])) x (.inst 177 dx)) := (Sub.upd hdx).trans (Sub.upd ((upd_ne hne).trans hx))
  have I1 : InstIs (upd (upd σ dx (.sdict [])) x (.inst 177 dx)) x 177 dx [] := ⟨upd_same, (upd_ne (Ne.symm hne)).trans upd_same⟩
  generalize upd (upd σ dx (.sdict [])) x (.inst 177 dx) = σ1 at s1 I1
  refine ⟨_, .inl rfl, fun pd hpd => ?_⟩
  have s2 : Sub σ1 (upd σ1 pd (.idict [])) := Sub.upd hpd
  have e2 : upd σ1 pd (.idict []) pd = some (.idict []) := upd_same
  have I2 : InstIs (upd σ1 pd (.idict [])) x 177 dx [] := ⟨s2 _ _ I1.obj, s2 _ _ I1.dict⟩
  generalize upd σ1 pd (.idict []) = σ2 at s2 I2 e2
  have hpd0 : σ pd = none := by
    cases e : σ pd with
    | none => rfl
    | some ob => rw [s1 _ _ e] at hpd; cases hpd
  refine ⟨_, _, _, _, rfl, I2, by kernel_rfl, List.nodup_nil, Nat.le_of_ble_eq_true rfl, ?_⟩
  have k3 : ∀ a, a ≠ dx → upd σ2 dx (.sdict [("parts", .ref pd)]) a = σ2 a := fun a ha => upd_ne ha
  have I3 : InstIs (upd σ2 dx (.sdict [("parts", .ref pd)])) x 177 dx [("parts", .ref pd)] := ⟨(k3 x hne).trans I2.obj, upd_same⟩
  refine ⟨_, _, _, _, rfl, I3, by kernel_rfl, (show (["parts"] : List Str).Nodup from by decide +kernel), Nat.le_of_ble_eq_true rfl, ?_⟩
  have k4 : ∀ a, a ≠ dx → upd (upd σ2 dx (.sdict [("parts", .ref pd)])) dx (.sdict [("parts", .ref pd), ("constant", .ref 89)]) a = σ2 a := fun a ha => (upd_ne ha).trans (k3 a ha)
  have pne : pd ≠ dx := fun e => by rw [e, I2.dict] at e2; cases e2
  have s4 : ∀ a ob, σ a = some ob → upd (upd σ2 dx (.sdict [("parts", .ref pd)])) dx (.sdict [("parts", .ref pd), ("constant", .ref 89)]) a = some ob := fun a ob e => by
    rw [k4 a fun z => by rw [z, hdx] at e; cases e]
    exact s2 _ _ (s1 _ _ e)
  refine h x dx pd _ s4 hx hdx hpd0 ⟨⟨(k4 x hne).trans I2.obj, upd_same⟩, (k4 pd pne).trans e2, s4 _ _ h89⟩
end
end
section
theorem at_lowest : At 737 (topN PW 28) ["top", "bottom"] := ⟨fun P => ⟨by kernel_rfl, by kernel_rfl, by kernel_rfl, fun a b => by show bindArgs _ _ = _; kernel_rfl⟩, by kernel_rfl, by decide +kernel⟩
theorem at_lplus : At 744 (topN PW 29) ["one", "other"] := ⟨fun P => ⟨by kernel_rfl, by kernel_rfl, by kernel_rfl, fun a b => by show bindArgs _ _ = _; kernel_rfl⟩, by kernel_rfl, by decide +kernel⟩
theorem at_ltimes : At 751 (topN PW 30) ["one", "other"] := ⟨fun P => ⟨by kernel_rfl, by kernel_rfl, by kernel_rfl, fun a b => by show bindArgs _ _ = _; kernel_rfl⟩, by kernel_rfl, by decide +kernel⟩
/-- the divisions of a fraction's shortening are the plain ones -/
structure DivL (t b : Int) : Prop where
  pos : 0 < b
  go : ∀ i, (i = t ∨ i = b) → Builtin.divisionGoesByPylong i (Int.gcd t b) = false
section
variable {n : Nat} {σ : Sg} {Φ : V → Sg → Prop}
theorem lowest_ok {t b : Int} (d : DivL t b) (h : ∀ r, σ r = none → Φ (.ref r) (upd σ r (.tup [.int (Int.fdiv t (Int.gcd t b)), .int (Int.fdiv b (Int.gcd t b))]))) : CallOk (n + 1) 737 [.int t, .int b] σ Φ := by
  have hb := d.pos
  have hg : (Int.gcd t b : Int) ≠ 0 := by
    have : Int.gcd t b ≠ 0 := fun e => by have := (Int.gcd_eq_zero_iff.mp e).2; (first | lia | omega)
    (first | lia | omega)
  refine CallOk.of TT_ok at_lowest (k := 20) (j := 20) rfl ?_
  refine BSpec.abs fun q hq => ?_
  refine ⟨fun k ρ σ' => ∃ x y : Int, ρ = binds ["top", "bottom", "a", "b"] [.int t, .int b, .int x, .int y] ∧ 0 ≤ x ∧ 0 ≤ y ∧ k = y.natAbs ∧ Int.gcd x y = Int.gcd t b ∧ σ' = σ, _, _, σ, rsub_cons (rsub_cons (rsub_cons (rsub_cons rsub_nil rfl) rfl) rfl) rfl, Sub.upd hq, ⟨t.natAbs, b, rfl, by (first | lia | omega), by (first | lia | omega), rfl, by simp [Int.gcd], rfl⟩, ?_⟩
  rintro k ρ σ' ⟨x, y, rfl, hx, hy, rfl, hgc, rfl⟩
  refine ⟨fun hne => ?_, fun he => ?_⟩
  · have hne : y ≠ 0 := by simpa using hne
    obtain ⟨h1, h2, h3⟩ := gcd_step x y hy hne
    refine ⟨hne, fun q hq => ⟨_, _, σ', h2, rsub_cons (rsub_cons (rsub_cons (rsub_cons rsub_nil rfl) rfl) rfl) rfl, Sub.upd hq, y, _, rfl, hy, h1, rfl, h3.trans hgc, rfl⟩⟩
  · have he : y = 0 := by simpa using he
    subst he
    have e : x = (Int.gcd t b : Int) := by rw [← hgc]; simp [Int.gcd]; (first | lia | omega)
    subst e
    exact ⟨⟨hg, d.go t (.inl rfl)⟩, ⟨hg, d.go b (.inr rfl)⟩, Nat.le_of_ble_eq_true rfl, fun r hr => ⟨_, Sub.refl, h r hr⟩⟩
theorem lplus_ok {x y : Addr} {a b c d : Int} (ex : σ x = some (.tup [.int a, .int b])) (ey : σ y = some (.tup [.int c, .int d])) (m : IntMulOk a d ∧ IntMulOk c b ∧ IntMulOk b d) (dv : DivL (a * d + c * b) (b * d))
    (h : ∀ r, σ r = none → Φ (.ref r) (upd σ r (.tup [.int (Int.fdiv (a * d + c * b) (Int.gcd (a * d + c * b) (b * d))), .int (Int.fdiv (b * d) (Int.gcd (a * d + c * b) (b * d)))]))) : CallOk (n + 2) 744 [.ref x, .ref y] σ Φ := by
  refine CallOk.of TT_ok at_lplus (k := 20) (j := 20) rfl ?_
  refine ⟨_, i0 ex, _, i1 ey, m.1, _, i0 ey, _, i1 ex, m.2.1, _, i1 ex, _, i1 ey, m.2.2, ?_⟩
  exact lowest_ok dv fun r hr => ⟨_, Sub.refl, h r hr⟩
theorem ltimes_ok {x y : Addr} {a b c d : Int} (ex : σ x = some (.tup [.int a, .int b])) (ey : σ y = some (.tup [.int c, .int d])) (m : IntMulOk a c ∧ IntMulOk b d) (dv : DivL (a * c) (b * d))
    (h : ∀ r, σ r = none → Φ (.ref r) (upd σ r (.tup [.int (Int.fdiv (a * c) (Int.gcd (a * c) (b * d))), .int (Int.fdiv (b * d) (Int.gcd (a * c) (b * d)))]))) : CallOk (n + 2) 751 [.ref x, .ref y] σ Φ := by
  refine CallOk.of TT_ok at_ltimes (k := 20) (j := 20) rfl ?_
  refine ⟨_, i0 ex, _, i0 ey, m.1, _, i1 ex, _, i1 ey, m.2, ?_⟩
  exact lowest_ok dv fun r hr => ⟨_, Sub.refl, h r hr⟩
end
end
section
/-! ## fractions -/
noncomputable def frac (r : Rat) : Ob := .tup [.int r.num, .int (r.den : Int)]
structure Small (r : Rat) : Prop where
  num : r.num.natAbs < 2 ^ 4000
  den : r.den < 2 ^ 4000
theorem bits_le {i : Int} {k : Nat} (h : i.natAbs < 2 ^ k) : Builtin.Int.intBits i ≤ k := by
  unfold Builtin.Int.intBits
  split
  · exact Nat.zero_le _
  · rename_i hn
    have hn : i ≠ 0 := by simpa using hn
    exact (Nat.log2_lt (by (first | lia | omega))).mpr h
theorem mulOk {i j : Int} (h : i.natAbs < 2 ^ 4000) (h' : j.natAbs < 2 ^ 4000) : IntMulOk i j := by
  have h1 := bits_le h
  have h2 := bits_le h'
  have h3 : Builtin.Int.intTooBig (((Builtin.Int.intBits i + Builtin.Int.intBits j : Nat) : Int)) = false := by
    have : (8000 : Int) ≤ ((bitsLine : Nat) : Int) := by decide
    unfold Builtin.Int.intTooBig
    exact decide_eq_false (by (first | lia | omega))
  unfold IntMulOk
  have h4 : Builtin.Int.intTooBig ((Builtin.Int.intBits i : Int) + (Builtin.Int.intBits j : Int)) = false := by rw [← h3]; simp
  rw [h4]; simp
theorem goes {i g : Int} (h : g.natAbs < 2 ^ 9000) : Builtin.divisionGoesByPylong i g = false := by
  unfold Builtin.divisionGoesByPylong
  have : ¬ ((if (g == 0) = true then 0 else g.natAbs.log2 / 30 + 1) > 300) := by
    split
    · decide
    · rename_i hn
      have hn : g ≠ 0 := by simpa using hn
      have := (Nat.log2_lt (by (first | lia | omega))).mpr h
      (first | lia | omega)
  simp only [Bool.and_eq_false_iff]
  left
  exact decide_eq_false this
theorem gcd_le' {t : Int} {b : Nat} (hb : 0 < b) : Int.gcd t b ≤ b := by
  have h : Int.gcd t b ∣ b := by have := Int.gcd_dvd_right t (b : Int); exact_mod_cast this
  exact Nat.le_of_dvd hb h
theorem low_num {t : Int} {b : Nat} (hb : 0 < b) : Int.fdiv t (Int.gcd t b : Int) = (mkRat t b).num := by
  rw [Rat.num_mkRat, if_neg (by (first | lia | omega)), Int.fdiv_eq_ediv_of_nonneg _ (by (first | lia | omega))]
  congr 1
  rw [Nat.gcd_comm]; rfl
theorem low_den {t : Int} {b : Nat} (hb : 0 < b) : Int.fdiv (b : Int) (Int.gcd t b : Int) = ((mkRat t b).den : Int) := by
  rw [Rat.den_mkRat, if_neg (by (first | lia | omega)), Int.fdiv_eq_ediv_of_nonneg _ (by (first | lia | omega))]
  rw [Nat.gcd_comm]
  show (b : Int) / ((t.natAbs.gcd b : Nat) : Int) = _
  exact (Int.natCast_ediv _ _).symm
theorem lowT_eq {t : Int} {b : Nat} (hb : 0 < b) : lowT t b = (mkRat t b).num := by unfold lowT; rw [if_neg (by (first | lia | omega))]; exact low_num hb
theorem lowB_eq {t : Int} {b : Nat} (hb : 0 < b) : lowB t b = ((mkRat t b).den : Int) := by unfold lowB; rw [if_neg (by (first | lia | omega))]; exact low_den hb
theorem add_mk (r s : Rat) : r + s = mkRat (r.num * s.den + s.num * r.den) (r.den * s.den) := by rw [Rat.add_def, Rat.normalize_eq_mkRat]
theorem mul_mk (r s : Rat) : r * s = mkRat (r.num * s.num) (r.den * s.den) := by rw [Rat.mul_def, Rat.normalize_eq_mkRat]
theorem mk_one (a : Int) : (mkRat a 1).num = a ∧ (mkRat a 1).den = 1 := by rw [Rat.num_mkRat, Rat.den_mkRat]; simp
theorem frac_one {r : Rat} {a : Int} (h : r = mkRat a 1) : frac r = .tup [.int a, .int 1] := by
  obtain ⟨h1, h2⟩ := mk_one a
  unfold frac; rw [h, h1, h2]; rfl
theorem den_lt {r s : Rat} (hr : Small r) (hs : Small s) : r.den * s.den < 2 ^ 9000 := by
  have h1 := hr.den
  have h2 := hs.den
  have h3 : r.den * s.den ≤ 2 ^ 4000 * 2 ^ 4000 := Nat.mul_le_mul (by (first | lia | omega)) (by (first | lia | omega))
  rw [← Nat.pow_add] at h3
  exact Nat.lt_of_le_of_lt h3 (Nat.pow_lt_pow_right (by decide) (by decide))
section
variable {n : Nat} {σ : Sg} {Φ : V → Sg → Prop} {x y : Addr} {r s : Rat}
theorem divs_of {t : Int} {b : Nat} (hb : 0 < b) (hz : b < 2 ^ 9000) : Divs t b := ⟨by (first | lia | omega), fun i _ => goes (by rw [if_neg (by (first | lia | omega))]; have := gcd_le' (t := t) hb; (first | lia | omega))⟩
theorem divL_of {t : Int} {b : Nat} (hb : 0 < b) (hz : b < 2 ^ 9000) : DivL t b := ⟨by (first | lia | omega), fun i _ => goes (by have := gcd_le' (t := t) hb; (first | lia | omega))⟩
theorem dpos : 0 < r.den * s.den := Nat.mul_pos r.den_pos s.den_pos
theorem addR (hr : σ x = some (frac r)) (hs : σ y = some (frac s)) (sr : Small r) (ss : Small s) (h : ∀ q, σ q = none → Φ (.ref q) (upd σ q (frac (r + s)))) : CallOk (n + 3) 111 [.ref x, .ref y] σ Φ := by
  have n1 := sr.num; have n2 := ss.num; have d1 := sr.den; have d2 := ss.den
  refine add_ok hr hs (fun e1 e2 q hq => ?_) (fun hn => ⟨⟨mulOk n1 (by simpa using d2), mulOk n2 (by simpa using d1), mulOk (by simpa using d1) (by simpa using d2)⟩, ?_, fun q hq => ?_⟩)
  · have e1 : r.den = 1 := by (first | lia | omega)
    have e2 : s.den = 1 := by (first | lia | omega)
    have e : r + s = mkRat (r.num + s.num) 1 := by rw [add_mk, e1, e2]; simp
    have := h q hq
    rwa [frac_one e] at this
  · have := divs_of (t := r.num * s.den + s.num * r.den) (dpos (r := r) (s := s)) (den_lt sr ss)
    rwa [Int.natCast_mul] at this
  · have := h q hq
    unfold frac at this
    rw [add_mk, ← lowT_eq dpos, ← lowB_eq dpos, Int.natCast_mul] at this
    exact this
theorem mulR (hr : σ x = some (frac r)) (hs : σ y = some (frac s)) (sr : Small r) (ss : Small s) (h : ∀ q, σ q = none → Φ (.ref q) (upd σ q (frac (r * s)))) : CallOk (n + 3) 118 [.ref x, .ref y] σ Φ := by
  have n1 := sr.num; have n2 := ss.num; have d1 := sr.den; have d2 := ss.den
  refine mul_ok hr hs (mulOk n1 n2) (fun e1 e2 q hq => ?_) (fun hn => ⟨mulOk (by simpa using d1) (by simpa using d2), ?_, fun q hq => ?_⟩)
  · have e1 : r.den = 1 := by (first | lia | omega)
    have e2 : s.den = 1 := by (first | lia | omega)
    have e : r * s = mkRat (r.num * s.num) 1 := by rw [mul_mk, e1, e2]
    have := h q hq
    rwa [frac_one e] at this
  · have := divs_of (t := r.num * s.num) (dpos (r := r) (s := s)) (den_lt sr ss)
    rwa [Int.natCast_mul] at this
  · have := h q hq
    unfold frac at this
    rw [mul_mk, ← lowT_eq dpos, ← lowB_eq dpos, Int.natCast_mul] at this
    exact this
theorem lowestR {t : Int} {b : Nat} (hb : 0 < b) (hz : b < 2 ^ 4000) (h : ∀ q, σ q = none → Φ (.ref q) (upd σ q (frac (mkRat t b)))) : CallOk (n + 1) 737 [.int t, .int b] σ Φ := by
  refine lowest_ok (divL_of hb (Nat.lt_trans hz (Nat.pow_lt_pow_right (by decide) (by decide)))) fun q hq => ?_
  have := h q hq
  unfold frac at this
  rwa [← low_num hb, ← low_den hb] at this
theorem lplusR (hr : σ x = some (frac r)) (hs : σ y = some (frac s)) (sr : Small r) (ss : Small s) (h : ∀ q, σ q = none → Φ (.ref q) (upd σ q (frac (r + s)))) : CallOk (n + 2) 744 [.ref x, .ref y] σ Φ := by
  have n1 := sr.num; have n2 := ss.num; have d1 := sr.den; have d2 := ss.den
  refine lplus_ok hr hs ⟨mulOk n1 (by simpa using d2), mulOk n2 (by simpa using d1), mulOk (by simpa using d1) (by simpa using d2)⟩ ?_ fun q hq => ?_
  · have := divL_of (t := r.num * s.den + s.num * r.den) (dpos (r := r) (s := s)) (den_lt sr ss)
    rwa [Int.natCast_mul] at this
  · have := h q hq
    unfold frac at this
    rw [add_mk, ← low_num dpos, ← low_den dpos, Int.natCast_mul] at this
    exact this
theorem ltimesR (hr : σ x = some (frac r)) (hs : σ y = some (frac s)) (sr : Small r) (ss : Small s) (h : ∀ q, σ q = none → Φ (.ref q) (upd σ q (frac (r * s)))) : CallOk (n + 2) 751 [.ref x, .ref y] σ Φ := by
  have n1 := sr.num; have n2 := ss.num; have d1 := sr.den; have d2 := ss.den
  refine ltimes_ok hr hs ⟨mulOk n1 n2, mulOk (by simpa using d1) (by simpa using d2)⟩ ?_ fun q hq => ?_
  · have := divL_of (t := r.num * s.num) (dpos (r := r) (s := s)) (den_lt sr ss)
    rwa [Int.natCast_mul] at this
  · have := h q hq
    unfold frac at this
    rw [mul_mk, ← low_num dpos, ← low_den dpos, Int.natCast_mul] at this
    exact this
end
/-! ## sizes -/
/-- r is a whole number of D-ths and at most M -/
noncomputable def Sz (D M : Nat) (r : Rat) : Prop := ∃ p : Int, r * (D : Rat) = (p : Rat) ∧ p.natAbs ≤ M * D
theorem Sz.eq {D : Nat} (hD : 0 < D) {r : Rat} {p : Int} (h : r * (D : Rat) = (p : Rat)) : r = mkRat p D := by
  have hD' : (D : Rat) ≠ 0 := by exact_mod_cast (by (first | lia | omega) : D ≠ 0)
  rw [Rat.mkRat_eq_div, ← h]
  grind
theorem Sz.bounds {D M : Nat} (hD : 0 < D) {r : Rat} (h : Sz D M r) : r.num.natAbs ≤ M * D ∧ r.den ≤ D := by
  obtain ⟨p, e, hp⟩ := h
  have e := Sz.eq hD e
  subst e
  rw [Rat.num_mkRat, Rat.den_mkRat, if_neg (by (first | lia | omega)), if_neg (by (first | lia | omega))]
  refine ⟨?_, Nat.div_le_self _ _⟩
  rw [Int.natAbs_ediv_of_dvd]
  · exact Nat.le_trans (Nat.div_le_self _ _) hp
  · have := Nat.gcd_dvd_right D p.natAbs
    exact Int.ofNat_dvd_left.mpr this
theorem Sz.small {D M : Nat} (hD : 0 < D) {r : Rat} (h : Sz D M r) (h1 : M * D < 2 ^ 4000) (h2 : D < 2 ^ 4000) : Small r := by
  obtain ⟨a, b⟩ := h.bounds hD
  exact ⟨by (first | lia | omega), by (first | lia | omega)⟩
theorem Sz.add {D M M' : Nat} {r s : Rat} (h : Sz D M r) (h' : Sz D M' s) : Sz D (M + M') (r + s) := by
  obtain ⟨p, e, hp⟩ := h
  obtain ⟨q, e', hq⟩ := h'
  refine ⟨p + q, by rw [Rat.intCast_add, ← e, ← e']; grind, ?_⟩
  rw [Nat.add_mul]
  (first | lia | omega)
theorem Sz.mul {D D' M M' : Nat} {r s : Rat} (h : Sz D M r) (h' : Sz D' M' s) : Sz (D * D') (M * M') (r * s) := by
  obtain ⟨p, e, hp⟩ := h
  obtain ⟨q, e', hq⟩ := h'
  refine ⟨p * q, by rw [Rat.intCast_mul, ← e, ← e', Rat.natCast_mul]; grind, ?_⟩
  rw [Int.natAbs_mul]
  have := Nat.mul_le_mul hp hq
  calc p.natAbs * q.natAbs ≤ M * D * (M' * D') := this
    _ = M * M' * (D * D') := by grind
theorem Sz.neg {D M : Nat} {r : Rat} (h : Sz D M r) : Sz D M (-r) := by
  obtain ⟨p, e, hp⟩ := h
  exact ⟨-p, by rw [Rat.intCast_neg, ← e]; grind, by (first | lia | omega)⟩
theorem Sz.mono {D D' M M' : Nat} {r : Rat} (h : Sz D M r) (hD : D ∣ D') (hM : M ≤ M') : Sz D' M' r := by
  obtain ⟨p, e, hp⟩ := h
  obtain ⟨k, rfl⟩ := hD
  refine ⟨p * k, by rw [Rat.intCast_mul, ← e, Rat.natCast_mul]; show _ = _ * (((k : Nat) : Int) : Rat); rw [Rat.intCast_natCast]; grind, ?_⟩
  rw [Int.natAbs_mul, Int.natAbs_natCast]
  calc p.natAbs * k ≤ M * D * k := Nat.mul_le_mul hp (Nat.le_refl _)
    _ ≤ M' * (D * k) := by rw [Nat.mul_assoc]; exact Nat.mul_le_mul hM (Nat.le_refl _)
theorem Sz.zero {D M : Nat} : Sz D M 0 := ⟨0, by simp, by simp⟩
theorem Sz.mk {D M : Nat} {a : Int} {b : Nat} (hb : 0 < b) (h : b ∣ D) (hm : a.natAbs ≤ M * b) : Sz D M (mkRat a b) := by
  have hb' : (b : Rat) ≠ 0 := by exact_mod_cast (by (first | lia | omega) : b ≠ 0)
  have : Sz b M (mkRat a b) := ⟨a, by rw [Rat.mkRat_eq_div]; grind, hm⟩
  exact this.mono h (Nat.le_refl _)
end
section
/-! ## the bank's terms, plainly -/
structure Lin (ks : List Nd) (kind : Int) (things : List Nat) (L : Nat) : Prop where
  args : ∀ (i : Nat) n, ks[i]? = some n → n.args.length ≤ 3 ∧ ∀ a ∈ n.args, ∃ j : Nat, a = (j : Int) ∧ j < i
  num : ∀ (i : Nat) n, ks[i]? = some n → n.op = "num" → n.sort = kind ∧ n.args = [] ∧ ∃ r : Rat, n.data = .inr (r.num, (r.den : Int)) ∧ Sz (12 ^ L) (4 ^ (L + 1)) r ∧ (kind = 1 → r.den = 1)
  plus : ∀ (i : Nat) n, ks[i]? = some n → n.op = "+" → n.sort = kind ∧ ∀ a ∈ n.args, ∃ (j : Nat) (m : Nd), a = (j : Int) ∧ ks[j]? = some m ∧ m.sort = kind
  times : ∀ (i : Nat) n, ks[i]? = some n → n.op = "*" → n.sort = kind ∧ ∃ (c a : Nat) (r : Rat) (m : Nd), n.args = [(c : Int), (a : Int)] ∧ ks[c]? = some ⟨"num", [], kind, .inr (r.num, (r.den : Int))⟩ ∧ Sz 12 4 r ∧ ks[a]? = some m ∧ m.sort = kind
  thing : ∀ i ∈ things, ∃ n, ks[i]? = some n ∧ n.sort = kind ∧ n.op ≠ "num" ∧ n.op ≠ "+" ∧ n.op ≠ "*"
  other : ∀ (i : Nat) n, ks[i]? = some n → n.sort = kind → n.op ≠ "num" → n.op ≠ "+" → n.op ≠ "*" → i ∈ things
/-- values of the terms: sums, products and numbers as they are -/
structure LinVal (ks : List Nd) (val : Nat → Rat) : Prop where
  num : ∀ (i : Nat) n (r : Rat), ks[i]? = some n → n.op = "num" → n.data = .inr (r.num, (r.den : Int)) → val i = r
  plus : ∀ (i : Nat) n, ks[i]? = some n → n.op = "+" → val i = (n.args.map fun a => val a.toNat).sum
  times : ∀ (i : Nat) n (c a : Nat), ks[i]? = some n → n.op = "*" → n.args = [(c : Int), (a : Int)] → val i = val c * val a
theorem LinVal.pre {ks ks' : List Nd} {val : Nat → Rat} (h : LinVal ks' val) (p : ks <+: ks') : LinVal ks val := by
  obtain ⟨l, rfl⟩ := p
  have up : ∀ (i : Nat) n, ks[i]? = some n → (ks ++ l)[i]? = some n := fun i n e => by rw [List.getElem?_append_left (List.getElem?_eq_some_iff.mp e).1]; exact e
  exact ⟨fun i n r e => h.num i n r (up i n e), fun i n e => h.plus i n (up i n e), fun i n c a e => h.times i n c a (up i n e)⟩
/-! ### values by recursion -/
noncomputable def valF (ks : List Nd) (things : List Nat) (pt : Nat → Rat) : Nat → Nat → Rat
  | 0, _ => 0
  | f + 1, i => if i ∈ things then pt i else match ks[i]? with
    | none => 0
    | some n => if n.op = "num" then (match n.data with | .inr (p, q) => mkRat p q.toNat | .inl _ => 0)
      else if n.op = "+" then (n.args.map fun a => valF ks things pt f a.toNat).sum
      else if n.op = "*" then (match n.args with | [c, a] => valF ks things pt f c.toNat * valF ks things pt f a.toNat | _ => 0) else 0
noncomputable def valOf (ks : List Nd) (things : List Nat) (pt : Nat → Rat) (i : Nat) : Rat := valF ks things pt (i + 1) i
section
variable {ks : List Nd} {kind : Int} {things : List Nat} {L : Nat} {pt : Nat → Rat}
theorem valF_fuel (H : Lin ks kind things L) : ∀ i f g, i < f → i < g → valF ks things pt f i = valF ks things pt g i := by
  intro i
  induction i using Nat.strongRecOn with
  | _ i ih =>
    intro f g hf hg
    obtain ⟨f, rfl⟩ : ∃ k, f = k + 1 := ⟨f - 1, by (first | lia | omega)⟩
    obtain ⟨g, rfl⟩ : ∃ k, g = k + 1 := ⟨g - 1, by (first | lia | omega)⟩
    unfold valF
    by_cases ht : i ∈ things
    · rw [if_pos ht, if_pos ht]
    rw [if_neg ht, if_neg ht]
    cases e : ks[i]? with
    | none => rfl
    | some n =>
      have ha := (H.args i n e).2
      have key : ∀ a ∈ n.args, valF ks things pt f a.toNat = valF ks things pt g a.toNat := fun a hm => by
        obtain ⟨j, rfl, hj⟩ := ha a hm
        rw [Int.toNat_natCast]
        exact ih j hj f g (by (first | lia | omega)) (by (first | lia | omega))
      dsimp only
      split
      · rfl
      · split
        · rw [List.map_congr_left key]
        · split
          · split
            · rename_i c a hargs
              rw [key c (by rw [hargs]; simp), key a (by rw [hargs]; simp)]
            · rfl
          · rfl
theorem valF_of (H : Lin ks kind things L) {i f : Nat} (h : i < f) : valF ks things pt f i = valOf ks things pt i := valF_fuel H i f (i + 1) h (Nat.lt_succ_self _)
theorem valOf_thing {i : Nat} (h : i ∈ things) : valOf ks things pt i = pt i := by unfold valOf valF; rw [if_pos h]
theorem Lin.not_thing (H : Lin ks kind things L) {i : Nat} {n : Nd} (e : ks[i]? = some n) (h : n.op = "num" ∨ n.op = "+" ∨ n.op = "*") : i ∉ things := fun hm => by
  obtain ⟨m, e', _, h1, h2, h3⟩ := H.thing i hm
  rw [e] at e'; cases e'
  rcases h with h | h | h
  · exact h1 h
  · exact h2 h
  · exact h3 h
theorem valOf_lin (H : Lin ks kind things L) : LinVal ks (valOf ks things pt) where
  num := fun i n r e ho hd => by
    unfold valOf valF
    rw [if_neg (H.not_thing e (.inl ho)), e]
    dsimp only
    rw [if_pos ho, hd]
    dsimp only
    rw [Int.toNat_natCast]; exact Rat.mkRat_self r
  plus := fun i n e ho => by
    have ha := (H.args i n e).2
    unfold valOf valF
    rw [if_neg (H.not_thing e (.inr (.inl ho))), e]
    dsimp only
    rw [if_neg (by rw [ho]; decide +kernel), if_pos ho]
    congr 1
    refine List.map_congr_left fun a hm => ?_
    obtain ⟨j, rfl, hj⟩ := ha a hm
    rw [Int.toNat_natCast]
    exact valF_of H hj
  times := fun i n c a e ho hargs => by
    have ha := (H.args i n e).2
    unfold valOf valF
    rw [if_neg (H.not_thing e (.inr (.inr ho))), e]
    dsimp only
    rw [if_neg (by rw [ho]; decide +kernel), if_neg (by rw [ho]; decide +kernel), if_pos ho, hargs]
    dsimp only
    have k : ∀ j : Nat, ((j : Nat) : Int) ∈ n.args → j < i := fun j hm => by obtain ⟨k, e, hk⟩ := ha _ hm; (first | lia | omega)
    rw [Int.toNat_natCast, Int.toNat_natCast, valF_of H (k c (by rw [hargs]; simp)), valF_of H (k a (by rw [hargs]; simp))]
    rfl
/-! ### sizes of the values -/
theorem pow_dvd {i j : Nat} (h : i ≤ j) : 12 ^ i ∣ 12 ^ j := Nat.pow_dvd_pow 12 h
theorem Sz.sum3 {D M : Nat} {α : Type} {l : List α} {f : α → Rat} (h : ∀ a ∈ l, Sz D M (f a)) : Sz D (l.length * M) (l.map f).sum := by
  induction l with
  | nil => simpa using Sz.zero
  | cons x l ih =>
    rw [List.map_cons, List.sum_cons, List.length_cons, Nat.add_mul, Nat.add_comm, Nat.one_mul]
    exact (h x (.head _)).add (ih fun a ha => h a (.tail _ ha))
theorem val_sz (H : Lin ks kind things L) {val : Nat → Rat} (V : LinVal ks val) (hp : ∀ i ∈ things, Sz 12 8 (val i)) :
    ∀ (i : Nat) n, ks[i]? = some n → n.sort = kind → Sz (12 ^ (L + i + 1)) (4 ^ (L + 2) * 5 ^ (i + 1)) (val i) := by
  have k8 : 8 ≤ 4 ^ (L + 2) := by
    have : 4 ^ 2 ≤ 4 ^ (L + 2) := Nat.pow_le_pow_right (by decide) (by (first | lia | omega))
    (first | lia | omega)
  intro i
  induction i using Nat.strongRecOn with
  | _ i ih =>
    intro n e hs
    by_cases h1 : n.op = "num"
    · obtain ⟨_, _, r, hd, hz, _⟩ := H.num i n e h1
      rw [V.num i n r e h1 hd]
      refine hz.mono (pow_dvd (by (first | lia | omega))) ?_
      have : 4 ^ (L + 1) ≤ 4 ^ (L + 2) := Nat.pow_le_pow_right (by decide) (by (first | lia | omega))
      exact Nat.le_trans this (Nat.le_mul_of_pos_right _ (Nat.pow_pos (by decide)))
    by_cases h2 : n.op = "+"
    · rw [V.plus i n e h2]
      have hlen := (H.args i n e).1
      have key : ∀ a ∈ n.args, Sz (12 ^ (L + i)) (4 ^ (L + 2) * 5 ^ i) (val a.toNat) := fun a hm => by
        obtain ⟨j, m, rfl, hj, hms⟩ := (H.plus i n e h2).2 a hm
        obtain ⟨j', e', hlt⟩ := (H.args i n e).2 _ hm
        have : j = j' := by (first | lia | omega)
        subst this
        rw [Int.toNat_natCast]
        exact (ih j hlt m hj hms).mono (pow_dvd (by (first | lia | omega))) (Nat.mul_le_mul (Nat.le_refl _) (Nat.pow_le_pow_right (by decide) (by (first | lia | omega))))
      refine (Sz.sum3 key).mono (pow_dvd (by (first | lia | omega))) ?_
      have : n.args.length * (4 ^ (L + 2) * 5 ^ i) ≤ 3 * (4 ^ (L + 2) * 5 ^ i) := Nat.mul_le_mul hlen (Nat.le_refl _)
      have e5 : 4 ^ (L + 2) * 5 ^ (i + 1) = 5 * (4 ^ (L + 2) * 5 ^ i) := by rw [Nat.pow_succ]; grind
      (first | lia | omega)
    by_cases h3 : n.op = "*"
    · obtain ⟨_, c, a, r, m, hargs, hc, hr, hm, hms⟩ := H.times i n e h3
      rw [V.times i n c a e h3 hargs, V.num c _ r hc rfl rfl]
      obtain ⟨j', e', hlt⟩ := (H.args i n e).2 (a : Int) (by rw [hargs]; simp)
      have : a = j' := by (first | lia | omega)
      subst this
      have q := (ih a hlt m hm hms).mono (pow_dvd (show L + a + 1 ≤ L + i by (first | lia | omega))) (Nat.mul_le_mul (Nat.le_refl (4 ^ (L + 2))) (Nat.pow_le_pow_right (n := 5) (by decide) (show a + 1 ≤ i by (first | lia | omega))))
      refine (hr.mul q).mono (by rw [Nat.pow_succ, Nat.mul_comm]; exact Nat.dvd_refl _) ?_
      have e5 : 4 ^ (L + 2) * 5 ^ (i + 1) = 5 * (4 ^ (L + 2) * 5 ^ i) := by rw [Nat.pow_succ]; grind
      (first | lia | omega)
    · refine (hp i (H.other i n e hs h1 h2 h3)).mono ?_ ?_
      · have := pow_dvd (show 1 ≤ L + i + 1 by (first | lia | omega))
        simpa using this
      · exact Nat.le_trans k8 (Nat.le_mul_of_pos_right _ (Nat.pow_pos (by decide)))
end
theorem small_of {i k : Nat} {r : Rat} (h : Sz (12 ^ i) (k * 5 ^ i) r) (hi : i ≤ 400) (hk : k ≤ 2 ^ 200) : Small r := by
  have h60 : 60 ^ i ≤ 60 ^ 400 := Nat.pow_le_pow_right (by decide) hi
  have h12 : 12 ^ i ≤ 12 ^ 400 := Nat.pow_le_pow_right (by decide) hi
  have b1 : 2 ^ 200 * 60 ^ 400 < 2 ^ 4000 := by decide +kernel
  have b2 : 12 ^ 400 < 2 ^ 4000 := by decide +kernel
  refine h.small (Nat.pow_pos (by decide)) ?_ (Nat.lt_of_le_of_lt h12 b2)
  rw [Nat.mul_assoc, ← Nat.mul_pow]
  exact Nat.lt_of_le_of_lt (Nat.mul_le_mul hk h60) b1
end
section
/-! ## form_of, plainly -/
noncomputable abbrev RL := List (Int × Rat)
noncomputable def rget (W : RL) (k : Int) : Option Rat := (W.find? fun p => p.1 = k).map (·.2)
noncomputable def rput (W : RL) (k : Int) (v : Rat) : RL := if W.any (fun kv => kv.1 = k) then W.map (fun kv => if kv.1 = k then (kv.1, v) else kv) else W ++ [(k, v)]
noncomputable def S (W : RL) (val : Nat → Rat) : Rat := (W.map fun x => x.2 * val x.1.toNat).sum
noncomputable def rpop (W : RL) (k : Int) : RL := W.filter fun kv => decide (kv.1 ≠ k)
theorem S_nil {val : Nat → Rat} : S [] val = 0 := rfl
theorem S_cons {x : Int × Rat} {W : RL} {val : Nat → Rat} : S (x :: W) val = x.2 * val x.1.toNat + S W val := by unfold S; rw [List.map_cons, List.sum_cons]
theorem S_snoc {x : Int × Rat} {W : RL} {val : Nat → Rat} : S (W ++ [x]) val = S W val + x.2 * val x.1.toNat := by
  induction W with
  | nil => rw [List.nil_append, S_cons, S_nil]; grind
  | cons y W ih => rw [List.cons_append, S_cons, S_cons, ih]; grind
theorem rget_none {W : RL} {k : Int} : rget W k = none ↔ ∀ x ∈ W, x.1 ≠ k := by
  unfold rget; rw [Option.map_eq_none_iff, List.find?_eq_none]; simp
theorem rget_mem {W : RL} {k : Int} {r : Rat} (h : rget W k = some r) : (k, r) ∈ W := by
  unfold rget at h
  obtain ⟨x, hx, rfl⟩ := Option.map_eq_some_iff.mp h
  have h1 := List.find?_some hx
  have h1 : x.1 = k := by simpa using h1
  have := List.mem_of_find?_eq_some hx
  rw [← h1]; exact this
theorem rput_new {W : RL} {k : Int} {v : Rat} (h : rget W k = none) : rput W k v = W ++ [(k, v)] := by
  unfold rput
  rw [if_neg]
  rw [rget_none] at h
  rw [List.any_eq_true]
  rintro ⟨x, hx, e⟩
  exact h x hx (by simpa using e)
theorem map_same {W : RL} {k : Int} {v : Rat} (h : ∀ x ∈ W, x.1 ≠ k) : W.map (fun kv => if kv.1 = k then (kv.1, v) else kv) = W := by
  induction W with
  | nil => rfl
  | cons x W ih =>
    rw [List.map_cons, ih fun y hy => h y (.tail _ hy), if_neg (h x (.head _))]
theorem rput_keys {W : RL} {k : Int} {v : Rat} : ∀ x ∈ rput W k v, x.1 = k ∨ x ∈ W := by
  intro x hx
  unfold rput at hx
  split at hx
  · obtain ⟨y, hy, rfl⟩ := List.mem_map.mp hx
    split
    · left; assumption
    · right; assumption
  · rcases List.mem_append.mp hx with h | h
    · exact .inr h
    · rw [List.mem_singleton.mp h]; exact .inl rfl
theorem rput_vals {W : RL} {k : Int} {v : Rat} : ∀ x ∈ rput W k v, x = (k, v) ∨ x ∈ W := by
  intro x hx
  unfold rput at hx
  split at hx
  · obtain ⟨y, hy, rfl⟩ := List.mem_map.mp hx
    split
    · rename_i q; left; rw [q]
    · right; assumption
  · rcases List.mem_append.mp hx with h | h
    · exact .inr h
    · rw [List.mem_singleton.mp h]; exact .inl rfl
theorem rput_nodup {W : RL} {k : Int} {v : Rat} (h : (W.map (·.1)).Nodup) : ((rput W k v).map (·.1)).Nodup := by
  unfold rput
  split
  · have : (W.map (fun kv => if kv.1 = k then (kv.1, v) else kv)).map (·.1) = W.map (·.1) := by
      rw [List.map_map]
      refine List.map_congr_left fun x _ => ?_
      show (if x.1 = k then (x.1, v) else x).1 = x.1
      split <;> rfl
    rw [this]; exact h
  · rename_i hn
    rw [List.map_append, List.nodup_append]
    refine ⟨h, by simp, fun a ha b hb e => ?_⟩
    subst e
    obtain ⟨x, hx, e⟩ := List.mem_map.mp ha
    have hb : a = k := by simpa using hb
    apply hn
    rw [List.any_eq_true]
    exact ⟨x, hx, by simp [e, hb]⟩
theorem S_put {W : RL} {k : Int} {f : Rat} {val : Nat → Rat} (h : (W.map (·.1)).Nodup) : S (rput W k ((rget W k).getD 0 + f)) val = S W val + f * val k.toNat := by
  cases e : rget W k with
  | none => rw [rput_new e, S_snoc]; simp only [Option.getD_none]; grind
  | some r =>
    have hm := rget_mem e
    have hany : (W.any fun kv => kv.1 = k) = true := by rw [List.any_eq_true]; exact ⟨_, hm, by simp⟩
    unfold rput
    rw [if_pos hany]
    simp only [Option.getD_some]
    clear e hany
    induction W with
    | nil => cases hm
    | cons x W ih =>
      rw [List.map_cons, List.nodup_cons] at h
      rw [List.map_cons, S_cons, S_cons]
      rcases List.mem_cons.mp hm with e | hm
      · rw [← e, if_pos rfl, map_same fun y hy q => h.1 (List.mem_map.mpr ⟨y, hy, by rw [q, ← e]⟩)]
        dsimp only; grind
      · have hne : x.1 ≠ k := fun q => h.1 (List.mem_map.mpr ⟨_, hm, q.symm⟩)
        rw [if_neg hne, ih h.2 hm]
        grind
theorem S_pop {W : RL} {k : Int} {r : Rat} {val : Nat → Rat} (h : (W.map (·.1)).Nodup) (hm : (k, r) ∈ W) : S W val = r * val k.toNat + S (rpop W k) val := by
  induction W with
  | nil => cases hm
  | cons x W ih =>
    rw [List.map_cons, List.nodup_cons] at h
    unfold rpop
    rw [S_cons, List.filter_cons]
    rcases List.mem_cons.mp hm with e | hm
    · rw [← e]
      have : W.filter (fun kv => decide (kv.1 ≠ k)) = W := by
        rw [List.filter_eq_self]
        intro y hy
        have : y.1 ≠ k := fun q => h.1 (List.mem_map.mpr ⟨y, hy, by rw [q, ← e]⟩)
        simpa using this
      rw [if_neg (by simp), this]
    · have hne : x.1 ≠ k := fun q => h.1 (List.mem_map.mpr ⟨_, hm, q.symm⟩)
      rw [if_pos (by simpa using hne), S_cons]
      have := ih h.2 hm
      unfold rpop at this
      rw [this]; grind
theorem rpop_mem {W : RL} {k : Int} {x : Int × Rat} : x ∈ rpop W k ↔ x ∈ W ∧ x.1 ≠ k := by unfold rpop; simp
theorem rpop_nodup {W : RL} {k : Int} (h : (W.map (·.1)).Nodup) : ((rpop W k).map (·.1)).Nodup := h.sublist (List.filter_sublist.map _)
theorem rget_sz {W : RL} {k : Int} {D M : Nat} (h : ∀ x ∈ W, Sz D M x.2) : Sz D M ((rget W k).getD 0) := by
  cases e : rget W k with
  | none => exact Sz.zero
  | some r => exact h _ (rget_mem e)
/-- the keys that still wait: number terms below b -/
structure WK (ks : List Nd) (kind : Int) (b : Nat) (W : RL) : Prop where
  at_ : ∀ x ∈ W, ∃ (j : Nat) (m : Nd), x.1 = (j : Int) ∧ j < b ∧ ks[j]? = some m ∧ m.sort = kind
  nd : (W.map (·.1)).Nodup
structure PK (things : List Nat) (b : Nat) (P : RL) : Prop where
  at_ : ∀ x ∈ P, ∃ j : Nat, x.1 = (j : Int) ∧ b ≤ j ∧ j ∈ things
  nd : (P.map (·.1)).Nodup
  nz : ∀ x ∈ P, x.2 ≠ 0
structure FI (ks : List Nd) (kind : Int) (things : List Nat) (L t : Nat) (i b : Nat) (W P : RL) (C : Rat) : Prop where
  ib : i + b ≤ ks.length
  wk : WK ks kind b W
  pk : PK things b P
  ws : ∀ x ∈ W, Sz (12 ^ i) (5 ^ i) x.2
  ps : ∀ x ∈ P, Sz (12 ^ i) (5 ^ i) x.2
  cs : Sz (12 ^ (L + i)) (4 ^ (L + 1) * 5 ^ i) C
  id : ∀ val, LinVal ks val → val t = C + S P val + S W val
section
variable {ks : List Nd} {kind : Int} {things : List Nat} {L t : Nat}
theorem FI.start {m : Nd} (h : ks[t]? = some m) (hs : m.sort = kind) : FI ks kind things L t 0 (t + 1) [((t : Int), 1)] [] 0 where
  ib := by have := (List.getElem?_eq_some_iff.mp h).1; (first | lia | omega)
  wk := ⟨fun x hx => by rw [List.mem_singleton.mp hx]; exact ⟨t, m, rfl, by (first | lia | omega), h, hs⟩, by simp⟩
  pk := ⟨fun _ h => (nomatch h), List.nodup_nil, fun _ h => nomatch h⟩
  ws := fun x hx => by rw [List.mem_singleton.mp hx]; exact ⟨1, by simp, by simp⟩
  ps := fun _ h => nomatch h
  cs := Sz.zero
  id := fun val _ => by rw [S_nil, S_cons, S_nil]; simp only [Int.toNat_natCast]; grind
theorem WK.pop {b : Nat} {W : RL} (w : WK ks kind b W) {k : Nat} (h : ∀ x ∈ W, x.1 ≤ (k : Int)) : WK ks kind k (rpop W k) where
  at_ := fun x hx => by
    rw [rpop_mem] at hx
    obtain ⟨j, m, e, hj, hm, hs⟩ := w.at_ x hx.1
    have := h x hx.1
    exact ⟨j, m, e, by (first | lia | omega), hm, hs⟩
  nd := rpop_nodup w.nd
theorem WK.put {b : Nat} {W : RL} (w : WK ks kind b W) {j : Nat} {m : Nd} {v : Rat} (hj : j < b) (hm : ks[j]? = some m) (hs : m.sort = kind) : WK ks kind b (rput W j v) where
  at_ := fun x hx => by
    rcases rput_keys x hx with e | h
    · exact ⟨j, m, e, hj, hm, hs⟩
    · exact w.at_ x h
  nd := rput_nodup w.nd
theorem PK.lower {b b' : Nat} {P : RL} (p : PK things b P) (h : b' ≤ b) : PK things b' P :=
  ⟨fun x hx => by obtain ⟨j, e, hj, hm⟩ := p.at_ x hx; exact ⟨j, e, by (first | lia | omega), hm⟩, p.nd, p.nz⟩
theorem pow5 {i j : Nat} (h : i ≤ j) : 5 ^ i ≤ 5 ^ j := Nat.pow_le_pow_right (by decide) h
theorem up1 {i : Nat} {r : Rat} (h : Sz (12 ^ i) (5 ^ i) r) : Sz (12 ^ (i + 1)) (5 ^ (i + 1)) r := h.mono (pow_dvd (by (first | lia | omega))) (pow5 (by (first | lia | omega)))
theorem FI.get {i b : Nat} {W P : RL} {C : Rat} (F : FI ks kind things L t i b W P C) {k : Int} {f : Rat} (hm : (k, f) ∈ W) : ∃ (j : Nat) (m : Nd), k = (j : Int) ∧ j < b ∧ ks[j]? = some m ∧ m.sort = kind := F.wk.at_ _ hm
/-- a step: what all kinds of it share -/
theorem FI.step {i b : Nat} {W P : RL} {C : Rat} (F : FI ks kind things L t i b W P C) {k : Nat} {f : Rat} (hm : ((k : Int), f) ∈ W) (hmax : ∀ x ∈ W, x.1 ≤ (k : Int))
    {W' P' : RL} {C' : Rat} (wk : WK ks kind k W') (pk : PK things k P') (ws : ∀ x ∈ W', Sz (12 ^ (i + 1)) (5 ^ (i + 1)) x.2) (ps : ∀ x ∈ P', Sz (12 ^ (i + 1)) (5 ^ (i + 1)) x.2)
    (cs : Sz (12 ^ (L + (i + 1))) (4 ^ (L + 1) * 5 ^ (i + 1)) C')
    (id : ∀ val, LinVal ks val → C + S P val + (f * val k + S (rpop W k) val) = C' + S P' val + S W' val) : FI ks kind things L t (i + 1) k W' P' C' where
  ib := by obtain ⟨j, m, e, hj, _⟩ := F.wk.at_ _ hm; have := F.ib; dsimp only at e; (first | lia | omega)
  wk := wk
  pk := pk
  ws := ws
  ps := ps
  cs := cs
  id := fun val V => by rw [F.id val V, S_pop F.wk.nd hm, Int.toNat_natCast]; exact id val V
theorem FI.cs' {i b : Nat} {W P : RL} {C : Rat} (F : FI ks kind things L t i b W P C) : Sz (12 ^ (L + (i + 1))) (4 ^ (L + 1) * 5 ^ (i + 1)) C := F.cs.mono (pow_dvd (by (first | lia | omega))) (Nat.mul_le_mul (Nat.le_refl _) (pow5 (by (first | lia | omega))))
theorem FI.popW {i b : Nat} {W P : RL} {C : Rat} (F : FI ks kind things L t i b W P C) {k : Int} : ∀ x ∈ rpop W k, Sz (12 ^ i) (5 ^ i) x.2 := fun x hx => F.ws x (rpop_mem.mp hx).1
theorem FI.lt {i b : Nat} {W P : RL} {C : Rat} (F : FI ks kind things L t i b W P C) {k : Nat} {f : Rat} (hm : ((k : Int), f) ∈ W) : k < b := by obtain ⟨j, m, e, hj, _⟩ := F.wk.at_ _ hm; dsimp only at e; (first | lia | omega)
theorem FI.num {i b : Nat} {W P : RL} {C : Rat} (F : FI ks kind things L t i b W P C) (H : Lin ks kind things L) {k : Nat} {f : Rat} (hm : ((k : Int), f) ∈ W) (hmax : ∀ x ∈ W, x.1 ≤ (k : Int)) {n : Nd} {r : Rat} (hn : ks[k]? = some n) (ho : n.op = "num") (hd : n.data = .inr (r.num, (r.den : Int))) :
    Sz (12 ^ (L + i)) (4 ^ (L + 1) * 5 ^ i) (r * f) ∧ FI ks kind things L t (i + 1) k (rpop W k) P (C + r * f) := by
  obtain ⟨_, _, r', hd', hz, _⟩ := H.num k n hn ho
  have e : r = r' := by
    rw [hd] at hd'
    injection hd' with q
    injection q with q1 q2
    exact Rat.ext q1 (by (first | lia | omega))
  subst e
  have hrf : Sz (12 ^ (L + i)) (4 ^ (L + 1) * 5 ^ i) (r * f) := by have := hz.mul (F.ws _ hm); rwa [← Nat.pow_add] at this
  refine ⟨hrf, F.step hm hmax (F.wk.pop hmax) (F.pk.lower (Nat.le_of_lt (F.lt hm))) (fun x hx => up1 (F.popW x hx)) (fun x hx => up1 (F.ps x hx)) ?_ fun val V => ?_⟩
  · refine (F.cs.add hrf).mono (pow_dvd (by (first | lia | omega))) ?_
    have e5 : 4 ^ (L + 1) * 5 ^ (i + 1) = 5 * (4 ^ (L + 1) * 5 ^ i) := by rw [Nat.pow_succ]; grind
    (first | lia | omega)
  · rw [V.num k n r hn ho hd]; grind
theorem FI.skip {i b : Nat} {W P : RL} {C : Rat} (F : FI ks kind things L t i b W P C) {k : Nat} (hm : ((k : Int), (0 : Rat)) ∈ W) (hmax : ∀ x ∈ W, x.1 ≤ (k : Int)) : FI ks kind things L t (i + 1) k (rpop W k) P C :=
  F.step hm hmax (F.wk.pop hmax) (F.pk.lower (Nat.le_of_lt (F.lt hm))) (fun x hx => up1 (F.popW x hx)) (fun x hx => up1 (F.ps x hx)) F.cs' fun val V => by grind
theorem FI.part {i b : Nat} {W P : RL} {C : Rat} (F : FI ks kind things L t i b W P C) {k : Nat} {f : Rat} (hm : ((k : Int), f) ∈ W) (hmax : ∀ x ∈ W, x.1 ≤ (k : Int)) (hf : f ≠ 0) (hk : k ∈ things) :
    rget P k = none ∧ FI ks kind things L t (i + 1) k (rpop W k) (rput P k f) C := by
  have hlt := F.lt hm
  have hno : rget P k = none := rget_none.mpr fun x hx e => by obtain ⟨j, e', hj, _⟩ := F.pk.at_ x hx; (first | lia | omega)
  refine ⟨hno, F.step hm hmax (F.wk.pop hmax) ⟨fun x hx => ?_, rput_nodup F.pk.nd, fun x hx => ?_⟩ (fun x hx => up1 (F.popW x hx)) (fun x hx => ?_) F.cs' fun val V => ?_⟩
  · rcases rput_keys x hx with e | h
    · exact ⟨k, e, Nat.le_refl _, hk⟩
    · obtain ⟨j, e, hj, hm⟩ := F.pk.at_ x h; exact ⟨j, e, by (first | lia | omega), hm⟩
  · rcases rput_vals x hx with e | h
    · rw [e]; exact hf
    · exact F.pk.nz x h
  · rcases rput_vals x hx with e | h
    · rw [e]; exact up1 (F.ws _ hm)
    · exact up1 (F.ps x h)
  · rw [rput_new hno, S_snoc, Int.toNat_natCast]; grind
theorem FI.times {i b : Nat} {W P : RL} {C : Rat} (F : FI ks kind things L t i b W P C) (H : Lin ks kind things L) {k : Nat} {f : Rat} (hm : ((k : Int), f) ∈ W) (hmax : ∀ x ∈ W, x.1 ≤ (k : Int)) {n : Nd} {c a : Nat} {r : Rat} {ma : Nd} (hn : ks[k]? = some n) (ho : n.op = "*") (hargs : n.args = [(c : Int), (a : Int)])
    (hc : ks[c]? = some ⟨"num", [], kind, .inr (r.num, (r.den : Int))⟩) (hr : Sz 12 4 r) (ha : ks[a]? = some ma) (hs : ma.sort = kind) :
    Sz (12 ^ (i + 1)) (4 * 5 ^ i) (r * f) ∧ FI ks kind things L t (i + 1) k (rput (rpop W k) a ((rget (rpop W k) a).getD 0 + r * f)) P C := by
  have hrf : Sz (12 ^ (i + 1)) (4 * 5 ^ i) (r * f) := by have := hr.mul (F.ws _ hm); rw [Nat.pow_succ, Nat.mul_comm]; exact this
  have hlt : a < k := by obtain ⟨j, e, hj⟩ := (H.args k n hn).2 (a : Int) (by rw [hargs]; simp); (first | lia | omega)
  have wk := F.wk.pop hmax
  refine ⟨hrf, F.step hm hmax (wk.put hlt ha hs) (F.pk.lower (Nat.le_of_lt (F.lt hm))) (fun x hx => ?_) (fun x hx => up1 (F.ps x hx)) F.cs' fun val V => ?_⟩
  · rcases rput_vals x hx with e | h
    · rw [e]
      have q := ((rget_sz (k := (a : Int)) (F.popW (k := (k : Int)))).mono (pow_dvd (show i ≤ i + 1 by (first | lia | omega))) (Nat.le_refl _)).add hrf
      refine q.mono (Nat.dvd_refl _) ?_
      rw [Nat.pow_succ]; (first | lia | omega)
    · exact up1 (F.popW x h)
  · rw [S_put wk.nd, V.times k n c a hn ho hargs, V.num c _ r hc rfl rfl, Int.toNat_natCast]; grind
/-- the waiting list while a sum's terms are put in -/
structure WI (ks : List Nd) (kind : Int) (i k : Nat) (f : Rat) (W0 : RL) (l : List Int) (W' : RL) : Prop where
  wk : WK ks kind k W'
  ws : ∀ x ∈ W', Sz (12 ^ i) ((l.length + 1) * 5 ^ i) x.2
  id : ∀ val : Nat → Rat, S W' val = S W0 val + f * (l.map fun a => val a.toNat).sum
theorem WI.start {i b : Nat} {W P : RL} {C : Rat} (F : FI ks kind things L t i b W P C) {k : Nat} {f : Rat} (hmax : ∀ x ∈ W, x.1 ≤ (k : Int)) : WI ks kind i k f (rpop W k) [] (rpop W k) :=
  ⟨F.wk.pop hmax, fun x hx => by simpa using F.popW x hx, fun val => by simp only [List.map_nil, List.sum_nil]; grind⟩
theorem WI.next {i k : Nat} {f : Rat} {W0 W' : RL} {l : List Int} (w : WI ks kind i k f W0 l W') (hf : Sz (12 ^ i) (5 ^ i) f) {j : Nat} {m : Nd} (hj : j < k) (hm : ks[j]? = some m) (hs : m.sort = kind) :
    WI ks kind i k f W0 (l ++ [(j : Int)]) (rput W' j ((rget W' j).getD 0 + f)) where
  wk := w.wk.put hj hm hs
  ws := fun x hx => by
    have e : (l ++ [(j : Int)]).length + 1 = (l.length + 1) + 1 := by simp
    rw [e, Nat.add_mul (l.length + 1) 1, Nat.one_mul]
    rcases rput_vals x hx with e | h
    · rw [e]; exact (rget_sz w.ws).add hf
    · exact (w.ws x h).mono (Nat.dvd_refl _) (Nat.le_add_right _ _)
  id := fun val => by rw [S_put w.wk.nd, w.id val, List.map_append, List.sum_append, Int.toNat_natCast]; simp only [List.map_cons, List.map_nil, Int.toNat_natCast, List.sum_cons, List.sum_nil]; grind
theorem WI.done {i b : Nat} {W P : RL} {C : Rat} (F : FI ks kind things L t i b W P C) (H : Lin ks kind things L) {k : Nat} {f : Rat} (hm : ((k : Int), f) ∈ W) (hmax : ∀ x ∈ W, x.1 ≤ (k : Int)) {n : Nd} (hn : ks[k]? = some n) (ho : n.op = "+") {W' : RL} (w : WI ks kind i k f (rpop W k) n.args W') :
    FI ks kind things L t (i + 1) k W' P C := by
  have hlen := (H.args k n hn).1
  refine F.step hm hmax w.wk (F.pk.lower (Nat.le_of_lt (F.lt hm))) (fun x hx => ?_) (fun x hx => up1 (F.ps x hx)) F.cs' fun val V => ?_
  · refine (w.ws x hx).mono (pow_dvd (by (first | lia | omega))) ?_
    rw [Nat.pow_succ, Nat.mul_comm (5 ^ i) 5]
    exact Nat.mul_le_mul (by (first | lia | omega)) (Nat.le_refl _)
  · rw [w.id val, V.plus k n hn ho]; grind
end
end
section
/-! ## dicts of fractions -/
inductive DR (σ : Sg) : List (Int × V) → RL → Prop
  | nil : DR σ [] []
  | cons {k : Int} {a : Addr} {r : Rat} {kvs : List (Int × V)} {W : RL} : σ a = some (frac r) → DR σ kvs W → DR σ ((k, .ref a) :: kvs) ((k, r) :: W)
section
variable {σ σ' : Sg} {kvs : List (Int × V)} {W : RL} {k : Int} {r : Rat} {a : Addr}
theorem DR.tsub (s : TSub σ σ') (h : DR σ kvs W) : DR σ' kvs W := by
  induction h with
  | nil => exact .nil
  | cons h1 _ ih => exact .cons (s _ _ h1) ih
theorem DR.sub (s : Sub σ σ') (h : DR σ kvs W) : DR σ' kvs W := h.tsub fun a vs e => s _ _ e
theorem DR.length (h : DR σ kvs W) : kvs.length = W.length := by
  induction h with
  | nil => rfl
  | cons _ _ ih => simp [ih]
theorem DR.mem (h : DR σ kvs W) {v : V} (hm : (k, v) ∈ kvs) : ∃ r a, (k, r) ∈ W ∧ v = .ref a ∧ σ a = some (frac r) := by
  induction h with
  | nil => cases hm
  | cons h1 _ ih =>
    rcases List.mem_cons.mp hm with e | hm
    · cases e; exact ⟨_, _, .head _, rfl, h1⟩
    · obtain ⟨r, a, x, y⟩ := ih hm; exact ⟨r, a, .tail _ x, y⟩
theorem DR.key (h : DR σ kvs W) {x : Int × Rat} (hm : x ∈ W) : ∃ v, (x.1, v) ∈ kvs := by
  induction h with
  | nil => cases hm
  | cons h1 _ ih =>
    rcases List.mem_cons.mp hm with e | hm
    · rw [e]; exact ⟨_, .head _⟩
    · obtain ⟨v, x⟩ := ih hm; exact ⟨v, .tail _ x⟩
theorem DR.get (h : DR σ kvs W) (k : Int) : match rget W k with
    | some r => ∃ a, dget kvs k = some (.ref a) ∧ σ a = some (frac r)
    | none => dget kvs k = none := by
  induction h with
  | nil => rfl
  | @cons k' a r kvs W h1 _ ih =>
    unfold rget dget at ih ⊢
    by_cases q : k' = k
    · simp only [List.find?_cons, q, decide_true, Option.map_some]; exact ⟨a, rfl, h1⟩
    · simp only [List.find?_cons, q, decide_false]; exact ih
theorem DR.some (h : DR σ kvs W) (e : rget W k = some r) : ∃ a, dget kvs k = some (.ref a) ∧ σ a = some (frac r) := by have := h.get k; rw [e] at this; exact this
theorem DR.none (h : DR σ kvs W) (e : rget W k = none) : dget kvs k = none := by have := h.get k; rw [e] at this; exact this
theorem DR.put (h : DR σ kvs W) (k : Int) (e : σ a = Option.some (frac r)) : DR σ (dput kvs k (.ref a)) (rput W k r) := by
  have hany : (kvs.any fun kv => kv.1 = k) = W.any fun kv => kv.1 = k := by
    induction h with
    | nil => rfl
    | cons _ _ ih => simp only [List.any_cons, ih]
  unfold dput rput
  rw [hany]
  split
  · rename_i hh; clear hany hh
    induction h with
    | nil => exact .nil
    | @cons k' a' r' kvs W h1 _ ih =>
      simp only [List.map_cons]
      by_cases q : k' = k
      · simp only [q, if_true]; exact .cons e ih
      · simp only [q, if_false]; exact .cons h1 ih
  · rename_i hh; clear hany hh
    induction h with
    | nil => exact .cons e .nil
    | cons h1 _ ih => exact .cons h1 ih
theorem DR.pop (h : DR σ kvs W) (k : Int) : DR σ (kvs.filter fun kv => decide (kv.1 ≠ k)) (rpop W k) := by
  unfold rpop
  induction h with
  | nil => exact .nil
  | @cons k' a r kvs W h1 _ ih =>
    by_cases q : k' = k
    · simp only [List.filter_cons, q, ne_eq, not_true_eq_false, decide_false, Bool.false_eq_true, if_false]; exact ih
    · simp only [List.filter_cons, q, ne_eq, not_false_eq_true, decide_true, if_true]; exact .cons h1 ih
/-- the value at a key, nought where there is none -/
theorem DR.get0 (h : DR σ kvs W) (h0 : σ 89 = Option.some (frac 0)) (k : Int) : ∃ a, (dget kvs k).getD (.ref 89) = .ref a ∧ σ a = Option.some (frac ((rget W k).getD 0)) := by
  cases e : rget W k with
  | none => rw [h.none e]; exact ⟨89, rfl, h0⟩
  | some r => obtain ⟨a, h1, h2⟩ := h.some e; rw [h1]; exact ⟨a, rfl, h2⟩
theorem DR.mem_get (h : DR σ kvs W) {v : V} (hm : (k, v) ∈ kvs) (hn : (W.map (·.1)).Nodup) : ∃ r a, (k, r) ∈ W ∧ dget kvs k = Option.some (.ref a) ∧ σ a = Option.some (frac r) := by
  cases e : rget W k with
  | none => obtain ⟨r, a, x, _⟩ := h.mem hm; exact absurd rfl (rget_none.mp e _ x)
  | some r => obtain ⟨a, h1, h2⟩ := h.some e; exact ⟨r, a, rget_mem e, h1, h2⟩
end
theorem at_form : At 188 (topN PW 15) ["bank", "t"] := ⟨fun P => ⟨by kernel_rfl, by kernel_rfl, by kernel_rfl, fun a b => by show bindArgs _ _ = _; kernel_rfl⟩, by kernel_rfl, by decide +kernel⟩
noncomputable abbrev Bk.keys (B : Bk) : List Nd := B.nodes.map (·.key)
theorem Bk.key {B : Bk} {i : Nat} {n : Nd} (h : B.keys[i]? = some n) : ∃ m, B.nodes[i]? = some m ∧ m.key = n := by
  rw [List.getElem?_map] at h
  obtain ⟨m, h1, h2⟩ := Option.map_eq_some_iff.mp h
  exact ⟨m, h1, h2⟩
theorem BankAt.num {σ : Sg} {B : Bk} (H : BankAt σ B) {i : Nat} {m : Nn} (hm : B.nodes[i]? = some m) {r : Rat} (hd : m.key.data = .inr (r.num, (r.den : Int))) : ∃ a, m.dV = .ref a ∧ σ a = some (frac r) := by
  have := (H.node m (List.mem_of_getElem? hm)).2
  rw [hd] at this
  exact this
/-- what form_of hands back -/
structure FormRes (ks : List Nd) (things : List Nat) (L t : Nat) (N : Nat) (P : RL) (C : Rat) : Prop where
  pk : PK things 0 P
  ps : ∀ x ∈ P, Sz (12 ^ N) (5 ^ N) x.2
  cs : Sz (12 ^ (L + N)) (4 ^ (L + 1) * 5 ^ N) C
  id : ∀ val, LinVal ks val → val t = C + S P val
theorem pig : ∀ (b : Nat) (l : List Int), l.Nodup → (∀ x ∈ l, ∃ j : Nat, x = (j : Int) ∧ j < b) → l.length ≤ b
  | 0, l, _, h => by
    cases l with
    | nil => exact Nat.le_refl _
    | cons x l => obtain ⟨j, _, hj⟩ := h x (.head _); (first | lia | omega)
  | b + 1, l, hn, h => by
    by_cases hm : (b : Int) ∈ l
    · have e := List.length_erase_of_mem hm
      have := pig b (l.erase (b : Int)) (hn.sublist List.erase_sublist) fun x hx => by
        rw [hn.mem_erase_iff] at hx
        obtain ⟨j, e, hj⟩ := h x hx.2
        exact ⟨j, e, by have := hx.1; (first | lia | omega)⟩
      (first | lia | omega)
    · have := pig b l hn fun x hx => by
        obtain ⟨j, e, hj⟩ := h x hx
        refine ⟨j, e, ?_⟩
        have : j ≠ b := fun q => hm (by rw [← q, ← e]; exact hx)
        (first | lia | omega)
      (first | lia | omega)
theorem small_C {L i : Nat} {r : Rat} (h : Sz (12 ^ (L + i)) (4 ^ (L + 1) * 5 ^ i) r) (hL : L ≤ 10) (hi : i ≤ 300) : Small r :=
  small_of (i := L + i) (k := 4 ^ (L + 1)) (h.mono (Nat.dvd_refl _) (Nat.mul_le_mul (Nat.le_refl _) (pow5 (by (first | lia | omega))))) (by (first | lia | omega)) (Nat.le_trans (Nat.pow_le_pow_right (by decide) (show L + 1 ≤ 11 by (first | lia | omega))) (by decide))
theorem num_key {ks : List Nd} {kind : Int} {things : List Nat} {L : Nat} (H : Lin ks kind things L) {i : Nat} {n : Nd} (h : ks[i]? = some n) (ho : n.op = "num") : ∃ r : Rat, n.data = .inr (r.num, (r.den : Int)) := by
  obtain ⟨_, _, r, hd, _⟩ := H.num i n h ho
  exact ⟨r, hd⟩
section
variable {n : Nat} {σ : Sg} {Φ : V → Sg → Prop} {B : Bk} {kind : Int} {things : List Nat} {L t : Nat}
inductive FormI (B : Bk) (kind : Int) (things : List Nat) (L t : Nat) (f dx pd wd : Addr) (σ : Sg) (b : Nat) (ρ : Rho) (σ' : Sg) : Prop
  | mk (i : Nat) (W P : RL) (C : Rat) (kw kp : List (Int × V)) (ca : Addr) (c0 : ρ = binds ["bank", "t", "found", "waiting"] [.ref B.a, .int t, .ref f, .ref wd]) (c1 : Sub σ σ') (c2 : FormAt σ' f dx pd kp ca (Rat.num C) (Rat.den C)) (c3 : σ' wd = some (.idict kw)) (c4 : DR σ' kw W) (c5 : DR σ' kp P) (c6 : FI B.keys kind things L t i b W P C) : FormI B kind things L t f dx pd wd σ b ρ σ'
inductive FormJ (B : Bk) (kind : Int) (i j t : Nat) (f dx pd wd fa ca : Addr) (kp : List (Int × V)) (W P : RL) (C fr : Rat) (mj : Nn) (σ : Sg) (k : Nat) (ρ : Rho) (σ' : Sg) : Prop
  | mk (W' : RL) (kw' : List (Int × V)) (c0 : ρ = binds ["bank", "t", "found", "waiting", "factor", "here", "args"] [.ref B.a, .int t, .ref f, .ref wd, .ref fa, .int j, .ref mj.aA]) (c1 : Sub σ σ') (c2 : FormAt σ' f dx pd kp ca (Rat.num C) (Rat.den C)) (c3 : σ' wd = some (.idict kw')) (c4 : DR σ' kw' W') (c5 : DR σ' kp P) (c6 : σ' fa = some (frac fr)) (c7 : WI B.keys kind i j fr (rpop W j) (mj.key.args.take k) W') : FormJ B kind i j t f dx pd wd fa ca kp W P C fr mj σ k ρ σ'
theorem form_ok (H : BankAt σ B) (hl : Lin B.keys kind things L) (hL : L ≤ 10) (hz : B.nodes.length ≤ 300) (h89 : σ 89 = some (frac 0)) (h90 : σ 90 = some (frac 1)) {m : Nn} (hm : B.nodes[t]? = some m) (hs : m.key.sort = kind)
    (h : ∀ f dx pd ca kvs P C σ', Sub σ σ' → σ f = none → σ dx = none → σ pd = none → FormAt σ' f dx pd kvs ca C.num C.den → DR σ' kvs P → FormRes B.keys things L t B.nodes.length P C → Φ (.ref f) σ') :
    CallOk (n + 6) 188 [.ref B.a, .int t] σ Φ := by
  refine CallOk.of TT_ok at_form (k := 20) (j := 20) rfl ?_
  refine lf_ok h89 fun f dx pd σ1 s1 nf ndx npd F1 => ?_
  refine fun wd hwd => ⟨upd_same, ?_⟩
  have kk : B.keys[t]? = some m.key := by rw [List.getElem?_map, hm]; rfl
  have nwd : σ wd = none := by
    cases e : σ wd with
    | none => rfl
    | some ob => rw [s1 _ _ e] at hwd; cases hwd
  have s2 : Sub σ1 (upd (upd σ1 wd (.idict [])) wd (.idict [((t : Int), .ref 90)])) := fun a ob e => by
    have : a ≠ wd := fun q => by rw [q, hwd] at e; cases e
    rw [upd_ne this, upd_ne this]; exact e
  have e2 : upd (upd σ1 wd (.idict [])) wd (.idict [((t : Int), .ref 90)]) wd = some (.idict [((t : Int), .ref 90)]) := upd_same
  generalize upd (upd σ1 wd (.idict [])) wd (.idict [((t : Int), .ref 90)]) = σ2 at s2 e2
  have F2 : FormAt σ2 f dx pd [] 89 0 1 := ⟨⟨s2 _ _ F1.inst.obj, s2 _ _ F1.inst.dict⟩, s2 _ _ F1.parts, s2 _ _ F1.const⟩
  have s12 := s1.trans s2
  have nwp : wd ≠ pd := fun q => by rw [q, F1.parts] at hwd; cases hwd
  refine ⟨(FormI B kind things L t f dx pd wd σ),
    t + 1, _, σ2, rsub_cons (rsub_cons (rsub_cons (rsub_cons rsub_nil rfl) rfl) rfl) rfl, Sub.refl, ⟨0, _, [], 0, _, [], 89, rfl, s12, F2, e2, .cons (s12 _ _ h90) .nil, .nil, FI.start kk hs⟩, ?_⟩
  rintro b ρ σ' ⟨i, W, P, C, kw, kp, ca, rfl, ss, FA, ew, dw, dp, FF⟩
  have klen : B.keys.length = B.nodes.length := List.length_map _
  have hi : i ≤ 300 := by have := FF.ib; (first | lia | omega)
  have wlen : kw.length ≤ 300 := by
    have := pig b (W.map (·.1)) FF.wk.nd fun x hx => by
      obtain ⟨y, hy, rfl⟩ := List.mem_map.mp hx
      obtain ⟨j, m, e, hj, _⟩ := FF.wk.at_ y hy
      exact ⟨j, e, hj⟩
    rw [List.length_map, ← dw.length] at this
    have := FF.ib
    (first | lia | omega)
  refine BSpec.lenD ew (by (first | lia | omega)) ⟨fun hb => ?_, fun hb => ?_⟩
  · have hne : kw ≠ [] := fun e => by
      subst e
      have : decide ((0 : Int) < ((0 : Nat) : Int)) = true := hb
      simp at this
    refine BSpec.max ew hne fun k v hkv hmx => ?_
    obtain ⟨fr, fa, hW, hg, hfa⟩ := dw.mem_get hkv FF.wk.nd
    obtain ⟨j, nd, rfl, hjb, hnd, hns⟩ := FF.get hW
    have hmax : ∀ x ∈ W, x.1 ≤ (j : Int) := fun x hx => by obtain ⟨v, hv⟩ := dw.key hx; exact hmx _ hv
    obtain ⟨mj, hmj, rfl⟩ := Bk.key hnd
    refine .inr ⟨_, MSpec.dpop ew, BSpec.dpop ew hg (by have : 300 ≤ sizeLine := Nat.le_of_ble_eq_true rfl; (first | lia | omega)) ?_⟩
    have nk : ∀ a ob, σ a = some ob → a ≠ wd := fun a ob e q => by rw [q, nwd] at e; cases e
    have T3 : TSub σ' (upd σ' wd (.idict (kw.filter fun kv => decide (kv.1 ≠ (j : Int))))) := TSub.upd ew fun _ => nofun
    have s3 : Sub σ (upd σ' wd (.idict (kw.filter fun kv => decide (kv.1 ≠ (j : Int))))) := fun a ob e => by rw [upd_ne (nk a ob e)]; exact ss _ _ e
    have e3 : upd σ' wd (.idict (kw.filter fun kv => decide (kv.1 ≠ (j : Int)))) wd = _ := upd_same
    have FA3 : FormAt (upd σ' wd (.idict (kw.filter fun kv => decide (kv.1 ≠ (j : Int))))) f dx pd kp ca (Rat.num C) (Rat.den C) :=
      ⟨FA.inst.upd ew (fun _ _ => nofun) (fun _ => nofun), (upd_ne nwp.symm).trans FA.parts, T3 _ _ FA.const⟩
    have d3 := (dw.pop (j : Int)).tsub T3
    have p3 := dp.tsub T3
    have f3 := T3 _ _ hfa
    generalize upd σ' wd (.idict (kw.filter fun kv => decide (kv.1 ≠ (j : Int)))) = σ3 at T3 s3 e3 FA3 d3 p3 f3
    have H3 := H.sub s3
    have z3 := s3 _ _ h89
    have sf : Small fr := small_of (k := 1) (by rw [Nat.one_mul]; exact FF.ws _ hW) (by (first | lia | omega)) (by decide)
    have sC : Small C := small_C FF.cs hL hi
    refine .inl ⟨_, _, _, _, 293, rfl, H3.inst, H3.own _ (by decide +kernel), by kernel_rfl, op_ok H3 hmj (by (first | lia | omega)) ?_⟩
    refine .inl ⟨_, _, _, _, 300, rfl, H3.inst, H3.own _ (by decide +kernel), by kernel_rfl, args_ok H3 hmj (by (first | lia | omega)) fun q hq => ?_⟩
    have s4 : Sub σ3 (upd σ3 q (.tup [.str mj.key.op, .ref mj.aA])) := Sub.upd hq
    have FA4 : FormAt (upd σ3 q (.tup [.str mj.key.op, .ref mj.aA])) f dx pd kp ca (Rat.num C) (Rat.den C) := ⟨⟨s4 _ _ FA3.inst.obj, s4 _ _ FA3.inst.dict⟩, s4 _ _ FA3.parts, s4 _ _ FA3.const⟩
    have e4 := s4 _ _ e3
    have d4 := d3.sub s4
    have p4 := p3.sub s4
    have f4 := s4 _ _ f3
    have H4 := H3.sub s4
    have z4 := s4 _ _ z3
    have s04 := s3.trans s4
    generalize upd σ3 q (.tup [.str mj.key.op, .ref mj.aA]) = σ4 at FA4 e4 d4 p4 f4 H4 z4 s04
    clear s4
    refine ⟨fun ho => ?_, fun ho => ⟨fun ho2 => ?_, fun ho2 => ⟨fun ho3 => ?_, fun ho3 => ?_⟩⟩⟩
    · have ho : mj.key.op = "num" := by simpa using ho
      obtain ⟨r, hd⟩ := num_key hl hnd ho
      obtain ⟨da, hda, hdf⟩ := H4.num hmj hd
      obtain ⟨sz, FN⟩ := FF.num hl hW hmax hnd ho hd
      have srf : Small (r * fr) := small_C sz hL hi
      have sr : Small r := by
        obtain ⟨_, _, r', hd', hz, _⟩ := hl.num j _ hnd ho
        have e : r = r' := by rw [hd] at hd'; injection hd' with q; injection q with q1 q2; exact Rat.ext q1 (by (first | lia | omega))
        subst e
        exact small_of (i := L) (k := 4 ^ (L + 1)) (hz.mono (Nat.dvd_refl _) (Nat.le_mul_of_pos_right _ (Nat.pow_pos (by decide)))) (by (first | lia | omega)) (Nat.le_trans (Nat.pow_le_pow_right (by decide) (show L + 1 ≤ 11 by (first | lia | omega))) (by decide))
      refine .inl ⟨_, _, _, _, 153, rfl, FA4.inst, by kernel_rfl, by kernel_rfl, ?_⟩
      refine .inl ⟨_, _, _, _, 314, rfl, H4.inst, H4.own _ (by decide +kernel), by kernel_rfl, data_ok H4 hmj (by (first | lia | omega)) ?_⟩
      rw [hda]
      refine mulR hdf f4 sr sf fun q1 hq1 => ?_
      have s5 := Sub.upd (ob := frac (r * fr)) hq1
      have g5 : upd σ4 q1 (frac (r * fr)) q1 = _ := upd_same
      have FA5 : FormAt (upd σ4 q1 (frac (r * fr))) f dx pd kp ca (Rat.num C) (Rat.den C) := ⟨⟨s5 _ _ FA4.inst.obj, s5 _ _ FA4.inst.dict⟩, s5 _ _ FA4.parts, s5 _ _ FA4.const⟩
      generalize upd σ4 q1 (frac (r * fr)) = σ5 at s5 g5 FA5
      refine addconst_ok (a := 0) (b := 0) FA5 (addR FA5.const g5 sC srf fun q2 hq2 => ⟨q2, _, _, rfl, Sub.upd hq2, upd_same, ?_⟩)
      have s6 := s5.trans (Sub.upd (ob := frac (C + r * fr)) hq2)
      have g6 : upd σ5 q2 (frac (C + r * fr)) q2 = _ := upd_same
      generalize upd σ5 q2 (frac (C + r * fr)) = σ6 at s6 g6
      have s06 := s04.trans s6
      have D6 := s6 _ _ FA4.inst.dict
      have T7 : TSub σ6 (upd σ6 dx (.sdict [("parts", .ref pd), ("constant", .ref q2)])) := TSub.upd D6 fun _ => nofun
      refine ⟨j, _, _, hjb, rsub_cons (rsub_cons (rsub_cons (rsub_cons rsub_nil rfl) rfl) rfl) rfl, Sub.refl, i + 1, _, P, C + r * fr, _, kp, q2, rfl, ?_, ⟨⟨?_, upd_same⟩, ?_, T7 _ _ g6⟩, ?_, (d4.sub s6).tsub T7, (p4.sub s6).tsub T7, FN⟩
      · intro a ob e
        rw [upd_ne (fun q => by rw [q, ndx] at e; cases e)]
        exact s06 _ _ e
      · exact (upd_ne (ne_of (s6 _ _ FA4.inst.obj) D6 nofun)).trans (s6 _ _ FA4.inst.obj)
      · exact (upd_ne (ne_of (s6 _ _ FA4.parts) D6 nofun)).trans (s6 _ _ FA4.parts)
      · exact (upd_ne (ne_of (s6 _ _ e4) D6 nofun)).trans (s6 _ _ e4)
    · have ho2 : mj.key.op = "+" := by simpa using ho2
      have hargs := (H.node mj (List.mem_of_getElem? hmj)).1
      have sW : ∀ W' kw', WK B.keys kind j W' → (∀ σ', DR σ' kw' W' → kw'.length ≤ 300) := fun W' kw' wk σ' dd => by
        have := pig j (W'.map (·.1)) wk.nd fun x hx => by
          obtain ⟨y, hy, rfl⟩ := List.mem_map.mp hx
          obtain ⟨j, m, e, hj, _⟩ := wk.at_ y hy
          exact ⟨j, e, hj⟩
        rw [List.length_map, ← dd.length] at this
        have := FF.ib
        (first | lia | omega)
      refine ⟨σ4, _, _, fun σ' => σ' mj.aA = some (.tup (mj.key.args.map .int)), (FormJ B kind i j t f dx pd wd fa ca kp W P C fr mj σ),
        SrcSpec.tuple (s04 _ _ hargs), ⟨_, σ4, rsub_cons (rsub_cons (rsub_cons (rsub_cons (rsub_cons (rsub_cons (rsub_cons rsub_nil rfl) rfl) rfl) rfl) rfl) rfl) rfl, Sub.refl, _, _, rfl, s04, FA4, e4, d4, p4, f4, WI.start FF hmax⟩, ?_, ?_, ?_⟩
      · rintro k ρ σ' ⟨W', kw', rfl, sx, _⟩
        exact sx _ _ hargs
      · rintro k ρ σ' v hk ⟨W', kw', rfl, sx, FX, ex, dd, pp, fx, wi⟩ hv
        rw [List.getElem?_map] at hv
        obtain ⟨a, ha, rfl⟩ := Option.map_eq_some_iff.mp hv
        obtain ⟨jj, mm, rfl, hjj, hmm⟩ := (hl.plus j _ hnd ho2).2 a (List.mem_of_getElem? ha)
        obtain ⟨j', e', hlt⟩ := (hl.args j _ hnd).2 _ (List.mem_of_getElem? ha)
        have hlt : jj < j := by (first | lia | omega)
        obtain ⟨x0, hx0, hf0⟩ := dd.get0 (sx _ _ h89) (jj : Int)
        have alen := (hl.args j _ hnd).1
        have s0 : Small ((rget W' (jj : Int)).getD 0) := by
          refine small_of (i := i) (k := 4) ((rget_sz wi.ws).mono (Nat.dvd_refl _) (Nat.mul_le_mul ?_ (Nat.le_refl _))) (by (first | lia | omega)) (by decide)
          rw [List.length_take]; (first | lia | omega)
        refine .inr ⟨_, MSpec.get ex, BSpec.get ex ?_⟩
        rw [hx0]
        refine addR hf0 fx s0 sf fun q1 hq1 => ?_
        have s5 := Sub.upd (ob := frac ((rget W' (jj : Int)).getD 0 + fr)) hq1
        have g5 : upd σ' q1 (frac ((rget W' (jj : Int)).getD 0 + fr)) q1 = _ := upd_same
        generalize upd σ' q1 (frac ((rget W' (jj : Int)).getD 0 + fr)) = σ5 at s5 g5
        have e5 := s5 _ _ ex
        refine ⟨_, SISpec.idict e5 (by have : 300 ≤ sizeLine := Nat.le_of_ble_eq_true rfl; have := sW _ _ wi.wk _ dd; (first | lia | omega)), ?_⟩
        have T6 : TSub σ5 (upd σ5 wd (.idict (dput kw' (jj : Int) (.ref q1)))) := TSub.upd e5 fun _ => nofun
        refine ⟨_, _, rsub_cons (rsub_cons (rsub_cons (rsub_cons (rsub_cons (rsub_cons (rsub_cons rsub_nil rfl) rfl) rfl) rfl) rfl) rfl) rfl, Sub.refl, _, _, rfl, ?_, ⟨⟨?_, ?_⟩, ?_, T6 _ _ (s5 _ _ FX.const)⟩, upd_same, ((dd.sub s5).put _ g5).tsub T6, (pp.sub s5).tsub T6, T6 _ _ (s5 _ _ fx), ?_⟩
        · intro a ob e
          rw [upd_ne (fun q => by rw [q, nwd] at e; cases e)]
          exact s5 _ _ (sx _ _ e)
        · exact (upd_ne (ne_of (s5 _ _ FX.inst.obj) e5 nofun)).trans (s5 _ _ FX.inst.obj)
        · exact (upd_ne (ne_of (s5 _ _ FX.inst.dict) e5 nofun)).trans (s5 _ _ FX.inst.dict)
        · exact (upd_ne nwp.symm).trans (s5 _ _ FX.parts)
        · have et : mj.key.args.take (k + 1) = mj.key.args.take k ++ [(jj : Int)] := by
            rw [List.take_add_one, ha]; rfl
          rw [et]
          exact wi.next (FF.ws _ hW) hlt hjj hmm
      · rintro ρ σ' ⟨W', kw', rfl, sx, FX, ex, dd, pp, fx, wi⟩
        rw [List.length_map, List.take_length] at wi
        exact ⟨j, _, _, hjb, rsub_cons (rsub_cons (rsub_cons (rsub_cons rsub_nil rfl) rfl) rfl) rfl, Sub.refl, i + 1, _, P, C, _, kp, ca, rfl, sx, FX, ex, dd, pp, WI.done FF hl hW hmax hnd ho2 wi⟩
    · have ho3 : mj.key.op = "*" := by simpa using ho3
      obtain ⟨_, c, a, r, ma, hca, hc, hr, hma, hmas⟩ := hl.times j _ hnd ho3
      obtain ⟨mc, hmc, hmck⟩ := Bk.key hc
      obtain ⟨mA, hmA, rfl⟩ := Bk.key hma
      have hargs := s04 _ _ (H.node mj (List.mem_of_getElem? hmj)).1
      rw [hca] at hargs
      have a0 : ISpec σ4 (.ref mj.aA) (.int 0) (.int c) := i0 hargs
      have a1 : ISpec σ4 (.ref mj.aA) (.int 1) (.int a) := i1 hargs
      obtain ⟨da, hda, hdf⟩ := H4.num (r := r) hmc (by rw [hmck])
      obtain ⟨sz, FN⟩ := FF.times hl hW hmax hnd ho3 hca hc hr hma hmas
      have srf : Small (r * fr) := small_of (i := i + 1) (k := 4) (sz.mono (Nat.dvd_refl _) (Nat.mul_le_mul (Nat.le_refl _) (pow5 (by (first | lia | omega))))) (by (first | lia | omega)) (by decide)
      have sr : Small r := hr.small (by decide) (by decide +kernel) (by decide +kernel)
      refine .inl ⟨_, _, _, _, 293, rfl, H4.inst, H4.own _ (by decide +kernel), by kernel_rfl, _, a0, op_ok H4 hmc (by (first | lia | omega)) ⟨fun _ => ⟨fun _ => ?_, fun q => (by cases q)⟩, fun q => ?_⟩⟩
      · refine .inl ⟨_, _, _, _, 314, rfl, H4.inst, H4.own _ (by decide +kernel), by kernel_rfl, _, a0, data_ok H4 hmc (by (first | lia | omega)) ?_⟩
        rw [hda]
        refine mulR hdf f4 sr sf fun q1 hq1 => ?_
        have s5 := Sub.upd (ob := frac (r * fr)) hq1
        have g5 : upd σ4 q1 (frac (r * fr)) q1 = _ := upd_same
        generalize upd σ4 q1 (frac (r * fr)) = σ5 at s5 g5
        obtain ⟨x0, hx0, hf0⟩ := (d4.sub s5).get0 (s5 _ _ z4) (a : Int)
        have s0 : Small ((rget (rpop W (j : Int)) (a : Int)).getD 0) := small_of (i := i) (k := 1) (by rw [Nat.one_mul]; exact rget_sz FF.popW) (by (first | lia | omega)) (by decide)
        have e5 := s5 _ _ e4
        refine .inr ⟨_, MSpec.get e5, _, i1 (s5 _ _ hargs), BSpec.get e5 ?_⟩
        rw [hx0]
        refine addR hf0 g5 s0 srf fun q2 hq2 => ?_
        have s6 := s5.trans (Sub.upd (ob := frac ((rget (rpop W (j : Int)) (a : Int)).getD 0 + r * fr)) hq2)
        have g6 : upd σ5 q2 (frac ((rget (rpop W (j : Int)) (a : Int)).getD 0 + r * fr)) q2 = _ := upd_same
        generalize upd σ5 q2 (frac ((rget (rpop W (j : Int)) (a : Int)).getD 0 + r * fr)) = σ6 at s6 g6
        have e6 := s6 _ _ e4
        refine ⟨_, i1 (s6 _ _ hargs), _, SISpec.idict e6 (by have : 300 ≤ sizeLine := Nat.le_of_ble_eq_true rfl; have := List.length_filter_le (fun kv => decide (kv.1 ≠ (j : Int))) kw; (first | lia | omega)), ?_⟩
        have T7 : TSub σ6 (upd σ6 wd (.idict (dput (kw.filter fun kv => decide (kv.1 ≠ (j : Int))) (a : Int) (.ref q2)))) := TSub.upd e6 fun _ => nofun
        refine ⟨j, _, _, hjb, rsub_cons (rsub_cons (rsub_cons (rsub_cons rsub_nil rfl) rfl) rfl) rfl, Sub.refl, i + 1, _, P, C, _, kp, ca, rfl, ?_, ⟨⟨?_, ?_⟩, ?_, T7 _ _ (s6 _ _ FA4.const)⟩, upd_same, ((d4.sub s6).put _ g6).tsub T7, (p4.sub s6).tsub T7, FN⟩
        · intro x ob e
          rw [upd_ne (fun q => by rw [q, nwd] at e; cases e)]
          exact s6 _ _ (s04 _ _ e)
        · exact (upd_ne (ne_of (s6 _ _ FA4.inst.obj) e6 nofun)).trans (s6 _ _ FA4.inst.obj)
        · exact (upd_ne (ne_of (s6 _ _ FA4.inst.dict) e6 nofun)).trans (s6 _ _ FA4.inst.dict)
        · exact (upd_ne nwp.symm).trans (s6 _ _ FA4.parts)
      · have : (mc.key.op == "num") = false := q
        rw [hmck] at this
        simp at this
    · have tail : ∀ ho3 : mj.key.op ≠ "*", _ := fun ho3 => hl.other j _ hnd hns (by simpa using ho) (by simpa using ho2) ho3
      have ho3 : mj.key.op ≠ "*" := by simpa using ho3
      have hth := tail ho3
      clear tail
      refine ⟨fun q => (by cases q), fun _ => ⟨_, i0 f4, fun z => ?_, fun z => ?_⟩⟩
      · have z : fr.num ≠ 0 := by simpa using z
        have hf : fr ≠ 0 := fun e => z (by rw [e]; rfl)
        obtain ⟨hno, FN⟩ := FF.part hW hmax hf hth
        have hd : dget kp (j : Int) = none := dp.none hno
        refine .inl ⟨_, _, _, _, 146, rfl, FA4.inst, by kernel_rfl, by kernel_rfl, ?_⟩
        refine addpart_ok (a := 0) (b := 0) (v0 := 89) FA4 ?_ (by rw [hd]; rfl) (addR z4 f4 (by exact ⟨by decide +kernel, by decide +kernel⟩) sf fun q1 hq1 => ⟨q1, _, _, rfl, Sub.upd hq1, upd_same, fun _ => ?_, fun e => ?_⟩)
        · have : P.length ≤ 300 := by
            have := pig B.keys.length (P.map (·.1)) FF.pk.nd fun x hx => by
              obtain ⟨y, hy, rfl⟩ := List.mem_map.mp hx
              obtain ⟨j, e, _, hj⟩ := FF.pk.at_ y hy
              obtain ⟨nn, e', _⟩ := hl.thing j hj
              exact ⟨j, e, (List.getElem?_eq_some_iff.mp e').1⟩
            rw [List.length_map] at this
            (first | lia | omega)
          rw [dp.length]; (first | lia | omega)
        · rw [Rat.zero_add]
          have s5 := Sub.upd (ob := frac fr) hq1
          have g5 : upd σ4 q1 (frac fr) q1 = _ := upd_same
          generalize upd σ4 q1 (frac fr) = σ5 at s5 g5
          have e5 := s5 _ _ FA4.parts
          have T6 : TSub σ5 (upd σ5 pd (.idict (dput kp (j : Int) (.ref q1)))) := TSub.upd e5 fun _ => nofun
          refine ⟨j, _, _, hjb, rsub_cons (rsub_cons (rsub_cons (rsub_cons rsub_nil rfl) rfl) rfl) rfl, Sub.refl, i + 1, _, _, C, _, _, ca, rfl, ?_, ⟨⟨?_, ?_⟩, upd_same, T6 _ _ (s5 _ _ FA4.const)⟩, ?_, (d4.sub s5).tsub T6, ((p4.sub s5).put _ g5).tsub T6, FN⟩
          · intro x ob e
            rw [upd_ne (fun q => by rw [q, npd] at e; cases e)]
            exact s5 _ _ (s04 _ _ e)
          · exact (upd_ne (ne_of (s5 _ _ FA4.inst.obj) e5 nofun)).trans (s5 _ _ FA4.inst.obj)
          · exact (upd_ne (ne_of (s5 _ _ FA4.inst.dict) e5 nofun)).trans (s5 _ _ FA4.inst.dict)
          · exact (upd_ne nwp).trans (s5 _ _ e4)
        · rw [Rat.zero_add] at e; exact absurd e z
      · have z : fr.num = 0 := by simpa using z
        have hf : fr = 0 := Rat.num_eq_zero.mp z
        subst hf
        exact ⟨j, _, _, hjb, rsub_cons (rsub_cons (rsub_cons (rsub_cons rsub_nil rfl) rfl) rfl) rfl, Sub.refl, i + 1, _, P, C, _, kp, ca, rfl, s04, FA4, e4, d4, p4, FF.skip hW hmax⟩
  · have hnil : kw = [] := by
      have : decide ((0 : Int) < (kw.length : Int)) = false := hb
      have : ¬ ((0 : Int) < (kw.length : Int)) := by simpa using this
      cases kw with
      | nil => rfl
      | cons x l => simp at this
    subst hnil
    cases dw
    refine ⟨σ', Sub.refl, h f dx pd ca kp P C σ' ss nf ndx npd FA dp ⟨FF.pk.lower (Nat.zero_le _), fun x hx => (FF.ps x hx).mono (pow_dvd (by have := FF.ib; (first | lia | omega))) (pow5 (by have := FF.ib; (first | lia | omega))), FF.cs.mono (pow_dvd (by have := FF.ib; (first | lia | omega))) (Nat.mul_le_mul (Nat.le_refl _) (pow5 (by have := FF.ib; (first | lia | omega)))), fun val V => ?_⟩⟩
    rw [FF.id val V, S_nil]; grind
end
end
section
/-! ## the parts of a term, plainly -/
structure Topo (ks : List Nd) (FL : List Nat) : Prop where
  nd : FL.Nodup
  at_ : ∀ (i u : Nat), FL[i]? = some u → ∃ n, ks[u]? = some n ∧ ∀ a ∈ n.args, ∃ j : Nat, a = (j : Int) ∧ j ∈ FL.take i
noncomputable abbrev Stk := List (Nat × Bool)
structure PInv (ks : List Nd) (t : Nat) (FL : List Nat) (st : Stk) : Prop where
  topo : Topo ks FL
  ent : ∀ (p v : Nat) (b : Bool), st[p]? = some (v, b) → v < ks.length ∧ p + 4 * v ≤ 4 * ks.length
  opn : ∀ (p v : Nat) n, st[p]? = some (v, true) → ks[v]? = some n → ∀ a ∈ n.args, ∃ j : Nat, a = (j : Int) ∧ (j ∈ FL ∨ ∃ (p' : Nat) (b' : Bool), p < p' ∧ st[p']? = some (j, b'))
  root : t ∈ FL ∨ ∃ (p : Nat) (b : Bool), st[p]? = some (t, b)
noncomputable def cost : Nat × Bool → Nat
  | (_, true) => 1
  | (v, false) => 5 ^ (v + 1)
noncomputable def costs (st : Stk) : Nat := (st.map cost).sum
theorem costs_app (a b : Stk) : costs (a ++ b) = costs a + costs b := by unfold costs; rw [List.map_append, List.sum_append]
section
variable {ks : List Nd} {kind : Int} {things : List Nat} {L t : Nat} {FL : List Nat} {rest : Stk} {v : Nat} {b : Bool}
theorem last_get (rest : Stk) (x : Nat × Bool) : (rest ++ [x])[rest.length]? = some x := by rw [List.getElem?_append_right (Nat.le_refl _), Nat.sub_self]; rfl
theorem PInv.start {n : Nd} (h : ks[t]? = some n) : PInv ks t [] [(t, false)] where
  topo := ⟨List.nodup_nil, fun i u h => by simp at h⟩
  ent := fun p v b h => by
    have hlt := (List.getElem?_eq_some_iff.mp h).1
    have : p = 0 := by simp at hlt; (first | lia | omega)
    subst this
    have e : (t, false) = (v, b) := by simpa using h
    cases e
    have := (List.getElem?_eq_some_iff.mp ‹ks[t]? = some n›).1
    (first | lia | omega)
  opn := fun p v n h => by
    have hlt := (List.getElem?_eq_some_iff.mp h).1
    have : p = 0 := by simp at hlt; (first | lia | omega)
    subst this
    have e : (t, false) = (v, true) := by simpa using h
    cases e
  root := .inr ⟨0, false, rfl⟩
theorem Topo.lt (T : Topo ks FL) {u : Nat} (h : u ∈ FL) : u < ks.length := by
  obtain ⟨i, hi⟩ := List.mem_iff_getElem?.mp h
  obtain ⟨n, hn, _⟩ := T.at_ i u hi
  exact (List.getElem?_eq_some_iff.mp hn).1
theorem pigN : ∀ (b : Nat) (l : List Nat), l.Nodup → (∀ x ∈ l, x < b) → l.length ≤ b
  | 0, l, _, h => by
    cases l with
    | nil => exact Nat.le_refl _
    | cons x l => exact absurd (h x (.head _)) (Nat.not_lt_zero _)
  | b + 1, l, hn, h => by
    by_cases hm : b ∈ l
    · have e := List.length_erase_of_mem hm
      have := pigN b (l.erase b) (hn.sublist List.erase_sublist) fun x hx => by
        rw [hn.mem_erase_iff] at hx
        have := h x hx.2
        have := hx.1
        (first | lia | omega)
      (first | lia | omega)
    · have := pigN b l hn fun x hx => by
        have := h x hx
        have : x ≠ b := fun q => hm (by rw [← q]; exact hx)
        (first | lia | omega)
      (first | lia | omega)
theorem Topo.len (T : Topo ks FL) : FL.length ≤ ks.length := pigN _ _ T.nd fun x hx => T.lt hx
theorem PInv.node (I : PInv ks t FL (rest ++ [(v, b)])) : ∃ n, ks[v]? = some n := by
  have := (I.ent rest.length v b (last_get _ _)).1
  exact ⟨_, List.getElem?_eq_getElem this⟩
theorem PInv.len (I : PInv ks t FL (rest ++ [(v, b)])) : rest.length ≤ 4 * ks.length := by
  have := (I.ent rest.length v b (last_get _ _)).2
  (first | lia | omega)
theorem app_lt {x : Nat × Bool} {p : Nat} (hp : p < rest.length) : (rest ++ [x])[p]? = rest[p]? := List.getElem?_append_left hp
theorem get_lt {st : Stk} {p : Nat} {y : Nat × Bool} (h : st[p]? = some y) : p < st.length := (List.getElem?_eq_some_iff.mp h).1
/-- what the popped entry is for those below -/
theorem low {p' j : Nat} {x : Nat × Bool} {b' : Bool} (h : (rest ++ [x])[p']? = some (j, b')) : rest[p']? = some (j, b') ∨ (p' = rest.length ∧ x = (j, b')) := by
  have hlt := get_lt h
  rw [List.length_append, List.length_singleton] at hlt
  rcases Nat.lt_or_ge p' rest.length with q | q
  · rw [app_lt q] at h; exact .inl h
  · have : p' = rest.length := by (first | lia | omega)
    subst this
    rw [last_get] at h
    exact .inr ⟨rfl, Option.some.inj h⟩
theorem PInv.skip (I : PInv ks t FL (rest ++ [(v, b)])) (h : v ∈ FL) : PInv ks t FL rest where
  topo := I.topo
  ent := fun p u c e => I.ent p u c ((app_lt (get_lt e)).trans e)
  opn := fun p u n e hn a ha => by
    obtain ⟨j, rfl, q⟩ := I.opn p u n ((app_lt (get_lt e)).trans e) hn a ha
    refine ⟨j, rfl, ?_⟩
    rcases q with q | ⟨p', b', hp, q⟩
    · exact .inl q
    · rcases low q with q | ⟨_, q⟩
      · exact .inr ⟨p', b', hp, q⟩
      · cases q; exact .inl h
  root := by
    rcases I.root with q | ⟨p, b', q⟩
    · exact .inl q
    · rcases low q with q | ⟨_, q⟩
      · exact .inr ⟨p, b', q⟩
      · cases q; exact .inl h
theorem PInv.close (I : PInv ks t FL (rest ++ [(v, true)])) (h : v ∉ FL) : PInv ks t (FL ++ [v]) rest where
  topo := by
    refine ⟨?_, fun i u hi => ?_⟩
    · rw [List.nodup_append]; exact ⟨I.topo.nd, by simp, fun a ha b hb e => by rw [List.mem_singleton] at hb; subst hb e; exact h ha⟩
    · rcases Nat.lt_or_ge i FL.length with q | q
      · rw [List.getElem?_append_left q] at hi
        obtain ⟨n, hn, ha⟩ := I.topo.at_ i u hi
        refine ⟨n, hn, fun a hm => ?_⟩
        obtain ⟨j, e, hj⟩ := ha a hm
        exact ⟨j, e, by rw [List.take_append_of_le_length (Nat.le_of_lt q)]; exact hj⟩
      · have hlt := (List.getElem?_eq_some_iff.mp hi).1
        rw [List.length_append, List.length_singleton] at hlt
        have : i = FL.length := by (first | lia | omega)
        subst this
        rw [List.getElem?_append_right (Nat.le_refl _), Nat.sub_self] at hi
        have : v = u := by simpa using hi
        subst this
        obtain ⟨n, hn⟩ := I.node
        refine ⟨n, hn, fun a hm => ?_⟩
        obtain ⟨j, e, q⟩ := I.opn rest.length v n (last_get _ _) hn a hm
        refine ⟨j, e, ?_⟩
        rw [List.take_append_of_le_length (Nat.le_refl _), List.take_length]
        rcases q with q | ⟨p', b', hp, q⟩
        · exact q
        · have := get_lt q
          rw [List.length_append, List.length_singleton] at this
          (first | lia | omega)
  ent := fun p u c e => I.ent p u c ((app_lt (get_lt e)).trans e)
  opn := fun p u n e hn a ha => by
    obtain ⟨j, rfl, q⟩ := I.opn p u n ((app_lt (get_lt e)).trans e) hn a ha
    refine ⟨j, rfl, ?_⟩
    rcases q with q | ⟨p', b', hp, q⟩
    · exact .inl (List.mem_append_left _ q)
    · rcases low q with q | ⟨_, q⟩
      · exact .inr ⟨p', b', hp, q⟩
      · cases q; exact .inl (by simp)
  root := by
    rcases I.root with q | ⟨p, b', q⟩
    · exact .inl (List.mem_append_left _ q)
    · rcases low q with q | ⟨_, q⟩
      · exact .inr ⟨p, b', q⟩
      · cases q; exact .inl (by simp)
/-- what is put upon the stack: the arguments that are not done -/
noncomputable def pushes (FL : List Nat) (l : List Int) : Stk := (l.filter fun a => !decide (a.toNat ∈ FL)).map fun a => (a.toNat, false)
theorem pushes_snoc {l : List Int} {a : Int} : pushes FL (l ++ [a]) = pushes FL l ++ (if a.toNat ∈ FL then [] else [(a.toNat, false)]) := by
  unfold pushes
  rw [List.filter_append, List.map_append]
  congr 1
  by_cases h : a.toNat ∈ FL <;> simp [h]
theorem pushes_len {l : List Int} : (pushes FL l).length ≤ l.length := by unfold pushes; rw [List.length_map]; exact List.length_filter_le _ _
theorem pushes_mem {l : List Int} {x : Nat × Bool} (h : x ∈ pushes FL l) : ∃ a ∈ l, x = (a.toNat, false) ∧ a.toNat ∉ FL := by
  unfold pushes at h
  obtain ⟨a, ha, rfl⟩ := List.mem_map.mp h
  rw [List.mem_filter] at ha
  exact ⟨a, ha.1, rfl, by simpa using ha.2⟩
theorem PInv.open (H : Lin ks kind things L) (I : PInv ks t FL (rest ++ [(v, false)])) {n : Nd} (hn : ks[v]? = some n) : PInv ks t FL ((rest ++ [(v, true)]) ++ pushes FL n.args.reverse) where
  topo := I.topo
  ent := fun p u c e => by
    rcases Nat.lt_or_ge p (rest ++ [(v, true)]).length with q | q
    · rw [List.getElem?_append_left q] at e
      rcases low e with e | ⟨hp, e2⟩
      · exact I.ent p u c ((app_lt (get_lt e)).trans e)
      · cases e2; rw [hp]; exact I.ent _ v false (last_get _ _)
    · rw [List.getElem?_append_right q] at e
      have hlt := get_lt e
      have hl := pushes_len (FL := FL) (l := n.args.reverse)
      obtain ⟨a, ha, he, _⟩ := pushes_mem (List.mem_of_getElem? e)
      have ha := List.mem_reverse.mp ha
      cases he
      obtain ⟨h3, hargs⟩ := H.args v n hn
      obtain ⟨j, rfl, hj⟩ := hargs a ha
      have := I.ent _ v false (last_get _ _)
      rw [List.length_reverse] at hl
      rw [List.length_append, List.length_singleton] at q hlt
      rw [Int.toNat_natCast]
      (first | lia | omega)
  opn := fun p u m e hm a ha => by
    rcases Nat.lt_or_ge p (rest ++ [(v, true)]).length with q | q
    · rw [List.getElem?_append_left q] at e
      rcases low e with e | ⟨hpp, e2⟩
      · obtain ⟨j, rfl, z⟩ := I.opn p u m ((app_lt (get_lt e)).trans e) hm a ha
        refine ⟨j, rfl, ?_⟩
        rcases z with z | ⟨p', b', hp, z⟩
        · exact .inl z
        · have hl := get_lt z
          rw [List.length_append, List.length_singleton] at hl
          refine .inr ?_
          rcases low z with z | ⟨hq, z2⟩
          · exact ⟨p', b', hp, by rw [List.getElem?_append_left (by rw [List.length_append, List.length_singleton]; (first | lia | omega)), app_lt (get_lt z)]; exact z⟩
          · cases z2
            exact ⟨rest.length, true, by (first | lia | omega), by rw [List.getElem?_append_left (by simp), last_get]⟩
      · cases e2
        rw [hn] at hm; cases hm
        obtain ⟨j, rfl, hj⟩ := (H.args v n hn).2 a ha
        refine ⟨j, rfl, ?_⟩
        by_cases hd : j ∈ FL
        · exact .inl hd
        · have hmem : (j, false) ∈ pushes FL n.args.reverse := by
            unfold pushes
            refine List.mem_map.mpr ⟨(j : Int), List.mem_filter.mpr ⟨List.mem_reverse.mpr ha, ?_⟩, by rw [Int.toNat_natCast]⟩
            rw [Int.toNat_natCast]; simpa using hd
          obtain ⟨i, hi⟩ := List.mem_iff_getElem?.mp hmem
          refine .inr ⟨(rest ++ [(v, true)]).length + i, false, by rw [List.length_append, List.length_singleton]; (first | lia | omega), ?_⟩
          rw [List.getElem?_append_right (Nat.le_add_right _ _), Nat.add_sub_cancel_left]; exact hi
    · rw [List.getElem?_append_right q] at e
      obtain ⟨a, ha, he, _⟩ := pushes_mem (List.mem_of_getElem? e)
      cases he
  root := by
    rcases I.root with q | ⟨p, b', q⟩
    · exact .inl q
    · refine .inr ?_
      rcases low q with q | ⟨_, q2⟩
      · exact ⟨p, b', by rw [List.getElem?_append_left (by have := get_lt q; rw [List.length_append, List.length_singleton]; (first | lia | omega)), app_lt (get_lt q)]; exact q⟩
      · cases q2; exact ⟨rest.length, true, by rw [List.getElem?_append_left (by simp), last_get]⟩
theorem cost_open (H : Lin ks kind things L) {n : Nd} (hn : ks[v]? = some n) : costs ((rest ++ [(v, true)]) ++ pushes FL n.args.reverse) < costs (rest ++ [(v, false)]) := by
  rw [costs_app, costs_app, costs_app]
  obtain ⟨h3, hargs⟩ := H.args v n hn
  have key : ∀ l : List Int, (∀ a ∈ l, ∃ j : Nat, a = (j : Int) ∧ j < v) → costs (pushes FL l) ≤ l.length * 5 ^ v := by
    intro l
    induction l with
    | nil => intro _; exact Nat.zero_le _
    | cons a l ih =>
      intro h
      have ih := ih fun b hb => h b (.tail _ hb)
      obtain ⟨j, rfl, hj⟩ := h a (.head _)
      rw [List.length_cons, Nat.add_mul, Nat.one_mul]
      have e : pushes FL ((j : Int) :: l) = (if j ∈ FL then [] else [(j, false)]) ++ pushes FL l := by
        unfold pushes
        by_cases hm : j ∈ FL <;> simp [hm]
      rw [e, costs_app]
      have hp : 5 ^ (j + 1) ≤ 5 ^ v := Nat.pow_le_pow_right (by decide) hj
      have c0 : costs [] = 0 := rfl
      have c1 : costs [(j, false)] = 5 ^ (j + 1) := by simp [costs, cost]
      split
      · rw [c0]; (first | lia | omega)
      · rw [c1]; (first | lia | omega)
  have k := key n.args.reverse fun a ha => hargs a (List.mem_reverse.mp ha)
  rw [List.length_reverse] at k
  have k2 : n.args.length * 5 ^ v ≤ 3 * 5 ^ v := Nat.mul_le_mul h3 (Nat.le_refl _)
  have k3 : 5 ^ (v + 1) = 5 * 5 ^ v := by rw [Nat.pow_succ]; (first | lia | omega)
  have k4 : 0 < 5 ^ v := Nat.pow_pos (by decide)
  have e1 : costs [(v, true)] = 1 := rfl
  have e2 : costs [(v, false)] = 5 ^ (v + 1) := by simp [costs, cost]
  (first | lia | omega)
theorem cost_pop : costs rest < costs (rest ++ [(v, b)]) := by
  rw [costs_app]
  have : 0 < costs [(v, b)] := by
    cases b
    · simp [costs, cost]; exact Nat.pow_pos (by decide)
    · simp [costs, cost]
  (first | lia | omega)
end
end
section
/-! ## the law's tape: a dict whose keys are words -/
section
variable {σ : Sg} {Φ : V → Sg → Prop}
theorem nk_tdict {a : Addr} {vs : List (Str × V)} : kTup a ≠ some (.tdict vs) := by unfold kTup; repeat' split <;> simp
theorem Rel.tdict {c : Cx} {n : Nat} {ρ : Rho} (ok : c.Ok n) {fr : Led} {h : Heap} (R : Rel c ρ σ fr h) {d : Addr} {kvs : List (Str × V)} (e : σ d = some (.tdict kvs)) : ∃ us, h.DictOf (strKind PW c.w) d us ∧ PIs kvs us := by
  obtain ⟨o, hg, ⟨us, hd, hp⟩, _⟩ := R.obj ok e
  exact ⟨us, Heap.dictOf_iff.mpr ⟨o, hg, hd⟩, hp⟩
theorem ISpec.tdict {d : Addr} {kvs : List (Str × V)} {k : Str} {v : V} (e : σ d = some (.tdict kvs)) (hv : dget kvs k = some v) : ISpec σ (.ref d) (.str k) v := by
  intro c n S ok ρ fr h tk uo ui R ho hi
  obtain rfl : uo = .ref d := ho
  obtain ⟨t, rfl⟩ := hi
  obtain ⟨us, hd, hp⟩ := R.tdict ok e
  obtain ⟨u, hu, iu⟩ := hp.get hv
  exact ⟨"dict", _, hd.typeIs, slot_dict_getitem.lookup, wpAny_getItem_of (strKind_is PW c.w k t) hd.mapOf hu ⟨h, tk + 1, rfl, R, iu⟩⟩
theorem SISpec.tdict {d : Addr} {kvs : List (Str × V)} {k : Str} {v : V} (e : σ d = some (.tdict kvs)) (hz : kvs.length ≤ sizeLine) : SISpec (.ref d) (.str k) v σ (upd σ d (.tdict (dput kvs k v))) := by
  intro c n S ok ρ fr h tk uo ui uv R ho hi hv Q E hQ
  obtain rfl : uo = .ref d := ho
  obtain ⟨t, rfl⟩ := hi
  obtain ⟨us, hd, hp⟩ := R.tdict ok e
  refine wpAny_setItem_pairs (s := c.sh h tk) (strKind_is PW c.w k t) hd (fun h' hd' hs => ?_) (by rw [hp.length]; exact hz)
  obtain ⟨o', ho', hd''⟩ := Heap.dictOf_iff.mp hd'
  exact hQ h' _ (R.change e nk_tdict hs ho' ⟨_, hd'', hp.put k hv⟩)
end
end
section
theorem sysK : ∀ P, ((KK P).lookup sysModules).isSome = true := fun P => by kernel_rfl
theorem Cx.Ok.noSys {c : Cx} {n : Nat} (ok : c.Ok n) {a : Addr} (h0 : c.h₀.get? a = none) : (a == sysModules) = false := beq_eq_false_iff_ne.mpr fun e => by
  subst e
  obtain ⟨o, ho⟩ := Option.isSome_iff_exists.mp (sysK c.w.params)
  have ho := ok.X _ _ ho
  rw [h0] at ho; cases ho
section
variable {c : Cx} {S : Scope} {ρ : Rho} {σ : Sg} {Φ : V → Sg → Prop} {n : Nat} {fr : Led} {h : Heap}
/-- a new object, told by the ledger -/
theorem Rel.newLed (ok : c.Ok n) {mp : Str → Option Value} {news : Led} {D : Addr} {o : Obj} {ob : Ob} {h' : Heap} (m : ∀ x v, ρ x = some v → ∃ u, mp x = some u ∧ v.Is u) (G : SgIs c σ news) (Dj : ∀ p ∈ fr, ∀ q ∈ news, p.1 ≠ q.1)
    (F' : Fr c.h₀ c.L h' mp) (N' : News c.h₀ c.L h' ((D, o) :: (news ++ fr))) (hi : ob.Is c.w o) (hD : ∀ p ∈ news ++ fr, p.1 ≠ D) : σ D = none ∧ Rel c ρ (upd σ D ob) fr h' := by
  have h0 := (N' _ (.head _)).2.2
  refine ⟨?_, mp, (D, o) :: news, F', N', m, ⟨fun a x e => ?_⟩, fun p hp q hq => ?_⟩
  · cases e : σ D with
    | none => rfl
    | some ob =>
      rcases G.at_ D ob e with ⟨o, ho, _⟩ | hk
      · exact absurd rfl (hD _ (List.mem_append_left _ ho))
      · obtain ⟨us, k, hg, _⟩ := kTup_lt ok hk
        rw [h0] at hg; cases hg
  · unfold upd at e
    split at e
    · rename_i z; cases e; subst z; exact .inl ⟨_, .head _, hi, ok.noSys h0⟩
    · rcases G.at_ a x e with ⟨o', h1, h2⟩ | h1
      · exact .inl ⟨o', .tail _ h1, h2⟩
      · exact .inr h1
  · rcases List.mem_cons.mp hq with rfl | hq
    · exact hD p (List.mem_append_right _ hp)
    · exact Dj p hp q hq
end
section
variable {σ : Sg} {Φ : V → Sg → Prop}
theorem ints_v : ∀ {us : List Value} {ns : List Int}, IntsAre us ns → VIs (ns.map .int) us
  | _, _, .nil => .nil
  | _, _, .cons _ _ h => .cons ⟨_, rfl⟩ (ints_v h)
theorem PIs.keyAt {kvs : List (Int × V)} {us : List (Int × Value)} (h : PIs kvs us) : ∀ i : Nat, (us[i]?.map (·.1)) = (kvs[i]?.map (·.1)) := by
  induction h with
  | nil => intro i; rfl
  | cons _ _ ih => intro i; cases i with | zero => rfl | succ i => simpa using ih i
theorem BSpec.sorted {d : Addr} {kvs : List (Int × V)} (e : σ d = some (.idict kvs)) (hz : kvs.length < 64) (h : ∀ D (ns : List Int), σ D = none → ns.Perm (kvs.map (·.1)) → Φ (.ref D) (upd σ D (.list (ns.map .int)))) : BSpec "sorted" [.ref d] σ Φ := by
  intro c n S ok _ ρ us hv fr h' tk R
  obtain ⟨u, rfl, i1⟩ := hv.one
  obtain rfl : u = .ref d := i1
  obtain ⟨ws, hd, hp, hs⟩ := R.idictX ok e
  obtain ⟨ep, hat⟩ := hd.dictAt
  obtain ⟨mp, news, F, N, m, G, Dj⟩ := R
  have hsl : 64 ≤ sizeLine := Nat.le_of_ble_eq_true rfl
  refine kdu_sorted (s := c.sh h' tk) (kdl_dict (knd := intKind PW c.w) (kvs := ws) (ep := ep) hs) rfl F N hat (by rw [hp.length]; (first | lia | omega)) fun D h1 tk1 vs F1 N1 l1 hl hv => ?_
  have ikeys : ∀ (j : Nat) (v : Value), vs[j]? = some v → ∃ k t, (kvs.map (·.1))[j]? = some k ∧ v = .int k t := fun j v e => by
    obtain ⟨k, x, hx, hk⟩ := hv j v e
    have keyAt := hp.keyAt
    obtain ⟨t, rfl⟩ : ∃ t, v = .int k t := by
      cases v <;> simp [intKind, Value.isInt] at hk
      subst hk; exact ⟨_, rfl⟩
    refine ⟨k, t, ?_, rfl⟩
    rw [List.getElem?_map, ← keyAt, hx]; rfl
  have hI : IntsAre vs (kvs.map (·.1)) := by
    have hlen : vs.length = (kvs.map (·.1)).length := by rw [hl, hp.length, List.length_map]
    generalize kvs.map (·.1) = ks at ikeys hlen
    clear hl hv l1 N1 F1
    induction vs generalizing ks with
    | nil => cases ks with | nil => exact .nil | cons _ _ => simp at hlen
    | cons v vs ih =>
      cases ks with
      | nil => simp at hlen
      | cons k ks =>
        obtain ⟨k', t, e1, rfl⟩ := ikeys 0 v rfl
        have e1 : k = k' := by simpa using e1
        subst e1
        exact .cons _ _ (ih ks (fun j v e => by have := ikeys (j + 1) v (by simpa using e); simpa using this) (by simpa using hlen))
  have hg : h1.get? D = some (seqObj "list" vs.toArray 0) := (N1 _ (.head _)).1
  refine wpAny_call_entry (s := c.sh h1 tk1) slot_list_sort ⟨_, hg, rfl⟩ entry_list_sort (list_sort_tree (s := c.sh h1 tk1) hg hI (by rw [hl, hp.length]; exact hz) fun out ns' a1 a2 a3 => ⟨_, rfl, ?_⟩) (args_list_sort _)
  obtain ⟨ep', ho'⟩ := sortedHeap_at (out := out) hg
  have old : ∀ b o, b ≠ D → h1.get? b = some o → (sortedHeap h1 D vs out).get? b = some o := fun b o hb hbo => (sortedHeap_old hb (Heap.lt_size hbo)).trans hbo
  have hD0 := (N1 _ (.head _)).2.2
  have hDL := (N1 _ (.head _)).2.1
  have F2 : Fr c.h₀ c.L (sortedHeap h1 D vs out) mp := ⟨F1.ns.at' fun o e => old _ o (Ne.symm hDL) e, fun b o e => old b o (fun q => by rw [q, hD0] at e; cases e) (F1.keep b o e), F1.above⟩
  have N2 : News c.h₀ c.L (sortedHeap h1 D vs out) ((D, seqObj "list" out ep') :: (news ++ fr)) := fun p hp => by
    rcases List.mem_cons.mp hp with rfl | hp
    · exact ⟨ho', hDL, hD0⟩
    · have := N1 p (.tail _ hp)
      exact ⟨old _ _ (Nat.ne_of_lt (l1 p hp)) this.1, this.2⟩
  obtain ⟨hno, R2⟩ := Rel.newLed (ρ := ρ) (ob := .list (ns'.map .int)) ok m G Dj F2 N2 ⟨out.toList, ep', by simp [PySem.W.listOf], ints_v a1⟩ fun p hp => Nat.ne_of_lt (l1 p hp)
  exact ⟨.ref D, _, _, tk1, rfl, R2, rfl, h D ns' hno a2⟩
end
end
section
/-! ## reversed, of a tuple -/
theorem slot_rev_init : Slot "reversed" "__init__" "object.__init__" :=
  .of (owner := "object") (n := "__init__") (by rw [typeLookup_type, builtinLookup_eq_fast]; kernel_rfl) (by decide +kernel) (by decide +kernel) (by decide +kernel)
    (by first | exact .inl (by decide +kernel) | exact .inr (by decide +kernel)) (by rw [isSubtype_type]; kernel_rfl)
theorem slot_rev_next : Slot "reversed" "__next__" "reversed.__next__" :=
  .of (owner := "reversed") (n := "__next__") (by rw [typeLookup_type, builtinLookup_eq_fast]; kernel_rfl) (by decide +kernel) (by decide +kernel) (by decide +kernel)
    (by first | exact .inl (by decide +kernel) | exact .inr (by decide +kernel)) (by rw [isSubtype_type]; kernel_rfl)
theorem slot_rev_iter : Slot "reversed" "__iter__" "reversed.__iter__" :=
  .of (owner := "reversed") (n := "__iter__") (by rw [typeLookup_type, builtinLookup_eq_fast]; kernel_rfl) (by decide +kernel) (by decide +kernel) (by decide +kernel)
    (by first | exact .inl (by decide +kernel) | exact .inr (by decide +kernel)) (by rw [isSubtype_type]; kernel_rfl)
theorem entry_rev_next : entryFor table "reversed.__next__" = some Builtin.«reversed.__next__» := entryFor_of_tree (by kernel_rfl)
theorem owner_rev : Manifest.owners.lookup (String.ofList ['d', 'e', 's', 'r', 'e', 'v', 'e', 'r'].reverse) = some Manifest.sig_reversed := by kernel_rfl
theorem args_rev_next (a : Value) : argsOk "reversed.__next__" ⟨[a], []⟩ := by
  unfold argsOk; rw [signature?_of (id := "reversed.__next__") (n := ['_', '_', 't', 'x', 'e', 'n', '_', '_']) (o := ['d', 'e', 's', 'r', 'e', 'v', 'e', 'r']) (by kernel_rfl) owner_rev]; kernel_rfl
theorem args_rev_iter (a : Value) : argsOk "reversed.__iter__" ⟨[a], []⟩ := by
  unfold argsOk; rw [signature?_of (id := "reversed.__iter__") (n := ['_', '_', 'r', 'e', 't', 'i', '_', '_']) (o := ['d', 'e', 's', 'r', 'e', 'v', 'e', 'r']) (by kernel_rfl) owner_rev]; kernel_rfl
theorem entry_rev_iter : entryFor table "reversed.__iter__" = some Builtin.«dict_keyiterator.__iter__» :=
  entryFor_alias (id' := "dict_keyiterator.__iter__") (by kernel_rfl) (by first | rfl | decide +kernel | (unfold String.splitOn; simp +decide [String.splitOnAux])) (by decide +kernel) (by kernel_rfl)
theorem called_rev : TypeCalled "reversed" "reversed.__new__" "object.__init__" :=
  ⟨by decide +kernel, F.create_reversed, ⟨_, _, F.mro_reversed⟩, F.made_reversed, F.plain_reversed_new, F.sub_reversed_self, slot_rev_init⟩
theorem args_init_2 (a b : Value) : argsOk "object.__init__" ⟨[a, b], []⟩ := by
  unfold argsOk; rw [signature?_of (id := "object.__init__") (n := ['_', '_', 't', 'i', 'n', 'i', '_', '_']) (o := ['t', 'c', 'e', 'j', 'b', 'o']) (by kernel_rfl) F.owner_object]; kernel_rfl
theorem no_rev : typeLookup (.type "tuple") "__reversed__" = pure none := by rw [typeLookup_type, builtinLookup_eq_fast]; kernel_rfl
theorem sub_tuple_dict : isSubtype (.type "tuple") (.type "dict") = pure false := by rw [isSubtype_type]; kernel_rfl
noncomputable def rvObj (l : Addr) (i : Int) : Obj := { cls := .type "reversed", data := .fields #[.ref l, rawInt i] }
theorem meets_rev (l : Addr) (items : Array Value) (hz : (items.size : Int) < 2 ^ 63) :
    Meets (Builtin.«reversed.__new__» ⟨[.type "reversed", .ref l], []⟩) (fun _ R s => IsTup s.heap l items ∧
      ∀ tk, R (.ok (.ret (.ref s.heap.objs.size))) { s with heap := s.heap.push (rvObj l ((items.size : Int) - 1)), toks := tk }) :=
  .of_wp fun prog w A R s h => by
    obtain ⟨ht, h⟩ := h
    have hT := ht.typeIs
    unfold Builtin.«reversed.__new__»
    refine wpAny_bind (wpAny_of_eq (newClass_reversed _) ?_)
    try dsimp only
    refine wpAny_bind (wpAny_of_eq (a := ()) (by first | rfl | kernel_rfl) ?_)
    refine wpAny_bind (wpAny_of_eq (a := ()) (by first | rfl | kernel_rfl) ?_)
    try dsimp only
    refine wpAny_bind (wpAny_specialOf hT no_rev ?_)
    try dsimp only
    refine wpAny_bind ?_
    show wpAny _ _ (isInstance (.ref l) (.type "dict") >>= _) _ _ s
    refine wpAny_bind (wpAny_isInstance hT sub_tuple_dict ?_)
    simp only [Bool.false_eq_true, if_false]
    refine wpAny_bind (wpAny_specialOf hT F.slot_tuple_getitem.lookup ?_)
    try dsimp only
    rw [if_pos (by decide +kernel)]
    refine wpAny_pure ?_
    simp only [Bool.not_true, Bool.false_eq_true, if_false]
    refine wpAny_bind (len_tuple ht hz ?_)
    refine wpAny_bind (wpAny_of_eq (a := some (items.size : Int)) rfl ?_)
    try dsimp only
    refine wpAny_bind ?_
    show wpAny _ _ (newObj (.type "reversed") (.fields #[.ref l, rawInt ((items.size : Int) - 1)])) _ _ _
    exact wpAny_newObj_type (wpAny_pure ⟨_, rfl, h _⟩)
section
variable {prog : Program} {w : World} {A : Around} {E : Value → Shared → Prop} {s : Shared}
theorem call_rev_tup {l : Addr} {items : Array Value} {Q : Value → Shared → Prop} (ht : IsTup s.heap l items) (hz : (items.size : Int) < 2 ^ 63)
    (h : ∀ tk, Q (.ref s.heap.objs.size) { s with heap := s.heap.push (rvObj l ((items.size : Int) - 1)), toks := tk }) : wpAny (model prog w) A (call (.type "reversed") [.ref l]) Q E s :=
  callType_new called_rev (by decide) (F.typeCall_reversed_1 _) (F.newCall_reversed_1 _) (fun obj => args_init_2 obj _) F.entry_reversed_new (meets_rev l items hz) ⟨ht, fun tk => ⟨⟨_, Heap.get?_push_size _ rfl, rfl⟩, h tk⟩⟩
theorem next_rev_item {it l : Addr} {i : Nat} {items : Array Value} {x : Value} {Q : Option Value → Shared → Prop} (hit : s.heap.get? it = some (rvObj l (i : Int))) (hl : IsTup s.heap l items) (hx : items[i]? = some x) (hi : i < 2 ^ 60)
    (hQ : ∀ h' tk, h'.get? it = some (rvObj l ((i : Int) - 1)) → Heap.SameBut it s.heap h' → Q (some x) { s with heap := h', toks := tk }) : wpAny (model prog w) A (pyNext (.ref it)) Q E s := by
  have hT : s.TypeIs (.ref it) "reversed" := ⟨_, hit, rfl⟩
  obtain ⟨ot, hot, hct, n, hdt⟩ := id hl
  unfold pyNext
  refine wpAny_bind (wpAny_attempt (wpAny_callSpecial?_slot (name := Str.ofString "__next__") hT slot_rev_next
    (wpAny_call_entry slot_rev_next hT entry_rev_next ?_ (args_rev_next _))))
  unfold Builtin.«reversed.__next__»
  refine wpAny_bind (wpAny_of_eq (a := (Value.ref it, [])) rfl ?_)
  try dsimp only
  refine wpAny_bind (wpAny_field hit rfl (x := .ref l) rfl ?_)
  refine wpAny_bind (wpAny_field hit rfl (x := rawInt (i : Int)) rfl ?_)
  show wpAny _ _ (if (i : Int) < 0 then _ else _) _ _ s
  rw [if_neg (by (first | lia | omega))]
  refine wpAny_bind (wpAny_specialOf hl.typeIs F.slot_tuple_getitem.lookup ?_)
  simp only [Option.isNone_some, Bool.false_eq_true, if_false]
  refine wpAny_bind (wpAny_mkInt ?_)
  refine wpAny_bind (wpAny_attempt (getItem_tuple (s := { s with toks := s.toks + 1 }) hl (by (first | lia | omega)) (by (first | lia | omega)) (by have hlt := (Array.getElem?_eq_some_iff.mp hx).1; rw [PySem.seqIndex_of (by (first | lia | omega)) (by (first | lia | omega))]; simp) hx ?_))
  try dsimp only
  refine wpAny_bind (wpAny_field hit rfl (x := rawInt (i : Int)) rfl ?_)
  try dsimp only [rawInt]
  refine wpAny_bind (wpAny_setField_rec hit (by simp) fun h' hz' hs' => ?_)
  exact wpAny_pure ⟨x, rfl, wpAny_pure (hQ h' _ hz' hs')⟩
theorem next_rev_end {it l : Addr} {Q : Option Value → Shared → Prop} (hh : A.handled = none) (hit : s.heap.get? it = some (rvObj l (-1)))
    (hQ : ∀ h', Heap.ExtBut it s.heap h' → Q none { s with heap := h' }) : wpAny (model prog w) A (pyNext (.ref it)) Q E s := by
  have hT : s.TypeIs (.ref it) "reversed" := ⟨_, hit, rfl⟩
  unfold pyNext
  refine wpAny_bind (wpAny_attempt (wpAny_callSpecial?_slot (name := Str.ofString "__next__") hT slot_rev_next
    (wpAny_call_entry slot_rev_next hT entry_rev_next ?_ (args_rev_next _))))
  unfold Builtin.«reversed.__next__»
  refine wpAny_bind (wpAny_of_eq (a := (Value.ref it, [])) rfl ?_)
  try dsimp only
  refine wpAny_bind (wpAny_field hit rfl (x := .ref l) rfl ?_)
  refine wpAny_bind (wpAny_field hit rfl (x := rawInt (-1)) rfl ?_)
  show wpAny _ _ (if (-1 : Int) < 0 then _ else _) _ _ s
  rw [if_pos (by decide)]
  refine wpAny_bind (wpAny_rule ?_)
  refine wpAny_bind ?_
  show wpAny _ _ (setField (.ref it) 1 (rawInt (-1)) >>= _) _ _ s
  refine wpAny_bind (wpAny_setField_rec hit (by simp) fun h₁ hz₁ hs₁ => ?_)
  refine wpAny_setField_rec hz₁ (by simp) fun h₂ hz₂ hs₂ => ?_
  refine wpAny_bind ?_
  show wpAny _ _ (newExc (.type "StopIteration") [] >>= _) _ _ _
  refine wpAny_bind ?_
  simp only [newExc, newTuple]
  refine wpAny_bind (wpAny_newObj_type ?_ (by size_fits))
  refine wpAny_bind (m := firstArgMember _ _) (wpAny_of_eq (a := Value.none) (by first | rfl | (simp only [firstArgMember]; rfl)) ?_)
  refine wpAny_newObj_type ?_ (by size_fits)
  simp only [raiseNew]
  refine wpAny_bind (wpAny_handled ?_)
  first | rw [show A.in1.handled = none from hh] | rw [hh]
  refine wpAny_bind (wpAny_pure (wpAny_throw ?_))
  refine wpAny_bind (wpAny_isInstance (T := "StopIteration") (b := true) ⟨_, Heap.get?_push_size _ rfl, rfl⟩ isSubtype_stop ?_)
  exact wpAny_pure (hQ _ ((((hs₁.extBut).trans hs₂.extBut).push _).push _))
theorem iter_rev {it l : Addr} {i : Int} {Q : Value → Shared → Prop} (hit : s.heap.get? it = some (rvObj l i)) (h : Q (.ref it) s) : wpAny (model prog w) A (pyIter (.ref it)) Q E s := by
  have hT : s.TypeIs (.ref it) "reversed" := ⟨_, hit, rfl⟩
  refine wpAny_pyIter_slot hT slot_rev_iter (wpAny_call_entry slot_rev_iter hT entry_rev_iter ?_ (args_rev_iter _))
  show wpAny _ _ (ret (.ref it)) _ _ s
  exact wpAny_pure ⟨_, rfl, "reversed", _, hT, slot_rev_next.lookup, h⟩
end
/-! the type's call and the source -/
section
variable {σ : Sg} {Φ : V → Sg → Prop}
theorem TSpec.rev {a : Addr} {vs : List V} (e : σ a = some (.tup vs)) (hz : vs.length < 2 ^ 60) (h : ∀ b, σ b = none → Φ (.ref b) (upd σ b (.raw (rvObj a ((vs.length : Int) - 1))))) : TSpec "reversed" [.ref a] σ Φ := by
  intro c n S ρ us ok _ hv fr h' tk R
  obtain ⟨u, rfl, i1⟩ := hv.one
  obtain rfl : u = .ref a := i1
  obtain ⟨o, hg, ⟨ws, m, rfl, hvs⟩, _⟩ := R.obj ok e
  have hl : IsTup h' a ws.toArray := ⟨_, hg, rfl, m, rfl⟩
  have e2 : (ws.toArray.size : Int) = vs.length := by rw [List.size_toArray, hvs.length]
  refine call_rev_tup (s := c.sh h' tk) hl (by rw [e2]; (first | lia | omega)) fun tk' => ?_
  rw [e2]
  exact ⟨.ref h'.objs.size, _, _, _, rfl, R.alloc ok (o := rvObj a ((vs.length : Int) - 1)) (ob := .raw _) rfl rfl, rfl, h _ (R.fresh ok)⟩
theorem SrcSpec.rev {a b : Addr} {vs : List V} (e : σ a = some (.tup vs)) (hz : vs.length < 2 ^ 60) (eb : σ b = some (.raw (rvObj a ((vs.length : Int) - 1)))) :
    SrcSpec (.ref b) σ (del σ b) vs.length (fun i v => vs[vs.length - 1 - i]? = some v) (fun σ => σ a = some (.tup vs)) := by
  intro c n S ok ρ fr h tk u R hu Q E hQ
  obtain rfl : u = .ref b := hu
  obtain ⟨o, hg, ho, _⟩ := R.obj ok eb
  have ho : o = rvObj a ((vs.length : Int) - 1) := ho
  subst ho
  obtain ⟨R1, hfr⟩ := R.toFr ok eb
  refine iter_rev (s := c.sh h tk) hg ?_
  refine hQ b _ h tk (fun i it => it = rvObj a ((vs.length : Int) - 1 - (i : Int)) ∧ i ≤ vs.length) R1 hfr ?_ ⟨by simp, Nat.zero_le _⟩
  exact {
    item := fun i ρ σ fr h tk it hi hn R hfr hs Q E hQ => by
      obtain ⟨rfl, _⟩ := hs
      obtain ⟨o, hg, ⟨us, m, rfl, hvs⟩, hne⟩ := R.obj ok hn
      have hl : IsTup h a us.toArray := ⟨_, hg, rfl, m, rfl⟩
      obtain ⟨u, hu, iu⟩ := hvs.seq (i := vs.length - 1 - i) (List.getElem?_eq_getElem (by (first | lia | omega)))
      have e1 : (vs.length : Int) - 1 - (i : Int) = ((vs.length - 1 - i : Nat) : Int) := by (first | lia | omega)
      have hat := R.atFr
      rw [e1] at hat
      refine next_rev_item (s := c.sh h tk) hat hl hu (by (first | lia | omega)) fun h' tk' hit' hs' => ?_
      have e2 : ((vs.length - 1 - i : Nat) : Int) - 1 = (vs.length : Int) - 1 - ((i + 1 : Nat) : Int) := by (first | lia | omega)
      rw [e2] at hit'
      exact hQ _ u h' tk' _ (List.getElem?_eq_getElem (by (first | lia | omega))) iu (R.turn hfr (fun b o hb e => hs'.extBut b o (by simpa using hb) e) hit') ⟨rfl, hi⟩
    done := fun ρ σ fr h tk it hn R hfr hs Q E hQ => by
      obtain ⟨rfl, _⟩ := hs
      have e1 : (vs.length : Int) - 1 - (vs.length : Int) = -1 := by (first | lia | omega)
      have hat := R.atFr
      rw [e1] at hat
      exact next_rev_end (s := c.sh h tk) rfl hat fun h' he' => hQ h' tk (R.dropFr' hfr fun b o hb e => he' b o (by simpa using hb) e) }
end
end
section
/-! ## a, b = something -/
noncomputable def wStore (T : Tabs) (S : Scope) (x : Str) (v : V) (ρ : Rho) (σ : Sg) (K : Rho → Sg → Prop) : Prop := match S.names.lookup x with
  | some .local => K (put ρ x v) σ
  | some .cell => CellS T x σ v (K ρ)
  | _ => False
noncomputable def wStores (T : Tabs) (S : Scope) : List Str → List V → Rho → Sg → (Rho → Sg → Prop) → Prop
  | x :: xs, v :: vs, ρ, σ, K => wStore T S x v ρ σ fun ρ σ => wStores T S xs vs ρ σ K
  | [], [], ρ, σ, K => K ρ σ
  | _, _, _, _, _ => False
noncomputable def asNames : List PySem.Expr → Option (List Str)
  | [] => some []
  | t :: r => (match asName t with | some q => (match asNames r with | some l => some (q.1 :: l) | none => none) | none => none)
theorem asNames_cons {t : PySem.Expr} {r : List PySem.Expr} {xs : List Str} (h : asNames (t :: r) = some xs) : ∃ x p l, t = .Name x p ∧ asNames r = some l ∧ xs = x :: l := by
  unfold asNames at h
  cases e : asName t with
  | none => rw [e] at h; cases h
  | some q =>
    rw [e] at h
    dsimp only at h
    cases e2 : asNames r with
    | none => rw [e2] at h; cases h
    | some l => rw [e2] at h; cases h; exact ⟨q.1, q.2, l, asName_eq e, rfl, rfl⟩
theorem XSpec.of {T : Tabs} (hT : T.Ok) {S : Scope} {n j : Nat} {e : PySem.Expr} {ρ : Rho} {σ : Sg} {Φ : V → Sg → Prop} (h : (wk T S n j).e e ρ σ Φ) : XSpec T S n e ρ σ Φ :=
  ⟨fun c ok hcl hk => (wk_ok hT hk j).e c ok hcl _ _ _ _ h⟩
theorem swapsTup {ts : List PySem.Expr} {k : Nat} {tp : Pos} {e : PySem.Expr} {l : Nat} {env : Env} : swapsWithSole [.Tuple ts k tp] e l env = pure false := by cases e <;> rfl
theorem swapped_none {ts : List PySem.Expr} {k : Nat} {tp : Pos} {e : PySem.Expr} {env : Env} (h : asTup e = none) : swappedStores [.Tuple ts k tp] e env = pure none := by cases e <;> first | rfl | cases h
section
variable {T : Tabs} {c : Cx} {S : Scope} {n : Nat} {fr : Led}
theorem wStore_ok (ok : c.Ok n) (hcl : c.cl = T.cl) (hk : S.kind = .function) {x : Str} {px : Pos} {v : V} {u : Value} {ρ : Rho} {σ : Sg} {K : Rho → Sg → Prop} {h : Heap} {tk : Nat} {Q : Unit → Shared → Prop} (R : Rel c ρ σ fr h) (hi : v.Is u) (hw : wStore T S x v ρ σ K)
    (hQ : ∀ ρ' σ' h' tk', Rel c ρ' σ' fr h' → K ρ' σ' → Q () (c.sh h' tk')) : wpAny (model PW c.w) (c.A S) (assign (.Name x px) (c.env S) u) Q c.E (c.sh h tk) := by
  refine assign_Name ?_
  unfold wStore at hw
  split at hw
  · rename_i hx; exact store_ev R hi (fun h1 tk1 R1 => hQ _ _ h1 tk1 R1 hw) hx hk
  · rename_i hx
    obtain ⟨a, ov, h1, h2, h3⟩ := hw
    exact storeC_ev R hi (by rw [hcl]; exact h1) h2 (fun h2 R2 => hQ _ _ h2 tk R2 h3) hx hk
  · exact hw.elim
theorem asNames_each {ts : List PySem.Expr} : ∀ {xs : List Str} {env : Env}, asNames ts = some xs → (assignEach ts env).length = xs.length ∧ (assignEach ts env).findIdx? (·.1) = none := by
  induction ts with
  | nil => intro xs env h; cases h; exact ⟨rfl, rfl⟩
  | cons t r ih =>
    intro xs env h
    obtain ⟨x, p, l, rfl, e, rfl⟩ := asNames_cons h
    obtain ⟨h1, h2⟩ := ih (env := env) e
    refine ⟨?_, ?_⟩
    · show (_ :: assignEach r env).length = _
      simp [h1]
    · show List.findIdx? _ ((false, _) :: assignEach r env) = none
      rw [List.findIdx?_cons, h2]; rfl
theorem wStores_ok (ok : c.Ok n) (hcl : c.cl = T.cl) (hk : S.kind = .function) {ts : List PySem.Expr} : ∀ {xs : List Str} {vs : List V} {us : List Value} {ρ : Rho} {σ : Sg} {K : Rho → Sg → Prop} {h : Heap} {tk : Nat} {Q : Unit → Shared → Prop}, asNames ts = some xs → VIs vs us → Rel c ρ σ fr h → wStores T S xs vs ρ σ K →
    (∀ ρ' σ' h' tk', Rel c ρ' σ' fr h' → K ρ' σ' → Q () (c.sh h' tk')) → wpAny (model PW c.w) (c.A S) (assignInOrder ((assignEach ts (c.env S)).map (·.2)) us) Q c.E (c.sh h tk) := by
  induction ts with
  | nil =>
    intro xs vs us ρ σ K h tk Q hn hv R hw hQ
    cases hn
    cases hv with
    | nil => exact assignInOrder_nil (hQ _ _ _ _ R hw)
    | cons _ _ => exact hw.elim
  | cons t r ih =>
    intro xs vs us ρ σ K h tk Q hn hv R hw hQ
    obtain ⟨x, p, l, rfl, e, rfl⟩ := asNames_cons hn
    cases hv with
    | nil => exact hw.elim
    | cons h1 hv =>
      refine assignInOrder_cons (wStore_ok ok hcl hk R h1 hw fun ρ' σ' h' tk' R' hw' => ?_)
      exact ih e hv R' hw' hQ
theorem Ex.unpack (ok : c.Ok n) (hcl : c.cl = T.cl) (hk : S.kind = .function) {ts : List PySem.Expr} {k : Nat} {tp pos : Pos} {e : PySem.Expr} {xs : List Str} {ρ : Rho} {σ : Sg} {Φ : Fl → Rho → Sg → Prop} (hn : asNames ts = some xs)
    (hsw : swappedStores [.Tuple ts k tp] e (c.env S) = pure none)
    (h : EvV c S (eval e (c.env S)) ρ σ fun v σ' => ∃ a vs, v = .ref a ∧ (σ' a = some (.tup vs) ∨ σ' a = some (.list vs)) ∧ vs.length = xs.length ∧ wStores T S xs vs ρ σ' fun ρ σ => Φ .next ρ σ) :
    ExS c (exec (.Assign [.Tuple ts k tp] e pos) (c.env S)) S ρ σ Φ := by
  intro fr h' tk R
  refine Assign_Tuple (wpAny_mono (h fr h' tk R) (fun u s₁ q => ?_) fun _ _ e => e) swapsTup hsw
  obtain ⟨v, σ', h1, tk1, rfl, R1, iv, a, vs, rfl, ha, hl, hw⟩ := q
  obtain rfl : u = .ref a := iv
  rw [PyProof.Rows.assign_Tuple]
  refine wpAny_bind (wpAny_standAt ?_)
  obtain ⟨e1, e2⟩ := asNames_each (env := c.env S) hn
  unfold PySem.unpack
  rw [e1, e2]
  refine wpAny_bind (wpAny_holding (unpack_ev ok R1 ha hl.symm fun us g R2 hvs => ?_))
  exact wStores_ok ok hcl hk hn hvs R2 hw fun ρ' σ' h2 tk2 R3 q => ⟨.next, _, _, h2, tk2, rfl, R3, rfl, q⟩
end
theorem XStm.unpack {T : Tabs} {S : Scope} {n : Nat} {ts : List PySem.Expr} {k : Nat} {tp pos : Pos} {e : PySem.Expr} {xs : List Str} {ρ : Rho} {σ : Sg} {Φ : Fl → Rho → Sg → Prop} (hn : asNames ts = some xs) (ht : asTup e = none)
    (h : XSpec T S n e ρ σ fun v σ' => ∃ a vs, v = .ref a ∧ (σ' a = some (.tup vs) ∨ σ' a = some (.list vs)) ∧ vs.length = xs.length ∧ wStores T S xs vs ρ σ' fun ρ σ => Φ .next ρ σ) : XStm T S n (.Assign [.Tuple ts k tp] e pos) ρ σ Φ :=
  ⟨fun c ok hcl hS hk => Ex.unpack ok hcl hk hn (swapped_none ht) (h.go c ok hcl hk)⟩
end
section
/-! ## parts -/
theorem at_parts : At 391 (inN (topN PW 21) 27) ["self", "t"] := ⟨fun P => ⟨by kernel_rfl, by kernel_rfl, by kernel_rfl, fun a b => by show bindArgs _ _ = _; kernel_rfl⟩, by kernel_rfl, by decide +kernel⟩
theorem at_partsall : At 398 (inN (topN PW 21) 28) ["self", "some"] := ⟨fun P => ⟨by kernel_rfl, by kernel_rfl, by kernel_rfl, fun a b => by show bindArgs _ _ = _; kernel_rfl⟩, by kernel_rfl, by decide +kernel⟩
/-- the stack's entries are pairs -/
inductive StkR (σ : Sg) : List V → Stk → Prop
  | nil : StkR σ [] []
  | cons {a : Addr} {v : Nat} {b : Bool} {vs : List V} {st : Stk} : σ a = some (.tup [.int v, .bool b]) → StkR σ vs st → StkR σ (.ref a :: vs) ((v, b) :: st)
section
variable {σ σ' : Sg} {vs : List V} {st : Stk}
theorem StkR.tsub (s : TSub σ σ') (h : StkR σ vs st) : StkR σ' vs st := by
  induction h with
  | nil => exact .nil
  | cons h1 _ ih => exact .cons (s _ _ h1) ih
theorem StkR.length (h : StkR σ vs st) : vs.length = st.length := by
  induction h with
  | nil => rfl
  | cons _ _ ih => simp [ih]
theorem StkR.snoc (h : StkR σ vs st) {a : Addr} {v : Nat} {b : Bool} (e : σ a = some (.tup [.int v, .bool b])) : StkR σ (vs ++ [.ref a]) (st ++ [(v, b)]) := by
  induction h with
  | nil => exact .cons e .nil
  | cons h1 _ ih => exact .cons h1 ih
theorem StkR.last (h : StkR σ vs st) (hne : vs ≠ []) : ∃ vs' st' a, ∃ v : Nat, ∃ b : Bool, vs = vs' ++ [.ref a] ∧ st = st' ++ [(v, b)] ∧ StkR σ vs' st' ∧ σ a = some (.tup [.int v, .bool b]) := by
  induction h with
  | nil => exact absurd rfl hne
  | @cons a v b vs st h1 h2 ih =>
    cases vs with
    | nil => cases h2; exact ⟨[], [], a, v, b, rfl, rfl, .nil, h1⟩
    | cons x xs =>
      obtain ⟨vs', st', a', v', b', e1, e2, r, e3⟩ := ih (List.cons_ne_nil _ _)
      exact ⟨.ref a :: vs', (v, b) :: st', a', v', b', by rw [e1]; rfl, by rw [e2]; rfl, .cons h1 r, e3⟩
end
noncomputable def doneD (FL : List Nat) : List (Int × V) := FL.map fun u : Nat => ((u : Int), V.bool true)
theorem doneD_get {FL : List Nat} {u : Nat} : (dget (doneD FL) (u : Int)).isSome = decide (u ∈ FL) := by
  unfold doneD
  induction FL with
  | nil => rfl
  | cons x FL ih =>
    unfold dget at ih ⊢
    rw [List.map_cons, List.find?_cons]
    by_cases h : x = u
    · subst h; simp
    · have : ¬ ((x : Int) = (u : Int)) := by (first | lia | omega)
      simp only [this, decide_false]
      rw [ih]
      by_cases h2 : u ∈ FL <;> simp [h2, Ne.symm h]
theorem doneD_put {FL : List Nat} {u : Nat} (h : u ∉ FL) : dput (doneD FL) (u : Int) (.bool true) = doneD (FL ++ [u]) := by
  unfold dput
  rw [if_neg]
  · simp [doneD]
  · unfold doneD
    rw [List.any_eq_true]
    rintro ⟨x, hx, e⟩
    obtain ⟨y, hy, rfl⟩ := List.mem_map.mp hx
    have : (y : Int) = (u : Int) := by simpa using e
    have : y = u := by (first | lia | omega)
    exact h (this ▸ hy)
section
variable {n : Nat} {σ : Sg} {Φ : V → Sg → Prop} {B : Bk} {kind : Int} {things : List Nat} {L t : Nat}
inductive PartK (B : Bk) (t : Nat) (sa fa da : Addr) (σ : Sg) (k : Nat) (ρ : Rho) (σ' : Sg) : Prop
  | mk (FL : List Nat) (c0 : ρ = binds ["self", "some", "found", "done"] [.ref B.a, .ref sa, .ref fa, .ref da]) (c1 : Sub σ σ') (c2 : σ' fa = some (.list (FL.map fun u : Nat => V.int u))) (c3 : σ' da = some (.idict (doneD FL))) (c4 : Topo B.keys FL) (c5 : (k = 0 → FL = [])) (c6 : (k = 1 → t ∈ FL)) : PartK B t sa fa da σ k ρ σ'
inductive PartW (B : Bk) (t : Nat) (sa fa da sk : Addr) (σ : Sg) (c : Nat) (ρ : Rho) (σ' : Sg) : Prop
  | mk (FL : List Nat) (vs : List V) (st : List (Nat × Bool)) (c0 : ρ = binds ["self", "some", "found", "done", "stack"] [.ref B.a, .ref sa, .ref fa, .ref da, .ref sk]) (c1 : Sub σ σ') (c2 : σ' fa = some (.list (FL.map fun u : Nat => V.int u))) (c3 : σ' da = some (.idict (doneD FL))) (c4 : σ' sk = some (.list vs)) (c5 : StkR σ' vs st) (c6 : PInv B.keys t FL st) (c7 : c = costs st) : PartW B t sa fa da sk σ c ρ σ'
inductive PartJ (B : Bk) (sa fa da sk : Addr) (v : Nat) (mv : Nn) (FL : List Nat) (st' : List (Nat × Bool)) (σ : Sg) (i : Nat) (ρ : Rho) (σ' : Sg) : Prop
  | mk (vs : List V) (c0 : ρ = binds ["self", "some", "found", "done", "stack"] [.ref B.a, .ref sa, .ref fa, .ref da, .ref sk]) (c1 : Sub σ σ') (c2 : σ' fa = some (.list (FL.map fun u : Nat => V.int u))) (c3 : σ' da = some (.idict (doneD FL))) (c4 : σ' sk = some (.list vs)) (c5 : StkR σ' vs ((st' ++ [(v, true)]) ++ pushes FL (mv.key.args.reverse.take i))) : PartJ B sa fa da sk v mv FL st' σ i ρ σ'
theorem partsall_ok (H : BankAt σ B) (hl : Lin B.keys kind things L) (hz : B.nodes.length ≤ 300) {m : Nn} (hm : B.nodes[t]? = some m) {sa : Addr} (hsa : σ sa = some (.tup [.int t]))
    (h : ∀ fa FL σ', Sub σ σ' → σ' fa = some (.list (FL.map fun u : Nat => V.int u)) → Topo B.keys FL → t ∈ FL → Φ (.ref fa) σ') : CallOk (n + 1) 398 [.ref B.a, .ref sa] σ Φ := by
  have klen : B.keys.length = B.nodes.length := List.length_map _
  have kk : B.keys[t]? = some m.key := by rw [List.getElem?_map, hm]; rfl
  have big : 2000 ≤ sizeLine := Nat.le_of_ble_eq_true rfl
  refine CallOk.of TT_ok at_partsall (k := 20) (j := 20) rfl ?_
  refine ⟨Nat.le_of_ble_eq_true rfl, fun fa hfa => ⟨_, .inl rfl, fun da hda q hq => ?_⟩⟩
  have hne1 : da ≠ fa := fun q => by subst q; rw [upd_same] at hda; cases hda
  have s0 : Sub σ (upd (upd (upd σ fa (.list [])) da (.idict [])) q (.tup [.ref fa, .ref da])) := (Sub.upd hfa).trans ((Sub.upd hda).trans (Sub.upd hq))
  have e1 : upd (upd (upd σ fa (.list [])) da (.idict [])) q (.tup [.ref fa, .ref da]) fa = some (.list []) := Sub.upd hq _ _ (Sub.upd hda _ _ upd_same)
  have e2 : upd (upd (upd σ fa (.list [])) da (.idict [])) q (.tup [.ref fa, .ref da]) da = some (.idict []) := Sub.upd hq _ _ upd_same
  have nda : σ da = none := by
    cases e : σ da with
    | none => rfl
    | some ob => rw [Sub.upd hfa _ _ e] at hda; cases hda
  generalize upd (upd (upd σ fa (.list [])) da (.idict [])) q (.tup [.ref fa, .ref da]) = σ0 at s0 e1 e2
  clear hda hq
  refine ⟨σ0, _, _, _, (PartK B t sa fa da σ),
    SrcSpec.tuple (s0 _ _ hsa), ⟨_, σ0, rsub_cons (rsub_cons (rsub_cons (rsub_cons rsub_nil rfl) rfl) rfl) rfl, Sub.refl, [], rfl, s0, e1, e2, ⟨List.nodup_nil, fun i u h => by simp at h⟩, fun _ => rfl, fun h => (by cases h)⟩, ?_, ?_, ?_⟩
  · rintro k ρ σ' ⟨FL, rfl, s, _⟩
    exact s _ _ hsa
  · rintro k ρ σ' v hk ⟨FL, rfl, s, ef, ed, T, h0, _⟩ hv
    have hk : k = 0 := Nat.lt_one_iff.mp hk
    subst hk
    obtain rfl := h0 rfl
    have : V.int (t : Int) = v := by simpa using hv
    subst this
    refine ⟨Nat.le_of_ble_eq_true rfl, fun pa hpa => ⟨Nat.le_of_ble_eq_true rfl, fun sk hsk => ?_⟩⟩
    have s1 : Sub σ' (upd (upd σ' pa (.tup [.int t, .bool false])) sk (.list [.ref pa])) := (Sub.upd hpa).trans (Sub.upd hsk)
    have ep : upd (upd σ' pa (.tup [.int t, .bool false])) sk (.list [.ref pa]) pa = some (.tup [.int t, .bool false]) := Sub.upd hsk _ _ upd_same
    have es : upd (upd σ' pa (.tup [.int t, .bool false])) sk (.list [.ref pa]) sk = some (.list [.ref pa]) := upd_same
    have nsk : σ' sk = none := by
      cases e : σ' sk with
      | none => rfl
      | some ob => rw [Sub.upd hpa _ _ e] at hsk; cases hsk
    generalize upd (upd σ' pa (.tup [.int t, .bool false])) sk (.list [.ref pa]) = σ1 at s1 ep es
    have hsf : sk ≠ fa := fun q => by rw [q, ef] at nsk; cases nsk
    have hsd : sk ≠ da := fun q => by rw [q, ed] at nsk; cases nsk
    have nsk0 : σ sk = none := by
      cases e : σ sk with
      | none => rfl
      | some ob => rw [s _ _ e] at nsk; cases nsk
    refine ⟨(PartW B t sa fa da sk σ),
      _, _, σ1, rsub_cons (rsub_cons (rsub_cons (rsub_cons (rsub_cons rsub_nil rfl) rfl) rfl) rfl) rfl, Sub.refl, ⟨[], _, [(t, false)], rfl, s.trans s1, s1 _ _ ef, s1 _ _ ed, es, .cons ep .nil, PInv.start kk, rfl⟩, ?_⟩
    clear ef ed s s1 ep es hpa hsk nsk
    rintro c ρ σ2 ⟨FL, vs, st, rfl, s, ef, ed, es, SR, I, rfl⟩
    have vlen : vs.length ≤ 4 * 300 + 1 := by
      cases vs with
      | nil => exact Nat.zero_le _
      | cons x xs =>
        obtain ⟨vs', st', a, v, b, e1, rfl, r, _⟩ := SR.last (List.cons_ne_nil _ _)
        rw [SR.length, List.length_append, List.length_singleton]
        have := I.len
        (first | lia | omega)
    refine BSpec.lenL es (by (first | lia | omega)) ⟨fun hb => ?_, fun hb => ?_⟩
    · have hne : vs ≠ [] := fun e => by
        subst e
        have : decide ((0 : Int) < ((0 : Nat) : Int)) = true := hb
        simp at this
      obtain ⟨vs', st', a, v, b, rfl, rfl, SR', ea⟩ := SR.last hne
      have vl' : vs'.length ≤ 1200 := by rw [List.length_append, List.length_singleton] at vlen; (first | lia | omega)
      refine XStm.unpack (xs := ["t", "is_open"]) rfl rfl (XSpec.of TT_ok (j := 20) ?_)
      refine .inr ⟨_, MSpec.pop es, BSpec.pop es (by (first | lia | omega)) ?_⟩
      have T3 : TSub σ2 (upd σ2 sk (.list vs')) := TSub.upd es fun _ => nofun
      have s3 : Sub σ (upd σ2 sk (.list vs')) := fun x ob e => by rw [upd_ne fun q => by rw [q, nsk0] at e; cases e]; exact s _ _ e
      have f3 : upd σ2 sk (.list vs') fa = _ := (upd_ne (Ne.symm hsf)).trans ef
      have d3 : upd σ2 sk (.list vs') da = _ := (upd_ne (Ne.symm hsd)).trans ed
      have es3 : upd σ2 sk (.list vs') sk = _ := upd_same
      have ea3 := T3 _ _ ea
      have SR3 := SR'.tsub T3
      generalize upd σ2 sk (.list vs') = σ3 at T3 s3 f3 d3 es3 ea3 SR3
      refine ⟨a, _, rfl, .inl ea3, rfl, ?_⟩
      refine ⟨_, CSpec.inD d3, fun hin => ?_, fun hin => ?_⟩
      · have hv : v ∈ FL := by
          have : (dget (doneD FL) (v : Int)).isSome = true := hin
          rw [doneD_get] at this
          exact of_decide_eq_true this
        exact ⟨_, _, _, cost_pop, rsub_cons (rsub_cons (rsub_cons (rsub_cons (rsub_cons rsub_nil rfl) rfl) rfl) rfl) rfl, Sub.refl, FL, vs', st', rfl, s3, f3, d3, es3, SR3, I.skip hv, rfl⟩
      · have hv : v ∉ FL := by
          have : (dget (doneD FL) (v : Int)).isSome = false := hin
          rw [doneD_get] at this
          exact of_decide_eq_false this
        have flen := I.topo.len
        have dlen : (doneD FL).length = FL.length := List.length_map _
        refine ⟨fun hb => ?_, fun hb => ?_⟩
        · subst hb
          refine ⟨_, SISpec.idict d3 (by (first | lia | omega)), ?_⟩
          rw [doneD_put hv]
          have T4 : TSub σ3 (upd σ3 da (.idict (doneD (FL ++ [v])))) := TSub.upd d3 fun _ => nofun
          have s4 : Sub σ (upd σ3 da (.idict (doneD (FL ++ [v])))) := fun x ob e => by rw [upd_ne fun q => by rw [q, nda] at e; cases e]; exact s3 _ _ e
          have f4 : upd σ3 da (.idict (doneD (FL ++ [v]))) fa = _ := (upd_ne (Ne.symm hne1)).trans f3
          have d4 : upd σ3 da (.idict (doneD (FL ++ [v]))) da = _ := upd_same
          have es4 : upd σ3 da (.idict (doneD (FL ++ [v]))) sk = _ := (upd_ne hsd).trans es3
          have SR4 := SR3.tsub T4
          generalize upd σ3 da (.idict (doneD (FL ++ [v]))) = σ4 at T4 s4 f4 d4 es4 SR4
          refine .inr ⟨_, MSpec.append f4, BSpec.append f4 (by rw [List.length_map]; (first | lia | omega)) ?_⟩
          have T5 : TSub σ4 (upd σ4 fa (.list (FL.map (fun u : Nat => V.int u) ++ [.int v]))) := TSub.upd f4 fun _ => nofun
          refine ⟨_, _, _, cost_pop, rsub_cons (rsub_cons (rsub_cons (rsub_cons (rsub_cons rsub_nil rfl) rfl) rfl) rfl) rfl, Sub.refl, FL ++ [v], vs', st', rfl, ?_, ?_, (upd_ne hne1).trans d4, (upd_ne hsf).trans es4, SR4.tsub T5, I.close hv, rfl⟩
          · intro x ob e
            rw [upd_ne fun q => by rw [q, hfa] at e; cases e]; exact s4 _ _ e
          · rw [upd_same, List.map_append]; rfl
        · subst hb
          obtain ⟨nd, hnd⟩ := I.node
          obtain ⟨mv, hmv, rfl⟩ := Bk.key hnd
          have h3len := (hl.args v _ hnd).1
          refine .inr ⟨_, MSpec.append es3, Nat.le_of_ble_eq_true rfl, fun ta hta => ?_⟩
          have s4 := Sub.upd (ob := .tup [.int v, .bool true]) hta
          have t4 : upd σ3 ta (.tup [.int v, .bool true]) ta = _ := upd_same
          have f4 := s4 _ _ f3
          have d4 := s4 _ _ d3
          have es4 := s4 _ _ es3
          have SR4 := SR3.tsub fun a vs e => s4 _ _ e
          have s04 := s3.trans s4
          generalize upd σ3 ta (.tup [.int v, .bool true]) = σ4 at s4 t4 f4 d4 es4 SR4 s04
          refine BSpec.append es4 (by (first | lia | omega)) ?_
          have T5 : TSub σ4 (upd σ4 sk (.list (vs' ++ [.ref ta]))) := TSub.upd es4 fun _ => nofun
          have s5 : Sub σ (upd σ4 sk (.list (vs' ++ [.ref ta]))) := fun x ob e => by rw [upd_ne fun q => by rw [q, nsk0] at e; cases e]; exact s04 _ _ e
          have f5 : upd σ4 sk (.list (vs' ++ [.ref ta])) fa = _ := (upd_ne (Ne.symm hsf)).trans f4
          have d5 : upd σ4 sk (.list (vs' ++ [.ref ta])) da = _ := (upd_ne (Ne.symm hsd)).trans d4
          have es5 : upd σ4 sk (.list (vs' ++ [.ref ta])) sk = _ := upd_same
          have SR5 := (SR4.snoc t4).tsub T5
          generalize upd σ4 sk (.list (vs' ++ [.ref ta])) = σ5 at T5 s5 f5 d5 es5 SR5
          clear T5 s4 t4 SR4 es4 d4 f4 s04
          have H5 := H.sub s5
          have hargs := (H.node mv (List.mem_of_getElem? hmv)).1
          refine ⟨_, _, _, _, _, rfl, H5.inst, H5.g2, by kernel_rfl, _, H5.item (α := Nat) H5.o2 hmv (by (first | lia | omega)), TSpec.rev (s5 _ _ hargs) (by rw [List.length_map]; (first | lia | omega)) fun rb hrb => ?_⟩
          have erb : upd σ5 rb (.raw (rvObj mv.aA (((mv.key.args.map V.int).length : Int) - 1))) rb = _ := upd_same
          refine ⟨_, _, _, fun σ' => σ' mv.aA = some (.tup (mv.key.args.map .int)), (PartJ B sa fa da sk v mv FL st' σ),
            SrcSpec.rev (Sub.upd hrb _ _ (s5 _ _ hargs)) (by rw [List.length_map]; (first | lia | omega)) erb, ⟨_, σ5, rsub_cons (rsub_cons (rsub_cons (rsub_cons (rsub_cons rsub_nil rfl) rfl) rfl) rfl) rfl, ?_, _, rfl, s5, f5, d5, es5, ?_⟩, ?_, ?_, ?_⟩
          · rw [del_upd hrb]; exact Sub.refl
          · rw [List.take_zero]; show StkR _ _ ((st' ++ [(v, true)]) ++ []); rw [List.append_nil]; exact SR5
          · rintro i ρ σ' ⟨vs, rfl, sx, _⟩
            exact sx _ _ hargs
          · rintro i ρ σ' x hi ⟨vs, rfl, sx, fx, dx, ex, SX⟩ hx
            rw [List.length_map] at hi hx
            rw [List.getElem?_map] at hx
            obtain ⟨a, ha, rfl⟩ := Option.map_eq_some_iff.mp hx
            obtain ⟨j, rfl, hj⟩ := (hl.args v _ hnd).2 a (List.mem_of_getElem? ha)
            have er : mv.key.args.reverse[i]? = some (j : Int) := by rw [List.getElem?_reverse hi]; exact ha
            have et : mv.key.args.reverse.take (i + 1) = mv.key.args.reverse.take i ++ [(j : Int)] := by rw [List.take_add_one, er]; rfl
            have vlx : vs.length ≤ 1300 := by
              have e := SX.length
              rw [List.length_append, List.length_append, List.length_singleton] at e
              have p1 := pushes_len (FL := FL) (l := mv.key.args.reverse.take i)
              rw [List.length_take, List.length_reverse] at p1
              have := SR'.length
              (first | lia | omega)
            refine ⟨_, CSpec.notInD dx, fun hno => ?_, fun hno => ?_⟩
            · have hno : j ∉ FL := by
                have : (!(dget (doneD FL) (j : Int)).isSome) = true := hno
                rw [doneD_get] at this
                simpa using this
              refine .inr ⟨_, MSpec.append ex, Nat.le_of_ble_eq_true rfl, fun tb htb => ?_⟩
              have s6 := Sub.upd (ob := .tup [.int j, .bool false]) htb
              have t6 : upd σ' tb (.tup [.int j, .bool false]) tb = _ := upd_same
              have ex6 := s6 _ _ ex
              have fx6 := s6 _ _ fx
              have dx6 := s6 _ _ dx
              have SX6 := SX.tsub fun a vs e => s6 _ _ e
              have sx6 := sx.trans s6
              generalize upd σ' tb (.tup [.int j, .bool false]) = σ6 at s6 t6 ex6 fx6 dx6 SX6 sx6
              refine BSpec.append ex6 (by (first | lia | omega)) ?_
              have T7 : TSub σ6 (upd σ6 sk (.list (vs ++ [.ref tb]))) := TSub.upd ex6 fun _ => nofun
              refine ⟨_, _, rsub_cons (rsub_cons (rsub_cons (rsub_cons (rsub_cons rsub_nil rfl) rfl) rfl) rfl) rfl, Sub.refl, _, rfl, ?_, (upd_ne (Ne.symm hsf)).trans fx6, (upd_ne (Ne.symm hsd)).trans dx6, upd_same, ?_⟩
              · intro x ob e
                rw [upd_ne fun q => by rw [q, nsk0] at e; cases e]; exact sx6 _ _ e
              · rw [et, pushes_snoc, Int.toNat_natCast, if_neg hno, ← List.append_assoc]
                exact (SX6.snoc t6).tsub T7
            · have hno : j ∈ FL := by
                have : (!(dget (doneD FL) (j : Int)).isSome) = false := hno
                rw [doneD_get] at this
                simpa using this
              refine ⟨_, _, rsub_cons (rsub_cons (rsub_cons (rsub_cons (rsub_cons rsub_nil rfl) rfl) rfl) rfl) rfl, Sub.refl, vs, rfl, sx, fx, dx, ex, ?_⟩
              rw [et, pushes_snoc, Int.toNat_natCast, if_pos hno, List.append_nil]
              exact SX
          · rintro ρ σ' ⟨vs, rfl, sx, fx, dx, ex, SX⟩
            rw [List.length_map, ← List.length_reverse, List.take_length] at SX
            exact ⟨_, _, _, cost_open hl hnd, rsub_cons (rsub_cons (rsub_cons (rsub_cons (rsub_cons rsub_nil rfl) rfl) rfl) rfl) rfl, Sub.refl, FL, vs, _, rfl, sx, fx, dx, ex, SX, I.open hl hnd, rfl⟩
    · have hnil : vs = [] := by
        have : decide ((0 : Int) < (vs.length : Int)) = false := hb
        have : ¬ ((0 : Int) < (vs.length : Int)) := by simpa using this
        cases vs with
        | nil => rfl
        | cons x l => simp at this
      subst hnil
      cases SR
      refine ⟨_, _, rsub_cons (rsub_cons (rsub_cons (rsub_cons rsub_nil rfl) rfl) rfl) rfl, Sub.refl, FL, rfl, s, ef, ed, I.topo, fun h => (by cases h), fun _ => ?_⟩
      rcases I.root with q | ⟨p, b, q⟩
      · exact q
      · simp at q
  · rintro ρ σ' ⟨FL, rfl, s, ef, ed, T, _, h1⟩
    exact ⟨σ', Sub.refl, h fa FL σ' s ef T (h1 rfl)⟩
theorem parts_ok (H : BankAt σ B) (hl : Lin B.keys kind things L) (hz : B.nodes.length ≤ 300) {m : Nn} (hm : B.nodes[t]? = some m)
    (h : ∀ fa FL σ', Sub σ σ' → σ' fa = some (.list (FL.map fun u : Nat => V.int u)) → Topo B.keys FL → t ∈ FL → Φ (.ref fa) σ') : CallOk (n + 2) 391 [.ref B.a, .int t] σ Φ := by
  refine CallOk.of TT_ok at_parts (k := 20) (j := 20) rfl ?_
  refine .inl ⟨_, _, _, _, 398, rfl, H.inst, H.own _ (by decide +kernel), by kernel_rfl, Nat.le_of_ble_eq_true rfl, fun sa hsa => ?_⟩
  have s1 := Sub.upd (ob := .tup [.int t]) hsa
  exact partsall_ok (H.sub s1) hl hz hm upd_same fun fa FL σ' s => fun e T ht => ⟨σ', Sub.refl, h fa FL σ' (s1.trans s) e T ht⟩
end
end
section
/-! ## evaluate -/
theorem sum_perm {l l' : List Int} (h : l.Perm l') (f : Int → Rat) : (l.map f).sum = (l'.map f).sum := by
  induction h with
  | nil => rfl
  | cons x _ ih => rw [List.map_cons, List.map_cons, List.sum_cons, List.sum_cons, ih]
  | swap x y l => simp only [List.map_cons, List.sum_cons]; grind
  | trans _ _ h1 h2 => rw [h1, h2]
theorem rget_of {P : RL} {x : Int × Rat} (hn : (P.map (·.1)).Nodup) (hx : x ∈ P) : rget P x.1 = some x.2 := by
  induction P with
  | nil => cases hx
  | cons y P ih =>
    rw [List.map_cons, List.nodup_cons] at hn
    unfold rget at ih ⊢
    rcases List.mem_cons.mp hx with rfl | hx
    · simp
    · have : y.1 ≠ x.1 := fun q => hn.1 (List.mem_map.mpr ⟨x, hx, q.symm⟩)
      simp only [List.find?_cons, this, decide_false]
      exact ih hn.2 hx
theorem S_keys {P : RL} (hn : (P.map (·.1)).Nodup) (val : Nat → Rat) : ((P.map (·.1)).map fun k => (rget P k).getD 0 * val k.toNat).sum = S P val := by
  unfold S
  rw [List.map_map]
  congr 1
  refine List.map_congr_left fun x hx => ?_
  show (rget P x.1).getD 0 * val x.1.toNat = _
  rw [rget_of hn hx]; rfl
theorem DR.keys {σ : Sg} {kvs : List (Int × V)} {W : RL} (h : DR σ kvs W) : kvs.map (·.1) = W.map (·.1) := by
  induction h with
  | nil => rfl
  | cons _ _ ih => rw [List.map_cons, List.map_cons, ih]
theorem at_eval : At 174 (inN (topN PW 14) 5) ["self", "values"] := ⟨fun P => ⟨by kernel_rfl, by kernel_rfl, by kernel_rfl, fun a b => by show bindArgs _ _ = _; kernel_rfl⟩, by kernel_rfl, by decide +kernel⟩
/-- a point: what each thing is -/
structure PtAt (σ : Sg) (pa : Addr) (things : List Nat) (pt : Nat → Rat) : Prop where
  at_ : ∃ kv, σ pa = some (.idict kv) ∧ (∀ i ∈ things, ∃ a, dget kv (i : Int) = some (.ref a) ∧ σ a = some (frac (pt i))) ∧ (∀ i : Nat, i ∉ things → dget kv (i : Int) = none) ∧ kv.length ≤ 100
theorem PtAt.sub {σ σ' : Sg} {pa : Addr} {things : List Nat} {pt : Nat → Rat} (s : Sub σ σ') (h : PtAt σ pa things pt) : PtAt σ' pa things pt := by
  obtain ⟨kv, h1, h2, h3⟩ := h.at_
  exact ⟨kv, s _ _ h1, fun i hi => by obtain ⟨a, x, y⟩ := h2 i hi; exact ⟨a, x, s _ _ y⟩, h3⟩
section
variable {n : Nat} {σ : Sg} {Φ : V → Sg → Prop} {B : Bk} {kind : Int} {things : List Nat} {L t : Nat}
theorem eval_ok {f dx pd ca pa : Addr} {kvs : List (Int × V)} {P : RL} {C : Rat} {N : Nat} {ks : List Nd} {pt : Nat → Rat} (FA : FormAt σ f dx pd kvs ca C.num C.den) (dp : DR σ kvs P) (FR : FormRes ks things L t N P C) (hL : L ≤ 10) (hN : N ≤ 300) (hth : things.length < 64)
    (hp : PtAt σ pa things pt) (hsz : ∀ i ∈ things, Sz 12 8 (pt i)) (h : ∀ q σ', Sub σ σ' → σ' q = some (frac (C + S P pt)) → Φ (.ref q) σ') : CallOk (n + 4) 174 [.ref f, .ref pa] σ Φ := by
  obtain ⟨kv, hpa, hkv, _⟩ := hp.at_
  have hmem : ∀ k ∈ P.map (·.1), ∃ j : Nat, k = (j : Int) ∧ j ∈ things := fun k hk => by
    obtain ⟨x, hx, rfl⟩ := List.mem_map.mp hk
    obtain ⟨j, e, _, hj⟩ := FR.pk.at_ x hx
    exact ⟨j, e, hj⟩
  have hlen : kvs.length < 64 := by
    have h1 : (P.map (·.1)).length ≤ things.length := by
      have hsub : ∀ (l : List Int) (th : List Nat), l.Nodup → (∀ k ∈ l, ∃ j : Nat, k = (j : Int) ∧ j ∈ th) → l.length ≤ th.length := by
        intro l
        induction l with
        | nil => intro th _ _; exact Nat.zero_le _
        | cons k l ih =>
          intro th hn hm
          obtain ⟨j, rfl, hj⟩ := hm k (.head _)
          rw [List.nodup_cons] at hn
          have := ih (th.erase j) hn.2 fun k' hk' => by
            obtain ⟨j', rfl, hj'⟩ := hm k' (.tail _ hk')
            have hne : j' ≠ j := fun q => hn.1 (by rw [← q]; exact hk')
            exact ⟨j', rfl, (List.mem_erase_of_ne hne).mpr hj'⟩
          have e := List.length_erase_of_mem hj
          have pos := List.length_pos_of_mem hj
          simp only [List.length_cons]; (first | lia | omega)
      exact hsub _ _ FR.pk.nd hmem
    rw [List.length_map] at h1
    rw [dp.length]; (first | lia | omega)
  refine CallOk.of TT_ok at_eval (k := 20) (j := 20) rfl ?_
  refine ⟨_, _, _, _, _, rfl, FA.inst, rfl, by kernel_rfl, ?_⟩
  refine ⟨_, _, _, _, _, rfl, FA.inst, rfl, by kernel_rfl, ?_⟩
  refine BSpec.sorted FA.parts hlen fun D ns hD hperm => ?_
  have s1 : Sub σ (upd σ D (.list (ns.map .int))) := Sub.upd hD
  have e1 : upd σ D (.list (ns.map .int)) D = _ := upd_same
  generalize upd σ D (.list (ns.map .int)) = σ1 at s1 e1
  rw [dp.keys] at hperm
  have coef : ∀ k ∈ ns, ∃ (j : Nat) (a b : Addr) (r : Rat), k = (j : Int) ∧ j ∈ things ∧ rget P k = some r ∧ dget kvs k = some (.ref a) ∧ σ a = some (frac r) ∧ dget kv k = some (.ref b) ∧ σ b = some (frac (pt j)) := fun k hk => by
    have hk := hperm.mem_iff.mp hk
    obtain ⟨j, rfl, hj⟩ := hmem k hk
    obtain ⟨b, hb1, hb2⟩ := hkv j hj
    cases e : rget P (j : Int) with
    | none =>
      obtain ⟨x, hx, ex⟩ := List.mem_map.mp hk
      exact absurd ex (rget_none.mp e x hx)
    | some r =>
      obtain ⟨a, ha1, ha2⟩ := dp.some e
      exact ⟨j, a, b, r, rfl, hj, rfl, ha1, ha2, hb1, hb2⟩
  have nlen : ns.length ≤ 64 := by have := hperm.length_eq; rw [List.length_map, ← dp.length] at this; (first | lia | omega)
  let g := fun k : Int => (rget P k).getD 0 * pt k.toNat
  have gsz : ∀ k ∈ ns, Sz (12 ^ (L + N + 1)) (8 * 5 ^ N) (g k) := fun k hk => by
    obtain ⟨j, a, b, r, rfl, hj, hr, _⟩ := coef k hk
    show Sz _ _ ((rget P (j : Int)).getD 0 * pt (j : Int).toNat)
    rw [hr, Int.toNat_natCast, Option.getD_some]
    have := (FR.ps _ (rget_mem hr)).mul (hsz j hj)
    rw [Nat.mul_comm (5 ^ N) 8, ← Nat.pow_succ] at this
    exact this.mono (pow_dvd (by (first | lia | omega))) (Nat.le_refl _)
  refine ⟨σ1, _, _, _, fun i ρ σ' => ∃ q, ρ = binds ["self", "values", "found"] [.ref f, .ref pa, .ref q] ∧ Sub σ1 σ' ∧ σ' q = some (frac (C + ((ns.take i).map g).sum)), SrcSpec.list e1, ⟨_, σ1, rsub_cons (rsub_cons (rsub_cons rsub_nil rfl) rfl) rfl, Sub.refl, ca, rfl, Sub.refl, ?_⟩, ?_, ?_, ?_⟩
  · rw [s1 _ _ FA.const]
    have : C + ((ns.take 0).map g).sum = C := by simp only [List.take_zero, List.map_nil, List.sum_nil]; grind
    rw [this]; rfl
  · rintro i ρ σ' ⟨q, rfl, s, _⟩
    exact s _ _ e1
  · rintro i ρ σ' v hi ⟨q, rfl, s, hq⟩ hv
    rw [List.getElem?_map] at hv
    obtain ⟨k, hk, rfl⟩ := Option.map_eq_some_iff.mp hv
    have hkm := List.mem_of_getElem? hk
    obtain ⟨j, a, b, r, rfl, hj, hr, ha1, ha2, hb1, hb2⟩ := coef k hkm
    have s2 := s1.trans s
    have sz1 : Small r := small_of (i := N) (k := 1) (by rw [Nat.one_mul]; exact FR.ps _ (rget_mem hr)) (by (first | lia | omega)) (by decide)
    have sz2 : Small (pt j) := (hsz j hj).small (by decide) (by decide +kernel) (by decide +kernel)
    have sz3 : Small (r * pt j) := by
      have := gsz _ hkm
      have e : g (j : Int) = r * pt j := by show (rget P (j : Int)).getD 0 * pt (j : Int).toNat = _; rw [hr, Int.toNat_natCast]; rfl
      rw [e] at this
      exact small_of (i := L + N + 1) (k := 8) (this.mono (Nat.dvd_refl _) (Nat.mul_le_mul (Nat.le_refl _) (pow5 (by (first | lia | omega))))) (by (first | lia | omega)) (by decide)
    have sz4 : Small (C + ((ns.take i).map g).sum) := by
      have q1 := FR.cs.mono (pow_dvd (show L + N ≤ L + N + 1 by (first | lia | omega))) (Nat.le_refl _)
      have q2 := Sz.sum3 (l := ns.take i) (f := g) (fun k hk => gsz k (List.mem_of_mem_take hk))
      have q3 := q1.add q2
      refine small_of (i := L + N + 1) (k := 4 ^ 11 + 64 * 8) (q3.mono (Nat.dvd_refl _) ?_) (by (first | lia | omega)) (by decide)
      have l1 : (ns.take i).length ≤ 64 := by rw [List.length_take]; (first | lia | omega)
      have l2 : 4 ^ (L + 1) ≤ 4 ^ 11 := Nat.pow_le_pow_right (by decide) (by (first | lia | omega))
      have l3 : 5 ^ N ≤ 5 ^ (L + N + 1) := pow5 (by (first | lia | omega))
      calc 4 ^ (L + 1) * 5 ^ N + (ns.take i).length * (8 * 5 ^ N) ≤ 4 ^ 11 * 5 ^ N + 64 * (8 * 5 ^ N) := Nat.add_le_add (Nat.mul_le_mul l2 (Nat.le_refl _)) (Nat.mul_le_mul l1 (Nat.le_refl _))
        _ = (4 ^ 11 + 64 * 8) * 5 ^ N := by rw [Nat.add_mul, Nat.mul_assoc]
        _ ≤ _ := Nat.mul_le_mul (Nat.le_refl _) l3
    refine ⟨_, _, _, _, _, rfl, ⟨s2 _ _ FA.inst.obj, s2 _ _ FA.inst.dict⟩, rfl, by kernel_rfl, _, ISpec.idict (s2 _ _ FA.parts) ha1, _, ISpec.idict (s2 _ _ hpa) hb1, ?_⟩
    refine mulR (s2 _ _ ha2) (s2 _ _ hb2) sz1 sz2 fun q1 hq1 => ?_
    have s3 := Sub.upd (ob := frac (r * pt j)) hq1
    refine addR (s3 _ _ hq) upd_same sz4 sz3 fun q2 hq2 => ?_
    refine ⟨_, _, rsub_cons (rsub_cons (rsub_cons rsub_nil rfl) rfl) rfl, Sub.refl, q2, rfl, s.trans (s3.trans (Sub.upd hq2)), ?_⟩
    have et : ns.take (i + 1) = ns.take i ++ [(j : Int)] := by rw [List.take_add_one, hk]; rfl
    have e : C + ((ns.take (i + 1)).map g).sum = C + ((ns.take i).map g).sum + r * pt j := by
      rw [et, List.map_append, List.sum_append]
      have e : g (j : Int) = r * pt j := by show (rget P (j : Int)).getD 0 * pt (j : Int).toNat = _; rw [hr, Int.toNat_natCast]; rfl
      simp only [List.map_cons, List.map_nil, List.sum_cons, List.sum_nil, e]
      grind
    rw [e]; exact upd_same
  · rintro ρ σ' ⟨q, rfl, s, hq⟩
    rw [List.length_map, List.take_length] at hq
    refine ⟨_, Sub.refl, h q σ' (s1.trans s) ?_⟩
    rw [hq, sum_perm hperm g, S_keys FR.pk.nd]
end
end
section
/-! ## the law's own reckoning -/
theorem at_value : At 758 (topN PW 31) ["bank", "t", "point"] := ⟨fun P => ⟨by kernel_rfl, by kernel_rfl, by kernel_rfl, fun a b c => by show bindArgs _ _ = _; kernel_rfl⟩, by kernel_rfl, by decide +kernel⟩
theorem dget_dput (kvs : List (Int × V)) (k k' : Int) (v : V) : dget (dput kvs k v) k' = if k' = k then some v else dget kvs k' := by
  unfold dput
  split
  · rename_i hany
    by_cases hk : k' = k
    · subst hk
      rw [if_pos rfl]
      induction kvs with
      | nil => simp at hany
      | cons x kvs ih =>
        unfold dget at ih ⊢
        rw [List.map_cons, List.find?_cons]
        by_cases h : x.1 = k'
        · rw [if_pos h]; simp [h]
        · rw [if_neg h]
          have h2 : decide (x.1 = k') = false := by simpa using h
          rw [h2]
          exact ih (by rw [List.any_cons] at hany; simpa [h] using hany)
    · rw [if_neg hk]
      clear hany
      induction kvs with
      | nil => rfl
      | cons x kvs ih =>
        unfold dget at ih ⊢
        rw [List.map_cons, List.find?_cons, List.find?_cons]
        by_cases h : x.1 = k
        · rw [if_pos h]
          have h2 : ¬ x.1 = k' := fun q => hk (by rw [← q, h])
          simp only [h2, decide_false]
          exact ih
        · rw [if_neg h]
          by_cases h2 : x.1 = k'
          · simp [h2]
          · simp only [h2, decide_false]; exact ih
  · rename_i hany
    unfold dget
    rw [List.find?_append]
    by_cases hk : k' = k
    · subst hk
      have : kvs.find? (fun p => decide (p.1 = k')) = none := by
        rw [List.find?_eq_none]
        intro x hx q
        exact hany (List.any_eq_true.mpr ⟨x, hx, q⟩)
      rw [this]; simp
    · rw [if_neg hk]
      cases kvs.find? (fun p => decide (p.1 = k')) with
      | some x => rfl
      | none => simp [Ne.symm hk]
theorem PtAt.has {σ : Sg} {things : List Nat} {pt : Nat → Rat} {kv : List (Int × V)} (h1 : ∀ i ∈ things, ∃ a, dget kv (i : Int) = some (.ref a) ∧ σ a = some (frac (pt i))) (h2 : ∀ i : Nat, i ∉ things → dget kv (i : Int) = none) (u : Nat) : (dget kv (u : Int)).isSome = decide (u ∈ things) := by
  by_cases h : u ∈ things
  · obtain ⟨a, e, _⟩ := h1 u h
    rw [e, decide_eq_true h]; rfl
  · rw [h2 u h, decide_eq_false h]; rfl
/-- what is known after some parts -/
noncomputable def Known (σ : Sg) (ks : List Nd) (kind : Int) (val : Nat → Rat) (kk : List (Int × V)) (l : List Nat) : Prop := ∀ u ∈ l, ∀ n, ks[u]? = some n → n.sort = kind → ∃ a, dget kk (u : Int) = some (.ref a) ∧ σ a = some (frac (val u))
section
variable {n : Nat} {σ : Sg} {Φ : V → Sg → Prop} {B : Bk} {kind : Int} {things : List Nat} {L t : Nat}
theorem Known.tsub {σ' : Sg} {ks : List Nd} {val : Nat → Rat} {kk : List (Int × V)} {l : List Nat} (s : TSub σ σ') (h : Known σ ks kind val kk l) : Known σ' ks kind val kk l := fun u hu n hn hs => by
  obtain ⟨a, e, q⟩ := h u hu n hn hs
  exact ⟨a, e, s _ _ q⟩
theorem Known.put {ks : List Nd} {val : Nat → Rat} {kk : List (Int × V)} {l : List Nat} {u : Nat} {a : Addr} (h : Known σ ks kind val kk l) (e : σ a = some (frac (val u))) : Known σ ks kind val (dput kk (u : Int) (.ref a)) (l ++ [u]) := fun w hw n hn hs => by
  rw [dget_dput]
  by_cases q : (w : Int) = (u : Int)
  · have : w = u := by (first | lia | omega)
    subst this
    exact ⟨a, if_pos rfl, e⟩
  · rw [if_neg q]
    rcases List.mem_append.mp hw with hw | hw
    · exact h w hw n hn hs
    · rw [List.mem_singleton] at hw; subst hw; exact absurd rfl q
theorem val_small (H : Lin B.keys kind things L) (hL : L ≤ 10) (hz : B.nodes.length ≤ 300) {val : Nat → Rat} (V : LinVal B.keys val) (hp : ∀ i ∈ things, Sz 12 8 (val i)) {i : Nat} {m : Nd} (hm : B.keys[i]? = some m) (hs : m.sort = kind) : Small (val i) := by
  have hlt := (List.getElem?_eq_some_iff.mp hm).1
  rw [List.length_map] at hlt
  refine small_of (i := L + i + 1) (k := 4 ^ (L + 2)) ((val_sz H V hp i m hm hs).mono (Nat.dvd_refl _) (Nat.mul_le_mul (Nat.le_refl _) (pow5 (by (first | lia | omega))))) (by (first | lia | omega)) (Nat.le_trans (Nat.pow_le_pow_right (by decide) (show L + 2 ≤ 12 by (first | lia | omega))) (by decide))
inductive ValI (B : Bk) (kind : Int) (val : Nat → Rat) (t : Nat) (pa kd fa : Addr) (FL : List Nat) (σ : Sg) (i : Nat) (ρ : Rho) (σ' : Sg) : Prop
  | mk (kk : List (Int × V)) (c0 : ρ = binds ["bank", "t", "point", "known"] [.ref B.a, .int t, .ref pa, .ref kd]) (c1 : Sub σ σ') (c2 : σ' fa = some (.list (FL.map fun u : Nat => V.int u))) (c3 : σ' kd = some (.idict kk)) (c4 : kk.length ≤ i) (c5 : Known σ' B.keys kind val kk (FL.take i)) : ValI B kind val t pa kd fa FL σ i ρ σ'
inductive ValJ (B : Bk) (val : Nat → Rat) (t u : Nat) (pa kd : Addr) (mu : Nn) (σ2 : Sg) (k : Nat) (ρ : Rho) (σ' : Sg) : Prop
  | mk (q : Addr) (c0 : ρ = binds ["bank", "t", "point", "known", "part", "args", "total"] [.ref B.a, .int t, .ref pa, .ref kd, .int u, .ref mu.aA, .ref q]) (c1 : Sub σ2 σ') (c2 : σ' q = some (frac (((mu.key.args.take k).map fun a => val a.toNat).sum))) : ValJ B val t u pa kd mu σ2 k ρ σ'
theorem value_ok (H : BankAt σ B) (hl : Lin B.keys kind things L) (hL : L ≤ 10) (hz : B.nodes.length ≤ 300) {m : Nn} (hm : B.nodes[t]? = some m) (hs : m.key.sort = kind) {pa : Addr} {pt : Nat → Rat} (hp : PtAt σ pa things pt) (hsz : ∀ i ∈ things, Sz 12 8 (pt i))
    (h : ∀ q σ', Sub σ σ' → σ' q = some (frac (valOf B.keys things pt t)) → Φ (.ref q) σ') : CallOk (n + 4) 758 [.ref B.a, .int t, .ref pa] σ Φ := by
  have klen : B.keys.length = B.nodes.length := List.length_map _
  have big : 2000 ≤ sizeLine := Nat.le_of_ble_eq_true rfl
  have VL := valOf_lin hl (pt := pt)
  have hpv : ∀ i ∈ things, Sz 12 8 (valOf B.keys things pt i) := fun i hi => by rw [valOf_thing hi]; exact hsz i hi
  have hvt : ∀ i ∈ things, valOf B.keys things pt i = pt i := fun i hi => valOf_thing hi
  have sm := fun {i : Nat} {m : Nd} => val_small hl hL hz VL hpv (i := i) (m := m)
  have vsz := val_sz hl VL hpv
  generalize valOf B.keys things pt = val at VL hpv hvt sm vsz h
  obtain ⟨kv, hpa, hk1, hk2, _⟩ := hp.at_
  refine CallOk.of TT_ok at_value (k := 20) (j := 20) rfl ?_
  refine ⟨_, .inl rfl, fun kd hkd => ?_⟩
  have s0 := Sub.upd (ob := .idict []) hkd
  have e0 : upd σ kd (.idict []) kd = _ := upd_same
  generalize upd σ kd (.idict []) = σ0 at s0 e0
  refine .inl ⟨_, _, _, _, 391, rfl, (H.sub s0).inst, H.own _ (by decide +kernel), by kernel_rfl, parts_ok (H.sub s0) hl hz hm fun fa FL σ1 s1 ef T ht => ?_⟩
  have s01 := s0.trans s1
  have flen := T.len
  refine ⟨σ1, _, _, _, (ValI B kind val t pa kd fa FL σ),
    SrcSpec.list ef, ⟨_, σ1, rsub_cons (rsub_cons (rsub_cons (rsub_cons rsub_nil rfl) rfl) rfl) rfl, Sub.refl, [], rfl, s01, ef, s1 _ _ e0, Nat.le_refl _, fun u hu => by simp at hu⟩, ?_, ?_, ?_⟩
  · rintro i ρ σ' ⟨kk, rfl, s, ef, _⟩
    exact ef
  · rintro i ρ σ' v hi ⟨kk, rfl, s, ef, ed, kl, K⟩ hv
    rw [List.length_map] at hi
    rw [List.getElem?_map] at hv
    obtain ⟨u, hu, rfl⟩ := Option.map_eq_some_iff.mp hv
    obtain ⟨nd, hnd, hargsIn⟩ := T.at_ i u hu
    obtain ⟨mu, hmu, rfl⟩ := Bk.key hnd
    have hu300 : u < B.nodes.length := (List.getElem?_eq_some_iff.mp hmu).1
    have et : FL.take (i + 1) = FL.take i ++ [u] := by rw [List.take_add_one, hu]; rfl
    have H1 := H.sub s
    refine .inl ⟨_, _, _, _, 293, rfl, H1.inst, H1.own _ (by decide +kernel), by kernel_rfl, op_ok H1 hmu (by (first | lia | omega)) ?_⟩
    refine .inl ⟨_, _, _, _, 300, rfl, H1.inst, H1.own _ (by decide +kernel), by kernel_rfl, args_ok H1 hmu (by (first | lia | omega)) fun q hq => ?_⟩
    have s2 := Sub.upd (ob := .tup [.str mu.key.op, .ref mu.aA]) hq
    have ef2 := s2 _ _ ef
    have ed2 := s2 _ _ ed
    have K2 := K.tsub (σ' := upd σ' q (.tup [.str mu.key.op, .ref mu.aA])) fun a vs e => s2 _ _ e
    have s02 := s.trans s2
    generalize upd σ' q (.tup [.str mu.key.op, .ref mu.aA]) = σ2 at s2 ef2 ed2 K2 s02
    clear s2 H1 hq K ed ef s
    have H2 := H.sub s02
    -- the end of a turn that puts the part's value in
    have fin : ∀ (σ3 : Sg) (a : Addr), Sub σ2 σ3 → σ3 a = some (frac (val u)) → SISpec (.ref kd) (.int u) (.ref a) σ3 (upd σ3 kd (.idict (dput kk (u : Int) (.ref a)))) ∧ Sub σ (upd σ3 kd (.idict (dput kk (u : Int) (.ref a)))) ∧ upd σ3 kd (.idict (dput kk (u : Int) (.ref a))) fa = some (.list (FL.map fun u : Nat => V.int u)) ∧ (dput kk (u : Int) (.ref a)).length ≤ i + 1 ∧ Known (upd σ3 kd (.idict (dput kk (u : Int) (.ref a)))) B.keys kind val (dput kk (u : Int) (.ref a)) (FL.take (i + 1)) := fun σ3 a s3 ea => by
      have e3 := s3 _ _ ed2
      refine ⟨SISpec.idict e3 (by (first | lia | omega)), fun x ob e => ?_, ?_, ?_, ?_⟩
      · rw [upd_ne fun q => by rw [q, hkd] at e; cases e]; exact s3 _ _ (s02 _ _ e)
      · exact (upd_ne (ne_of (s3 _ _ ef2) e3 nofun)).trans (s3 _ _ ef2)
      · have := dput_length kk (u : Int) (.ref a); (first | lia | omega)
      · rw [et]; exact ((K2.tsub fun a vs e => s3 _ _ e).put ea).tsub (TSub.upd e3 fun _ => nofun)
    refine ⟨_, CSpec.inD (s02 _ _ hpa), fun hin => ?_, fun hin => ?_⟩
    · have hin : u ∈ things := by
        have : (dget kv (u : Int)).isSome = true := hin
        rw [PtAt.has hk1 hk2] at this
        exact of_decide_eq_true this
      obtain ⟨a, ha1, ha2⟩ := hk1 u hin
      obtain ⟨f1, f2, f3, f4, f5⟩ := fin σ2 a Sub.refl (by rw [hvt u hin]; exact s02 _ _ ha2)
      exact ⟨_, ISpec.idict (s02 _ _ hpa) ha1, _, f1, _, _, rsub_cons (rsub_cons (rsub_cons (rsub_cons rsub_nil rfl) rfl) rfl) rfl, Sub.refl, _, rfl, f2, f3, upd_same, f4, f5⟩
    have hin : u ∉ things := by
      have : (dget kv (u : Int)).isSome = false := hin
      rw [PtAt.has hk1 hk2] at this
      exact of_decide_eq_false this
    refine ⟨fun ho => ?_, fun ho => ⟨fun ho2 => ?_, fun ho2 => ⟨fun ho3 => ?_, fun ho3 => ?_⟩⟩⟩
    · have ho : mu.key.op = "num" := by simpa using ho
      obtain ⟨r, hd⟩ := num_key hl hnd ho
      obtain ⟨a, ha, hf⟩ := H2.num hmu hd
      rw [← VL.num u _ r hnd ho hd] at hf
      obtain ⟨f1, f2, f3, f4, f5⟩ := fin σ2 a Sub.refl hf
      refine .inl ⟨_, _, _, _, 314, rfl, H2.inst, H2.own _ (by decide +kernel), by kernel_rfl, data_ok H2 hmu (by (first | lia | omega)) ?_⟩
      rw [ha]
      exact ⟨_, f1, _, _, rsub_cons (rsub_cons (rsub_cons (rsub_cons rsub_nil rfl) rfl) rfl) rfl, Sub.refl, _, rfl, f2, f3, upd_same, f4, f5⟩
    · have ho2 : mu.key.op = "+" := by simpa using ho2
      have hargs := (H.node mu (List.mem_of_getElem? hmu)).1
      have h3 := (hl.args u _ hnd).1
      obtain ⟨hus, hplus⟩ := hl.plus u _ hnd ho2
      have asz : ∀ a ∈ mu.key.args, ∃ (j : Nat) (m : Nd), a = (j : Int) ∧ j ∈ FL.take i ∧ B.keys[j]? = some m ∧ m.sort = kind ∧ Sz (12 ^ (L + u)) (4 ^ (L + 2) * 5 ^ u) (val j) := fun a ha => by
        obtain ⟨j, mm, rfl, hj, hms⟩ := hplus a ha
        obtain ⟨j', e', hlt⟩ := (hl.args u _ hnd).2 _ ha
        obtain ⟨j2, e2, hin⟩ := hargsIn _ ha
        have e3 : j2 = j := by (first | lia | omega)
        subst e3
        exact ⟨j2, mm, rfl, hin, hj, hms, (vsz j2 mm hj hms).mono (pow_dvd (by (first | lia | omega))) (Nat.mul_le_mul (Nat.le_refl _) (pow5 (by (first | lia | omega))))⟩
      refine ⟨Nat.le_of_ble_eq_true rfl, fun q0 hq0 => ?_⟩
      have s3 := Sub.upd (ob := frac 0) hq0
      refine ⟨upd σ2 q0 (.tup [.int 0, .int 1]), _, _, fun σ' => σ' mu.aA = some (.tup (mu.key.args.map .int)), (ValJ B val t u pa kd mu σ2),
        SrcSpec.tuple (s3 _ _ (s02 _ _ hargs)), ⟨_, _, rsub_cons (rsub_cons (rsub_cons (rsub_cons (rsub_cons (rsub_cons (rsub_cons rsub_nil rfl) rfl) rfl) rfl) rfl) rfl) rfl, Sub.refl, q0, rfl, s3, upd_same⟩, ?_, ?_, ?_⟩
      · rintro k ρ σ' ⟨q, rfl, sx, _⟩
        exact sx _ _ (s02 _ _ hargs)
      · rintro k ρ σ' v hk ⟨q, rfl, sx, hq⟩ hv
        rw [List.getElem?_map] at hv
        obtain ⟨a, ha, rfl⟩ := Option.map_eq_some_iff.mp hv
        obtain ⟨j, mm, rfl, hjin, hj, hms, hjz⟩ := asz a (List.mem_of_getElem? ha)
        obtain ⟨b, hb1, hb2⟩ := K2 j hjin mm hj hms
        have sp : Small (((mu.key.args.take k).map fun a => val a.toNat).sum) := by
          have q := Sz.sum3 (D := 12 ^ (L + u)) (M := 4 ^ (L + 2) * 5 ^ u) (l := mu.key.args.take k) (f := fun a => val a.toNat) fun a ha => by
            obtain ⟨j, mm, rfl, _, _, _, hjz⟩ := asz a (List.mem_of_mem_take ha)
            rw [Int.toNat_natCast]; exact hjz
          refine small_of (i := L + u) (k := 3 * 4 ^ 12) (q.mono (Nat.dvd_refl _) ?_) (by (first | lia | omega)) (by decide)
          have l1 : (mu.key.args.take k).length ≤ 3 := by rw [List.length_take]; (first | lia | omega)
          have l2 : 4 ^ (L + 2) ≤ 4 ^ 12 := Nat.pow_le_pow_right (by decide) (by (first | lia | omega))
          have l3 : 5 ^ u ≤ 5 ^ (L + u) := pow5 (by (first | lia | omega))
          calc _ ≤ 3 * (4 ^ 12 * 5 ^ (L + u)) := Nat.mul_le_mul l1 (Nat.mul_le_mul l2 l3)
            _ = _ := by rw [Nat.mul_assoc]
        refine ⟨_, ISpec.idict (sx _ _ ed2) hb1, ?_⟩
        refine lplusR hq (sx _ _ hb2) sp (sm hj hms) fun r hr => ?_
        refine ⟨_, _, rsub_cons (rsub_cons (rsub_cons (rsub_cons (rsub_cons (rsub_cons (rsub_cons rsub_nil rfl) rfl) rfl) rfl) rfl) rfl) rfl, Sub.refl, r, rfl, sx.trans (Sub.upd hr), ?_⟩
        have et : mu.key.args.take (k + 1) = mu.key.args.take k ++ [(j : Int)] := by rw [List.take_add_one, ha]; rfl
        have e : ((mu.key.args.take (k + 1)).map fun a => val a.toNat).sum = ((mu.key.args.take k).map fun a => val a.toNat).sum + val j := by
          rw [et, List.map_append, List.sum_append]
          simp only [List.map_cons, List.map_nil, List.sum_cons, List.sum_nil, Int.toNat_natCast]
          grind
        rw [e]; exact upd_same
      · rintro ρ σ' ⟨q, rfl, sx, hq⟩
        rw [List.length_map, List.take_length, ← VL.plus u _ hnd ho2] at hq
        obtain ⟨f1, f2, f3, f4, f5⟩ := fin σ' q sx hq
        exact ⟨_, f1, _, _, rsub_cons (rsub_cons (rsub_cons (rsub_cons rsub_nil rfl) rfl) rfl) rfl, Sub.refl, _, rfl, f2, f3, upd_same, f4, f5⟩
    · have ho3 : mu.key.op = "*" := by simpa using ho3
      obtain ⟨hus, c, a, r, ma, hca, hc, hr, hma, hmas⟩ := hl.times u _ hnd ho3
      have hargs := s02 _ _ (H.node mu (List.mem_of_getElem? hmu)).1
      rw [hca] at hargs
      have inT : ∀ j : Nat, (j : Int) ∈ mu.key.args → j ∈ FL.take i := fun j hj => by
        obtain ⟨j2, e2, hin⟩ := hargsIn _ hj
        have : j2 = j := by (first | lia | omega)
        subst this
        exact hin
      obtain ⟨b1, hb1, hf1⟩ := K2 c (inT c (by rw [hca]; simp)) _ hc rfl
      obtain ⟨b2, hb2, hf2⟩ := K2 a (inT a (by rw [hca]; simp)) _ hma hmas
      refine ⟨_, i0 hargs, _, ISpec.idict ed2 hb1, _, i1 hargs, _, ISpec.idict ed2 hb2, ?_⟩
      refine ltimesR hf1 hf2 (sm hc rfl) (sm hma hmas) fun q hq => ?_
      have s3 := Sub.upd (ob := frac (val c * val a)) hq
      obtain ⟨f1, f2, f3, f4, f5⟩ := fin _ q s3 (by rw [VL.times u _ c a hnd ho3 hca]; exact upd_same)
      exact ⟨_, f1, _, _, rsub_cons (rsub_cons (rsub_cons (rsub_cons rsub_nil rfl) rfl) rfl) rfl, Sub.refl, _, rfl, f2, f3, upd_same, f4, f5⟩
    · have ho : mu.key.op ≠ "num" := by simpa using ho
      have ho2 : mu.key.op ≠ "+" := by simpa using ho2
      have ho3 : mu.key.op ≠ "*" := by simpa using ho3
      refine ⟨_, _, rsub_cons (rsub_cons (rsub_cons (rsub_cons rsub_nil rfl) rfl) rfl) rfl, Sub.refl, kk, rfl, s02, ef2, ed2, by (first | lia | omega), ?_⟩
      rw [et]
      intro w hw n hn hns
      rcases List.mem_append.mp hw with hw | hw
      · exact K2 w hw n hn hns
      · rw [List.mem_singleton] at hw
        subst hw
        rw [hnd] at hn; cases hn
        exact absurd (hl.other _ _ hnd hns ho ho2 ho3) hin
  · rintro ρ σ' ⟨kk, rfl, s, ef, ed, kl, K⟩
    rw [List.length_map, List.take_length] at K
    obtain ⟨a, ha1, ha2⟩ := K t ht m.key (by rw [List.getElem?_map, hm]; rfl) hs
    exact ⟨_, ISpec.idict ed ha1, σ', Sub.refl, h a σ' s ha2⟩
end
end
section
/-! ## the tape -/
theorem at_draw : At 730 (topN PW 27) ["tape", "wide"] := ⟨fun P => ⟨by kernel_rfl, by kernel_rfl, by kernel_rfl, fun a b => by show bindArgs _ _ = _; kernel_rfl⟩, by kernel_rfl, by decide +kernel⟩
structure TapeAt (σ : Sg) (ta ca : Addr) (cells : List Int) (sp : Nat) : Prop where
  tape : σ ta = some (.tdict [("cells", .ref ca), ("spot", .int sp)])
  cell : σ ca = some (.list (cells.map .int))
  len : cells.length ≤ 100
  small : sp ≤ 10000
theorem TapeAt.sub {σ σ' : Sg} {ta ca : Addr} {cells : List Int} {sp : Nat} (s : Sub σ σ') (h : TapeAt σ ta ca cells sp) : TapeAt σ' ta ca cells sp := ⟨s _ _ h.tape, s _ _ h.cell, h.len, h.small⟩
theorem fmod_range (a : Int) {w : Nat} (hw : 0 < w) : ∃ r : Nat, Int.fmod a w = (r : Int) ∧ r < w := by
  rw [Int.fmod_eq_emod_of_nonneg a (by (first | lia | omega))]
  have h1 := Int.emod_nonneg a (show (w : Int) ≠ 0 by (first | lia | omega))
  have h2 := Int.emod_lt_of_pos a (show (0 : Int) < w by (first | lia | omega))
  exact ⟨(a % w).toNat, by (first | lia | omega), by (first | lia | omega)⟩
theorem dput_spot (ca : Addr) (a b : V) : dput [(("cells" : Str), V.ref ca), (("spot" : Str), a)] ("spot" : Str) b = [(("cells" : Str), V.ref ca), (("spot" : Str), b)] := by
  have h1 : ¬ (("cells" : Str) = ("spot" : Str)) := by decide +kernel
  unfold dput
  simp [h1]
section
variable {n : Nat} {σ : Sg} {Φ : V → Sg → Prop}
theorem draw_ok {ta ca : Addr} {cells : List Int} {sp w : Nat} (T : TapeAt σ ta ca cells sp) (hs : sp < 10000) (hw : 0 < w)
    (h : ∀ (r : Nat) σ', r < w → TapeAt σ' ta ca cells (sp + 1) → (∀ a ob, σ a = some ob → a ≠ ta → σ' a = some ob) → Φ (.int r) σ') : CallOk (n + 1) 730 [.ref ta, .int w] σ Φ := by
  have big : 100 ≤ sizeLine := Nat.le_of_ble_eq_true rfl
  have hne : ca ≠ ta := fun q => by have := T.cell; rw [q, T.tape] at this; cases this
  refine CallOk.of TT_ok at_draw (k := 20) (j := 20) rfl ?_
  refine ⟨_, ISpec.tdict T.tape (v := .int sp) (by kernel_rfl), ?_⟩
  refine ⟨_, SISpec.tdict T.tape (by show 2 ≤ sizeLine; (first | lia | omega)), ?_⟩
  rw [dput_spot]
  have e1 : upd σ ta (.tdict [("cells", .ref ca), ("spot", .int ((sp : Int) + 1))]) ta = some (.tdict [("cells", .ref ca), ("spot", .int ((sp + 1 : Nat) : Int))]) := upd_same
  have e2 : upd σ ta (.tdict [("cells", .ref ca), ("spot", .int ((sp : Int) + 1))]) ca = _ := (upd_ne hne).trans T.cell
  have T1 : TapeAt (upd σ ta (.tdict [("cells", .ref ca), ("spot", .int ((sp : Int) + 1))])) ta ca cells (sp + 1) := ⟨e1, e2, T.len, hs⟩
  have k1 : ∀ a ob, σ a = some ob → a ≠ ta → upd σ ta (.tdict [("cells", .ref ca), ("spot", .int ((sp : Int) + 1))]) a = some ob := fun a ob e hne => (upd_ne hne).trans e
  generalize upd σ ta (.tdict [("cells", .ref ca), ("spot", .int ((sp : Int) + 1))]) = σ1 at e1 e2 T1 k1
  refine ⟨_, ISpec.tdict e1 (v := .ref ca) (by kernel_rfl), BSpec.lenL e2 (by rw [List.length_map]; have := T.len; (first | lia | omega)) ⟨fun hb => ?_, fun hb => ?_⟩⟩
  · have hlt : sp < cells.length := by
      have : decide ((sp : Int) < ((cells.map V.int).length : Int)) = true := hb
      rw [List.length_map] at this
      have := of_decide_eq_true this
      (first | lia | omega)
    obtain ⟨r, hr, hlt2⟩ := fmod_range cells[sp] hw
    refine ⟨_, ISpec.tdict e1 (v := .ref ca) (by kernel_rfl), .int cells[sp], ISpec.list e2 (by (first | lia | omega)) (by (first | lia | omega)) (by rw [Int.toNat_natCast, List.getElem?_map, List.getElem?_eq_getElem hlt]; rfl), by (first | lia | omega), ?_⟩
    rw [hr]
    exact ⟨_, Sub.refl, h r σ1 hlt2 T1 k1⟩
  · have small : ∀ i : Int, 0 ≤ i → i < 2 ^ 60 → IntMulOk (5 : Int) i := fun i _ _ => mulOk (by decide +kernel) (by have : (2 : Nat) ^ 60 < 2 ^ 4000 := Nat.pow_lt_pow_right (by decide) (by decide); (first | lia | omega))
    obtain ⟨r1, hr1, hl1⟩ := fmod_range (5 * (sp : Int) * sp + 6 * sp + 3) (w := 97) (by decide)
    obtain ⟨r, hr, hlt2⟩ := fmod_range (r1 : Int) hw
    have b1 : ((2 : Nat) ^ 60) < 2 ^ 4000 := Nat.pow_lt_pow_right (by decide) (by decide)
    refine ⟨mulOk (by decide +kernel) (by (first | lia | omega)), mulOk (by (first | lia | omega)) (by (first | lia | omega)), mulOk (by decide +kernel) (by (first | lia | omega)), by decide, by (first | lia | omega), ?_⟩
    have hr1 : Int.fmod (5 * (sp : Int) * sp + 6 * sp + 3) 97 = (r1 : Int) := hr1
    rw [hr1, hr]
    exact ⟨_, Sub.refl, h r σ1 hlt2 T1 k1⟩
end
end
section
/-! ## terms made -/
theorem nePN : ("+" : Str) ≠ "num" := by decide +kernel
theorem nePT : ("+" : Str) ≠ "*" := by decide +kernel
theorem neNP : ("num" : Str) ≠ "+" := by decide +kernel
theorem neNT : ("num" : Str) ≠ "*" := by decide +kernel
theorem neTN : ("*" : Str) ≠ "num" := by decide +kernel
theorem neTP : ("*" : Str) ≠ "+" := by decide +kernel
structure LinKey (ks : List Nd) (kind : Int) (L : Nat) (k : Nd) : Prop where
  args : k.args.length ≤ 3 ∧ ∀ a ∈ k.args, ∃ j : Nat, a = (j : Int) ∧ j < ks.length
  num : k.op = "num" → k.sort = kind ∧ k.args = [] ∧ ∃ r : Rat, k.data = .inr (r.num, (r.den : Int)) ∧ Sz (12 ^ L) (4 ^ (L + 1)) r ∧ (kind = 1 → r.den = 1)
  plus : k.op = "+" → k.sort = kind ∧ ∀ a ∈ k.args, ∃ (j : Nat) (m : Nd), a = (j : Int) ∧ ks[j]? = some m ∧ m.sort = kind
  times : k.op = "*" → k.sort = kind ∧ ∃ (c a : Nat) (r : Rat) (m : Nd), k.args = [(c : Int), (a : Int)] ∧ ks[c]? = some ⟨"num", [], kind, .inr (r.num, (r.den : Int))⟩ ∧ Sz 12 4 r ∧ ks[a]? = some m ∧ m.sort = kind
  other : k.op = "num" ∨ k.op = "+" ∨ k.op = "*"
section
variable {ks : List Nd} {kind : Int} {things : List Nat} {L : Nat} {k : Nd}
theorem Lin.mono {L' : Nat} (H : Lin ks kind things L) (h : L ≤ L') : Lin ks kind things L' where
  args := H.args
  num := fun i n e ho => by
    obtain ⟨a, b, r, c, d, e⟩ := H.num i n e ho
    exact ⟨a, b, r, c, d.mono (pow_dvd h) (Nat.pow_le_pow_right (by decide) (by (first | lia | omega))), e⟩
  plus := H.plus
  times := H.times
  thing := H.thing
  other := H.other
theorem Lin.push (H : Lin ks kind things L) (hk : LinKey ks kind L k) : Lin (ks ++ [k]) kind things L := by
  have up : ∀ (i : Nat) n, ks[i]? = some n → (ks ++ [k])[i]? = some n := fun i n e => by rw [List.getElem?_append_left (List.getElem?_eq_some_iff.mp e).1]; exact e
  have dn : ∀ (i : Nat) n, (ks ++ [k])[i]? = some n → ks[i]? = some n ∨ (i = ks.length ∧ n = k) := fun i n e => by
    rcases Nat.lt_or_ge i ks.length with q | q
    · rw [List.getElem?_append_left q] at e; exact .inl e
    · have hlt := (List.getElem?_eq_some_iff.mp e).1
      rw [List.length_append, List.length_singleton] at hlt
      have : i = ks.length := by (first | lia | omega)
      subst this
      rw [List.getElem?_append_right (Nat.le_refl _), Nat.sub_self] at e
      exact .inr ⟨rfl, by simpa using e.symm⟩
  refine ⟨fun i n e => ?_, fun i n e ho => ?_, fun i n e ho => ?_, fun i n e ho => ?_, fun i hi => ?_, fun i n e hs h1 h2 h3 => ?_⟩
  · rcases dn i n e with q | ⟨rfl, rfl⟩
    · exact H.args i n q
    · exact hk.args
  · rcases dn i n e with q | ⟨rfl, rfl⟩
    · exact H.num i n q ho
    · exact hk.num ho
  · rcases dn i n e with q | ⟨rfl, rfl⟩
    · obtain ⟨a, b⟩ := H.plus i n q ho
      exact ⟨a, fun x hx => by obtain ⟨j, m, e1, e2, e3⟩ := b x hx; exact ⟨j, m, e1, up j m e2, e3⟩⟩
    · obtain ⟨a, b⟩ := hk.plus ho
      exact ⟨a, fun x hx => by obtain ⟨j, m, e1, e2, e3⟩ := b x hx; exact ⟨j, m, e1, up j m e2, e3⟩⟩
  · rcases dn i n e with q | ⟨rfl, rfl⟩
    · obtain ⟨a, c, x, r, m, h1, h2, h3, h4, h5⟩ := H.times i n q ho
      exact ⟨a, c, x, r, m, h1, up _ _ h2, h3, up _ _ h4, h5⟩
    · obtain ⟨a, c, x, r, m, h1, h2, h3, h4, h5⟩ := hk.times ho
      exact ⟨a, c, x, r, m, h1, up _ _ h2, h3, up _ _ h4, h5⟩
  · obtain ⟨n, e, r⟩ := H.thing i hi
    exact ⟨n, up i n e, r⟩
  · rcases dn i n e with q | ⟨rfl, rfl⟩
    · exact H.other i n q hs h1 h2 h3
    · rcases hk.other with q | q | q
      · exact absurd q h1
      · exact absurd q h2
      · exact absurd q h3
theorem Lin.grow {B B' : Bk} {t : Nat} (H : Lin B.keys kind things L) (g : Grow B B' k t) (hk : LinKey B.keys kind L k) : Lin B'.keys kind things L := by
  rcases g.ks with e | ⟨_, _, e⟩
  · show Lin (B'.nodes.map (·.key)) _ _ _; rw [e]; exact H
  · show Lin (B'.nodes.map (·.key)) _ _ _; rw [e]; exact H.push hk
theorem Grow.node {B B' : Bk} {t : Nat} (g : Grow B B' k t) : ∃ m, B'.nodes[t]? = some m ∧ m.key = k := by
  obtain ⟨m, h1, h2⟩ := Option.map_eq_some_iff.mp g.at_
  exact ⟨m, h1, h2⟩
end
/-- a number term is had, d nodes more at most -/
noncomputable def Term (B : Bk) (σ : Sg) (kind : Int) (things : List Nat) (L d : Nat) (Φ : V → Sg → Prop) : Prop :=
  ∀ B' σ' (t : Nat), BankAt σ' B' → Lin B'.keys kind things L → Ext B B' → B'.nodes.length ≤ B.nodes.length + d → Keeps B σ σ' → (∃ m, B'.nodes[t]? = some m ∧ m.key.sort = kind) → Φ (.int t) σ'
/-- a number term of the bank -/
noncomputable def NumT (B : Bk) (kind : Int) (t : Nat) : Prop := ∃ m, B.nodes[t]? = some m ∧ m.key.sort = kind
theorem NumT.ext {B B' : Bk} {kind : Int} {t : Nat} (x : Ext B B') (h : NumT B kind t) : NumT B' kind t := by obtain ⟨m, h1, h2⟩ := h; exact ⟨m, x.get h1, h2⟩
theorem NumT.lt {B : Bk} {kind : Int} {t : Nat} (h : NumT B kind t) : t < B.nodes.length := by obtain ⟨m, h1, _⟩ := h; exact (List.getElem?_eq_some_iff.mp h1).1
theorem NumT.key {B : Bk} {kind : Int} {t : Nat} (h : NumT B kind t) : ∃ m, B.keys[t]? = some m ∧ m.sort = kind := by obtain ⟨m, h1, h2⟩ := h; exact ⟨m.key, by rw [List.getElem?_map, h1]; rfl, h2⟩
theorem Term.sub {B : Bk} {σ σ1 : Sg} {kind : Int} {things : List Nat} {L d : Nat} {Φ : V → Sg → Prop} (s : Sub σ σ1) (h : Term B σ kind things L d Φ) : Term B σ1 kind things L d Φ :=
  fun B' σ' t a b c e K m => h B' σ' t a b c e (K.after s) m
section
variable {n : Nat} {σ : Sg} {Φ : V → Sg → Prop} {B : Bk} {kind : Int} {things : List Nat} {L : Nat}
theorem plus_t (H : BankAt σ B) (hl : Lin B.keys kind things L) (hz : B.nodes.length ≤ 300) (hk : kind = 1 ∨ kind = 2) {l : Addr} {t0 : Nat} {ts : List Nat} (hs : SeqOf σ l ((t0 :: ts).map fun (t : Nat) => V.int t)) (hlen : 1 ≤ ts.length ∧ ts.length ≤ 2)
    (hn : ∀ t ∈ t0 :: ts, NumT B kind t) (h : Term B σ kind things L 1 Φ) : CallOk (n + 3) 543 [.ref B.a, .ref l] σ Φ := by
  refine plus_ok H (by (first | lia | omega)) hs ⟨hlen.1, by (first | lia | omega)⟩ hk hn (Got.made H fun B' σ' t HB g K => ?_)
  have lk : LinKey B.keys kind L ⟨"+", (t0 :: ts).map fun (t : Nat) => (t : Int), kind, .inl 0⟩ := by
    refine ⟨⟨by simp; (first | lia | omega), fun a ha => ?_⟩, fun e => absurd e nePN, fun _ => ⟨rfl, fun a ha => ?_⟩, fun e => absurd e nePT, .inr (.inl rfl)⟩
    · obtain ⟨t, ht, rfl⟩ := List.mem_map.mp ha
      exact ⟨t, rfl, by rw [List.length_map]; exact (hn t ht).lt⟩
    · obtain ⟨t, ht, rfl⟩ := List.mem_map.mp ha
      obtain ⟨m, h1, h2⟩ := (hn t ht).key
      exact ⟨t, m, rfl, h1, h2⟩
  obtain ⟨m, hm, hmk⟩ := g.node
  exact h B' σ' t HB (hl.grow g lk) g.ext g.len K ⟨m, hm, by rw [hmk]⟩
theorem num_key_lin {r : Rat} (hz : Sz (12 ^ L) (4 ^ (L + 1)) r) (h1 : kind = 1 → r.den = 1) : LinKey B.keys kind L ⟨"num", [], kind, .inr (r.num, (r.den : Int))⟩ :=
  ⟨⟨Nat.zero_le _, fun a ha => nomatch ha⟩, fun _ => ⟨rfl, rfl, r, rfl, hz, h1⟩, fun e => absurd e neNP, fun e => absurd e neNT, .inl rfl⟩
theorem num_size {r : Rat} (hz : Sz (12 ^ L) (4 ^ (L + 1)) r) (hL : L ≤ 9) : r.num.natAbs < 2 ^ 62 ∧ (r.den : Int) < 2 ^ 62 := by
  obtain ⟨a, b⟩ := hz.bounds (Nat.pow_pos (by decide))
  have p1 : 12 ^ L ≤ 12 ^ 9 := Nat.pow_le_pow_right (by decide) hL
  have p2 : 4 ^ (L + 1) ≤ 4 ^ 10 := Nat.pow_le_pow_right (by decide) (by (first | lia | omega))
  have p3 : 4 ^ (L + 1) * 12 ^ L ≤ 4 ^ 10 * 12 ^ 9 := Nat.mul_le_mul p2 p1
  have e : 4 ^ 10 * 12 ^ 9 < 2 ^ 62 := by decide
  exact ⟨by (first | lia | omega), by (first | lia | omega)⟩
theorem num_t (H : BankAt σ B) (hl : Lin B.keys kind things L) (hL : L ≤ 9) (hz : B.nodes.length ≤ 300) (hk : kind = 1 ∨ kind = 2) {x : Addr} {r : Rat} (ex : σ x = some (frac r)) (hr : Sz (12 ^ L) (4 ^ (L + 1)) r) (h1 : kind = 1 → r.den = 1)
    (h : Term B σ kind things L 1 Φ) : CallOk (n + 2) 529 [.ref B.a, .ref x, .int kind] σ Φ := by
  obtain ⟨b1, b2⟩ := num_size hr hL
  refine num_ok H (by (first | lia | omega)) ex hk (fun e => by rw [h1 e]; rfl) b1 (by (first | lia | omega)) b2 (Got.made H fun B' σ' t HB g K => ?_)
  obtain ⟨m, hm, hmk⟩ := g.node
  exact h B' σ' t HB (hl.grow g (num_key_lin hr h1)) g.ext g.len K ⟨m, hm, by rw [hmk]⟩
theorem den_one_mul {a b : Rat} (ha : a.den = 1) (hb : b.den = 1) : (a * b).den = 1 := by rw [mul_mk, ha, hb]; exact (mk_one _).2
theorem timesnum_t (H : BankAt σ B) (hl : Lin B.keys kind things L) (hL : L ≤ 8) (hz : B.nodes.length ≤ 290) (hk : kind = 1 ∨ kind = 2) {x : Addr} {c : Rat} {t : Nat} (ex : σ x = some (frac c)) (hc : Sz 12 4 c) (hc1 : kind = 1 → c.den = 1) (ht : NumT B kind t)
    (h : Term B σ kind things (L + 1) 2 Φ) : CallOk (n + 4) 550 [.ref B.a, .ref x, .int t] σ Φ := by
  obtain ⟨m, hm, hms⟩ := ht
  have hkey : B.keys[t]? = some m.key := by rw [List.getElem?_map, hm]; rfl
  have sc : Small c := hc.small (by decide) (by decide +kernel) (by decide +kernel)
  have c62 : c.num.natAbs < 2 ^ 62 ∧ (c.den : Int) < 2 ^ 62 := by
    obtain ⟨a, b⟩ := hc.bounds (by decide)
    exact ⟨by (first | lia | omega), by (first | lia | omega)⟩
  refine timesnum_ok H (by (first | lia | omega)) ex hm hms hk (fun ho => ?_) (fun ho e1 e2 => ?_) (fun ho hne => ⟨fun e => by rw [hc1 e]; rfl, c62.1, by (first | lia | omega), c62.2, fun B1 σ1 ci HB1 g1 K1 => ?_⟩)
  · obtain ⟨_, _, r, hd, hr, hr1⟩ := hl.num t _ hkey ho
    have sr : Small r := small_of (i := L) (k := 4 ^ (L + 1)) (hr.mono (Nat.dvd_refl _) (Nat.le_mul_of_pos_right _ (Nat.pow_pos (by decide)))) (by (first | lia | omega)) (Nat.le_trans (Nat.pow_le_pow_right (by decide) (show L + 1 ≤ 11 by (first | lia | omega))) (by decide))
    refine ⟨_, _, hd, fun y hy => mulR ex hy sc sr fun q hq => ⟨q, rfl, ?_⟩⟩
    have s1 := Sub.upd (ob := frac (c * r)) hq
    have hcr : Sz (12 ^ (L + 1)) (4 ^ (L + 1 + 1)) (c * r) := by
      have := hc.mul hr
      rw [Nat.mul_comm 12, ← Nat.pow_succ, Nat.mul_comm 4, ← Nat.pow_succ] at this
      exact this
    exact num_t (H.sub s1) (hl.mono (Nat.le_succ L)) (by (first | lia | omega)) (by (first | lia | omega)) hk upd_same hcr (fun e => den_one_mul (hc1 e) (hr1 e)) fun B' σ' t a b c d K m => h B' σ' t a b c (by (first | lia | omega)) (K.after s1) m
  · exact h B σ t H (hl.mono (Nat.le_succ L)) .refl (by (first | lia | omega)) .refl ⟨m, hm, hms⟩
  · intro B2 σ2 t2 HB2 g2 K2
    have hcz : Sz (12 ^ (L + 1)) (4 ^ (L + 1 + 1)) c := hc.mono (by have := pow_dvd (show 1 ≤ L + 1 by (first | lia | omega)); simpa using this) (by have : 4 ^ 1 ≤ 4 ^ (L + 1 + 1) := Nat.pow_le_pow_right (by decide) (by (first | lia | omega)); simpa using this)
    have L1 := (hl.mono (Nat.le_succ L)).grow g1 (num_key_lin hcz hc1)
    obtain ⟨mc, hmc, hmck⟩ := g1.node
    have hmt := g1.ext.get hm
    have lk : LinKey B1.keys kind (L + 1) ⟨"*", [(ci : Int), (t : Int)], kind, .inl 0⟩ := by
      refine ⟨⟨by simp, fun a ha => ?_⟩, fun e => absurd e neTN, fun e => absurd e neTP, fun _ => ⟨rfl, ci, t, c, m.key, rfl, ?_, hc, ?_, hms⟩, .inr (.inr rfl)⟩
      · rcases List.mem_cons.mp ha with rfl | ha
        · exact ⟨ci, rfl, by rw [List.length_map]; exact (List.getElem?_eq_some_iff.mp hmc).1⟩
        · rcases List.mem_cons.mp ha with rfl | ha
          · exact ⟨t, rfl, by rw [List.length_map]; exact (List.getElem?_eq_some_iff.mp hmt).1⟩
          · cases ha
      · rw [List.getElem?_map, hmc, ← hmck]; rfl
      · rw [List.getElem?_map, hmt]; rfl
    obtain ⟨m2, hm2, hm2k⟩ := g2.node
    have l1 := g1.len
    have l2 := g2.len
    exact h B2 σ2 t2 HB2 (L1.grow g2 lk) (g1.ext.trans g2.ext) (by (first | lia | omega)) (K1.trans g1.ext K2) ⟨m2, hm2, by rw [hm2k]⟩
theorem negative_t (H : BankAt σ B) (hl : Lin B.keys kind things L) (hL : L ≤ 8) (hz : B.nodes.length ≤ 290) (hk : kind = 1 ∨ kind = 2) {t : Nat} (ht : NumT B kind t)
    (h : Term B σ kind things (L + 1) 2 Φ) : CallOk (n + 5) 571 [.ref B.a, .int t] σ Φ := by
  refine negative_ok H fun x σ0 s0 ex => ?_
  have e : frac (-1) = .tup [.int (-1), .int 1] := rfl
  exact timesnum_t (c := -1) (H.sub s0) hl hL hz hk (by rw [e]; exact ex) ⟨-12, by decide +kernel, by decide⟩ (fun _ => rfl) ht (h.sub s0)
theorem minus_t (H : BankAt σ B) (hl : Lin B.keys kind things L) (hL : L ≤ 8) (hz : B.nodes.length ≤ 290) (hk : kind = 1 ∨ kind = 2) {a b : Nat} (ha : NumT B kind a) (hb : NumT B kind b)
    (h : Term B σ kind things (L + 1) 3 Φ) : CallOk (n + 6) 578 [.ref B.a, .int a, .int b] σ Φ := by
  obtain ⟨ma, hma, hmas⟩ := ha
  obtain ⟨mb, hmb, hmbs⟩ := hb
  refine minus_ok H (by (first | lia | omega)) hma hmb hmas hmbs hk (negative_t H hl hL hz hk ⟨mb, hmb, hmbs⟩ fun B1 σ1 t HB1 L1 x1 l1 K1 m1 l hl' => ?_)
  have s1 := Sub.upd (ob := .list [.int a, .int t]) hl'
  have := plus_t (n := n + 2) (t0 := a) (ts := [t]) (Φ := Φ) (HB1.sub s1) L1 (by (first | lia | omega)) hk (.inl upd_same) (by simp) (fun u hu => by
    rcases List.mem_cons.mp hu with rfl | hu
    · exact ⟨ma, x1.get hma, hmas⟩
    · rw [List.mem_singleton] at hu; subst hu; exact m1) fun B2 σ2 t2 HB2 L2 x2 l2 K2 m2 => h B2 σ2 t2 HB2 L2 (x1.trans x2) (by (first | lia | omega)) (K1.trans x1 (K2.after s1)) m2
  rw [x1.a] at this
  exact this
end
end
section
/-! ## range, list items from behind, list + list, dict(dict) -/
section
variable {σ : Sg} {Φ : V → Sg → Prop}
theorem TSpec.range {i : Int} (h : ∀ a t u v, σ a = none → Φ (.ref a) (upd σ a (.raw (rangeObj i t u v)))) : TSpec "range" [.int i] σ Φ := by
  intro c n S ρ us ok _ hv fr h' tk R
  obtain ⟨u, rfl, t, rfl⟩ := hv.one
  refine call_range_1 (s := c.sh h' tk) ?_
  exact ⟨.ref h'.objs.size, _, _, _, rfl, R.alloc ok (o := rangeObj i _ _ _) (ob := .raw _) rfl rfl, rfl, h _ _ _ _ (R.fresh ok)⟩
theorem SrcSpec.range {a : Addr} {m : Nat} {t u v : Tok} (e : σ a = some (.raw (rangeObj m t u v))) (hm : (m : Int) < 2 ^ 62) : SrcSpec (.ref a) σ σ m (fun i v => v = .int i) (fun _ => True) := fun _ _ _ ok => Source.range ok e hm
theorem ISpec.listNeg {a : Addr} {vs : List V} {k : Int} {v : V} (e : σ a = some (.list vs)) (h0 : k < 0) (h1 : -(vs.length : Int) ≤ k) (h2 : -(2 ^ 63) ≤ k) (hv : vs[(k + vs.length).toNat]? = some v) : ISpec σ (.ref a) (.int k) v := by
  intro c n S ok ρ fr h tk uo ui R ho hi
  obtain rfl : uo = .ref a := ho
  obtain ⟨t, rfl⟩ := hi
  obtain ⟨o, hg, ⟨us, m, rfl, hvs⟩, _⟩ := R.obj ok e
  have hT : h.IsList a us.toArray := ⟨_, hg, rfl, m, rfl⟩
  obtain ⟨u, hu, iu⟩ := hvs.seq hv
  have e2 : (us.toArray.size : Int) = vs.length := by rw [List.size_toArray, hvs.length]
  exact ⟨"list", _, hT.typeIs, slot_list_getitem.lookup, wpAny_getItem_list_neg hT h0 (by rw [e2]; exact h1) h2 (by rw [e2]; exact hu) ⟨h, tk, rfl, R, iu⟩⟩
theorem OSpec.addL {a b : Addr} {vs ws : List V} (ea : σ a = some (.list vs)) (eb : σ b = some (.list ws)) (hz : vs.length + ws.length ≤ sizeLine) (h : ∀ r, σ r = none → Φ (.ref r) (upd σ r (.list (vs ++ ws)))) : OSpec .Add (.ref a) (.ref b) σ Φ := by
  intro c n S ρ ua ub ok ha hb fr h' tk R
  obtain rfl : ua = .ref a := ha
  obtain rfl : ub = .ref b := hb
  obtain ⟨o, hg, ⟨us, m, rfl, hvs⟩, _⟩ := R.obj ok ea
  obtain ⟨o2, hg2, ⟨xs, m2, rfl, hws⟩, _⟩ := R.obj ok eb
  have hl : h'.IsList a us.toArray := ⟨_, hg, rfl, m, rfl⟩
  have hl2 : h'.IsList b xs.toArray := ⟨_, hg2, rfl, m2, rfl⟩
  have R0 := R
  obtain ⟨mp, news, F, N, m', G, Dj⟩ := R
  have lt : ∀ p ∈ news ++ fr, p.1 ≠ h'.objs.size := fun p hp => Nat.ne_of_lt (Heap.lt_size (N p hp).1)
  refine add_arrays (s := c.sh h' tk) F N hl hl2 (fun h1 F1 N1 => ?_) (by rw [List.size_toArray, List.size_toArray, hvs.length, hws.length]; exact hz)
  obtain ⟨hno, R1⟩ := Rel.newLed (ρ := ρ) (ob := .list (vs ++ ws)) ok m' G Dj F1 N1 ⟨us ++ xs, 0, by simp [PySem.W.listOf], hvs.append hws⟩ lt
  exact ⟨.ref h'.objs.size, _, h1, tk, rfl, R1, rfl, h _ hno⟩
theorem TSpec.dictD {d : Addr} {kvs : List (Int × V)} (e : σ d = some (.idict kvs)) (hz : kvs.length ≤ sizeLine) (h : ∀ r, σ r = none → Φ (.ref r) (upd σ r (.idict kvs))) : TSpec "dict" [.ref d] σ Φ := by
  intro c n S ρ us ok _ hv fr h' tk R
  obtain ⟨u, rfl, i1⟩ := hv.one
  obtain rfl : u = .ref d := i1
  obtain ⟨ws, hd, hp, hs⟩ := R.idictX ok e
  refine kt_call_dict (s := c.sh h' tk) hs hd (by rw [hp.length]; exact hz) fun h1 hd1 hs1 => ?_
  obtain ⟨o', ho', hd'⟩ := Heap.dictOf_iff.mp hd1
  have R1 := newIdict ok R (ob := .idict []) (.inl rfl)
  have R2 := R1.change (ob' := .idict kvs) upd_same nk_idict hs1 ho' ⟨ws, hd', hp⟩
  have e2 : upd (upd σ h'.objs.size (.idict [])) h'.objs.size (.idict kvs) = upd σ h'.objs.size (.idict kvs) := by
    funext b; unfold upd; split <;> rfl
  rw [e2] at R2
  exact ⟨.ref h'.objs.size, _, h1, tk, rfl, R2, rfl, h _ (R.fresh ok)⟩
end
end
section
/-! ## dict, of a list of pairs -/
theorem no_keys : typeLookup (.type "list") "keys" = pure none := by rw [typeLookup_type, builtinLookup_eq_fast]; kernel_rfl
theorem ask_keys {prog : Program} {w : World} {A : Around} {E : Value → Shared → Prop} {s : Shared} {a : Addr} {xs : Array Value} {k : Nat} {Q : Option Value → Shared → Prop}
    (hx : s.heap.get? a = some { cls := .type "list", data := .seq xs k }) (hA : A.handled = none)
    (h : ∀ h' tk, (∀ b o, s.heap.get? b = some o → h'.get? b = some o) → Q none { s with heap := h', toks := tk }) : wpAny (model prog w) A (getAttr? (.ref a) "keys") Q E s := by
  obtain ⟨hp, g, d, tk, os⟩ := s
  have hT : ∀ tk', (⟨hp, g, d, tk', os⟩ : Shared).TypeIs (.ref a) "list" := fun _ => ⟨_, hx, rfl⟩
  have f1 := sub_AttributeError
  have f3 := F.slot_list_getattribute.lookup
  have f4 := F.slot_list_getattribute.bind (.ref a)
  have f5 := am_list_getattr_none
  unfold getAttr? getAttrBy? getAttrBy
  repeat (any_goals (first | assumption | exact hT _ | ((with_reducible show wpAny _ _ (call (Value.builtin "list.__getattribute__") _ _) _ _ _); refine call_meets F.slot_list_getattribute (hT _) am_entry_list_getattribute (F.args_list_getattribute_2 _ _) (meets_getattribute_miss_list a xs k #[] "keys" _ no_keys (by decide +kernel) (by decide +kernel)) ⟨hx, hA, fun h' tk' e hx' => ?_⟩) | wp_step))
  obtain ⟨t', u', he⟩ := hx'.there
  show wpAny _ _ (getattributeRaised _ _ _ _ _ _ _) _ _ _
  unfold getattributeRaised
  repeat (any_goals (first | assumption | wp_step))
  exact h _ _ hx'.keeps
theorem entry_upd_loop : entryFor table "dict.update.loop" = some Builtin.«dict.update.loop» := entryFor_of_tree (by kernel_rfl)
theorem plain_upd_loop : plainId "dict.update.loop" = true := by decide +kernel
section
variable {prog : Program} {w : World}
/-- the list's items are pairs -/
noncomputable def Its (h : Heap) (us : List Value) (kvs : List (Int × Value)) : Prop := us.length = kvs.length ∧ ∀ (j : Nat) (k : Int) (v : Value), kvs[j]? = some (k, v) → ∃ p t, us[j]? = some (.ref p) ∧ IsTup h p #[.int k t, v]
theorem stored_snoc {kvs : List (Int × Value)} (hn : (kvs.map (·.1)).Nodup) {i : Nat} {k : Int} {v : Value} (e : kvs[i]? = some (k, v)) : stored (kvs.take i) k v = kvs.take (i + 1) := by
  have et : kvs.take (i + 1) = kvs.take i ++ [(k, v)] := by rw [List.take_add_one, e]; rfl
  rw [et]
  unfold stored
  rw [if_neg]
  rw [List.any_eq_true]
  rintro ⟨x, hx, q⟩
  have q : x.1 = k := by simpa using q
  obtain ⟨j, hj⟩ := List.mem_iff_getElem?.mp hx
  have hlt : j < i := by
    have := (List.getElem?_eq_some_iff.mp hj).1
    rw [List.length_take] at this; (first | lia | omega)
  rw [List.getElem?_take_of_lt hlt] at hj
  have hil := (List.getElem?_eq_some_iff.mp e).1
  have hjl := (List.getElem?_eq_some_iff.mp hj).1
  have e1 : (kvs.map (·.1))[j]? = some k := by rw [List.getElem?_map, hj, ← q]; rfl
  have e2 : (kvs.map (·.1))[i]? = some k := by rw [List.getElem?_map, e]; rfl
  have := (List.nodup_iff_pairwise_ne.mp hn)
  rw [List.pairwise_iff_getElem] at this
  have := this j i (by rw [List.length_map]; exact hjl) (by rw [List.length_map]; exact hil) hlt
  rw [List.getElem?_eq_getElem (by rw [List.length_map]; exact hjl)] at e1
  rw [List.getElem?_eq_getElem (by rw [List.length_map]; exact hil)] at e2
  exact this ((Option.some.inj e1).trans (Option.some.inj e2).symm)
theorem upd_loop {A : Around} (hA : A.handled = none) {D I l : Addr} {us : List Value} {kvs : List (Int × Value)} (hn : (kvs.map (·.1)).Nodup) (hz : kvs.length ≤ 1000) (hID : I ≠ D) (hlI : l ≠ I) (hlD : l ≠ D) {R : Result → Shared → Prop} :
    ∀ (m i : Nat) (s : Shared), i + m = kvs.length → s.heap.DictOf (intKind prog w) D (kvs.take i) → s.heap.IsListIter I l i → s.heap.IsList l us.toArray → Its s.heap us kvs →
      (∀ h' tk, h'.DictOf (intKind prog w) D kvs → (∀ b o, b ≠ D → b ≠ I → s.heap.get? b = some o → h'.get? b = some o) → R (.ok (.ret .none)) { s with heap := h', toks := tk }) →
      codeAny (model prog w) A (.builtin "dict.update.loop" ⟨[.ref D, .ref I, rawInt i, .none], []⟩) R s := by
  have big : 1000 ≤ sizeLine := Nat.le_of_ble_eq_true rfl
  intro m
  induction m with
  | zero =>
    intro i s hi hd hit hl hI hR
    have hi : i = kvs.length := by (first | lia | omega)
    subst hi
    refine codeAny_builtin entry_upd_loop ?_
    rw [Around.under_plainId plain_upd_loop _]
    unfold Builtin.«dict.update.loop»
    dsimp only [rawInt]
    refine wpAny_bind (wpAny_pyNext_list_end (A := A.in1) hA hit hl (by rw [← hI.1]; simp) fun h' he => ?_)
    dsimp only
    refine wpAny_bind (wpAny_pure ?_)
    rw [List.take_length] at hd
    refine wpAny_pure (hR h' s.toks ?_ fun b o _ hb e => he b o hb e)
    obtain ⟨o, ho, r⟩ := Heap.dictOf_iff.mp hd
    exact Heap.dictOf_iff.mpr ⟨o, he D o (Ne.symm hID) ho, r⟩
  | succ m ih =>
    intro i s hi hd hit hl hI hR
    obtain ⟨k, v, hkv⟩ : ∃ k v, kvs[i]? = some (k, v) := ⟨_, _, List.getElem?_eq_getElem (by (first | lia | omega))⟩
    obtain ⟨p, t, hu, hp⟩ := hI.2 i k v hkv
    refine codeAny_builtin entry_upd_loop ?_
    rw [Around.under_plainId plain_upd_loop _]
    unfold Builtin.«dict.update.loop»
    dsimp only [rawInt]
    refine wpAny_bind (wpAny_pyNext_list_item (A := A.in1) hit hl (x := .ref p) (by simpa using hu) fun h1 hit1 hs1 => ?_)
    dsimp only
    have tneD : ∀ {p : Addr} {xs : Array Value}, IsTup s.heap p xs → p ≠ D := fun x q => by
      obtain ⟨o, ho, hc, _⟩ := x
      obtain ⟨o2, ho2, es, ep, hx, _⟩ := Heap.dictOf_iff.mp hd
      rw [q, ho2] at ho
      cases ho
      rw [hx.1] at hc
      exact absurd hc (by decide +kernel)
    have tneI : ∀ {p : Addr} {xs : Array Value}, IsTup s.heap p xs → p ≠ I := fun x q => by
      obtain ⟨o, ho, hc, _⟩ := x
      obtain ⟨o2, ho2, hc2, _⟩ := hit
      rw [q, ho2] at ho
      cases ho
      rw [hc2] at hc
      exact absurd hc (by decide +kernel)
    have hp1 : IsTup h1 p #[.int k t, v] := by
      obtain ⟨o, ho, r⟩ := hp
      exact ⟨o, (hs1.2 p (tneI ⟨o, ho, r⟩)).trans ho, r⟩
    obtain ⟨op, hop, hcp, np, hdp⟩ := id hp1
    refine wpAny_bind (wpAny_holding (wpAny_bind (wpAny_tryCatch ?_)))
    unfold Builtin.Dict.pairItems
    refine wpAny_bind (wpAny_typeOf (s := { s with heap := h1 }) hp1.typeIs ?_)
    rw [if_pos (by decide)]
    refine wpAny_bind (wpAny_seqItems (s := { s with heap := h1 }) hop hdp ?_)
    refine wpAny_pure ?_
    dsimp only [Option.getD_some, Array.toList]
    have hd1 : h1.DictOf (intKind prog w) D (kvs.take i) := by
      obtain ⟨o, ho, r⟩ := Heap.dictOf_iff.mp hd
      exact Heap.dictOf_iff.mpr ⟨o, (hs1.2 D (Ne.symm hID)).trans ho, r⟩
    refine wpAny_holding (wpAny_dictSet_pairs (s := { s with heap := h1 }) (intKind_is prog w k t) hd1 (fun h2 hd2 hs2 => ?_) (by rw [List.length_take]; (first | lia | omega)))
    rw [stored_snoc hn hkv] at hd2
    have keep : ∀ b o, b ≠ D → b ≠ I → s.heap.get? b = some o → h2.get? b = some o := fun b o hb hb2 e => (hs2.2 b hb).trans ((hs1.2 b hb2).trans e)
    refine wpAny_pure ⟨plainId_quiet plain_upd_loop _, ?_⟩
    refine ih (i + 1) { s with heap := h2, toks := s.toks + 1 } (by (first | lia | omega)) hd2 ?_ ?_ ?_ fun h' tk hd' hk' => hR h' tk hd' fun b o hb hb2 e => hk' b o hb hb2 (keep b o hb hb2 e)
    · exact hit1.at fun o e => (hs2.2 I hID).trans e
    · exact hl.at fun o e => keep l o hlD hlI e
    · refine ⟨hI.1, fun j k v e => ?_⟩
      obtain ⟨p, t, hu, hp⟩ := hI.2 j k v e
      refine ⟨p, t, hu, ?_⟩
      obtain ⟨o, ho, r⟩ := hp
      exact ⟨o, keep p o (tneD ⟨o, ho, r⟩) (tneI ⟨o, ho, r⟩) ho, r⟩
theorem call_dictL {A : Around} {E : Value → Shared → Prop} {s : Shared} {l : Addr} {us : List Value} {m : Nat} {kvs : List (Int × Value)} {Q : Value → Shared → Prop} (hA : A.handled = none) (hl : s.heap.get? l = some { cls := .type "list", data := .seq us.toArray m })
    (hn : (kvs.map (·.1)).Nodup) (hz : kvs.length ≤ 1000) (hI : Its s.heap us kvs)
    (h : ∀ h' tk D, s.heap.objs.size ≤ D → h'.DictOf (intKind prog w) D kvs → (∀ b o, s.heap.get? b = some o → h'.get? b = some o) → Q (.ref D) { s with heap := h', toks := tk }) :
    wpAny (model prog w) A (call (.type "dict") [.ref l]) Q E s := by
  refine callType_codes (Q₁ := fun obj s₁ => obj = .ref s.heap.objs.size ∧ s₁ = { s with heap := s.heap.push { cls := .type "dict", data := .dict #[] } }) F.kt_called_dict (F.kt_typeCall_dict_1 _) F.entry_dict_init (kt_code_dict_new _ ⟨rfl, rfl⟩) ?_
  rintro obj s₁ ⟨rfl, rfl⟩
  have hnew : (s.heap.push { cls := .type "dict", data := .dict #[] }).DictOf (intKind prog w) s.heap.objs.size [] := Heap.DictOf.new s.heap
  have hl' : (s.heap.push { cls := .type "dict", data := .dict #[] }).get? l = some { cls := .type "list", data := .seq us.toArray m } := Heap.get?_push_of_some _ hl
  refine ⟨hnew.typeIs, F.args_dict_init_2 _ _, ?_⟩
  unfold Builtin.«dict.__init__»
  refine wpAny_bind ?_
  unfold Builtin.Dict.selfAndRest
  refine wpAny_bind (wpAny_notOrdered_dict hnew.typeIs ?_)
  show wpAny _ _ (pure (s.heap.objs.size, [Value.ref l])) _ _ _
  refine wpAny_pure ?_
  show wpAny _ _ (Builtin.Dict.updateFrom "dict.__init__" s.heap.objs.size (.ref l) [] .none) _ _ _
  unfold Builtin.Dict.updateFrom
  refine wpAny_bind (wpAny_typeOf ⟨_, hl', rfl⟩ ?_)
  rw [if_pos (by decide)]
  refine wpAny_bind (ask_keys (s := { s with heap := s.heap.push { cls := .type "dict", data := .dict #[] } }) hl' hA fun h1 tk1 hk1 => ?_)
  simp only [Option.isNone_none, if_true]
  refine wpAny_bind (wpAny_rule ?_)
  have hl1 : h1.IsList l us.toArray := ⟨_, hk1 _ _ hl', rfl, _, rfl⟩
  refine wpAny_bind (wpAny_pyIter_list (s := { s with heap := h1, toks := tk1 }) hl1 ?_)
  have hDlt : s.heap.objs.size < h1.objs.size := by
    obtain ⟨o, ho, _⟩ := Heap.dictOf_iff.mp hnew
    exact Heap.lt_size (hk1 _ _ ho)
  have hllt : l < s.heap.objs.size := Heap.lt_size hl
  have up : ∀ b o, h1.get? b = some o → (h1.push { cls := .type "list_iterator", data := .fields #[.ref l, .int 0 0] }).get? b = some o := fun b o e => Heap.get?_push_of_some _ e
  have old : ∀ b o, s.heap.get? b = some o → (h1.push { cls := .type "list_iterator", data := .fields #[.ref l, .int 0 0] }).get? b = some o := fun b o e => up b o (hk1 b o (Heap.get?_push_of_some _ e))
  refine wpAny_pure ⟨plainId_quiet plain_upd_loop _, ?_⟩
  refine upd_loop (A := A.in1) hA hn hz (I := h1.objs.size) (D := s.heap.objs.size) (l := l) (us := us) (Nat.ne_of_gt hDlt) (Nat.ne_of_lt (Nat.lt_trans hllt hDlt)) (Nat.ne_of_lt hllt) kvs.length 0 _ (by (first | lia | omega)) ?_ ⟨_, Heap.get?_push_size _ rfl, rfl, rfl⟩ ?_ ?_ fun h' tk hd' hk' => ?_
  · rw [List.take_zero]
    obtain ⟨o, ho, r⟩ := Heap.dictOf_iff.mp hnew
    exact Heap.dictOf_iff.mpr ⟨o, up _ _ (hk1 _ _ ho), r⟩
  · exact ⟨_, up _ _ (hk1 _ _ hl'), rfl, _, rfl⟩
  · refine ⟨hI.1, fun j k v e => ?_⟩
    obtain ⟨p, t, hu, o, ho, r⟩ := hI.2 j k v e
    exact ⟨p, t, hu, o, old _ _ ho, r⟩
  · exact ⟨rfl, h h' tk _ (Nat.le_refl _) hd' fun b o e => hk' b o (Nat.ne_of_lt (Heap.lt_size e)) (Nat.ne_of_lt (Nat.lt_trans (Heap.lt_size e) hDlt)) (old b o e)⟩
end
end
section
/-- the list's items are pairs with these keys and values -/
noncomputable def PairsIn (σ : Sg) (vs : List V) (kvs : List (Int × V)) : Prop := vs.length = kvs.length ∧ ∀ (j : Nat) (k : Int) (v : V), kvs[j]? = some (k, v) → ∃ p, vs[j]? = some (.ref p) ∧ σ p = some (.tup [.int k, v])
section
variable {σ : Sg} {Φ : V → Sg → Prop}
theorem PairsIn.its {c : Cx} {n : Nat} {ρ : Rho} {fr : Led} {h : Heap} (ok : c.Ok n) (R : Rel c ρ σ fr h) : ∀ {vs : List V} {kvs : List (Int × V)} {us : List Value}, PairsIn σ vs kvs → VIs vs us → ∃ ws, PIs kvs ws ∧ Its h us ws := by
  intro vs kvs
  induction kvs generalizing vs with
  | nil =>
    intro us hp hv
    have : vs = [] := List.length_eq_zero_iff.mp hp.1
    subst this
    cases hv
    exact ⟨[], .nil, rfl, fun j k v e => by simp at e⟩
  | cons x kvs ih =>
    intro us hp hv
    obtain ⟨k, v⟩ := x
    obtain ⟨p, h0, hpt⟩ := hp.2 0 k v rfl
    cases hv with
    | nil => simp at h0
    | @cons v0 u0 vs us i0 hv =>
      have h0 : v0 = .ref p := by simpa using h0
      subst h0
      obtain rfl : u0 = .ref p := i0
      obtain ⟨ws, h1, h2⟩ := ih (vs := vs) (us := us) ⟨by have := hp.1; simpa using this, fun j k v e => by obtain ⟨p, a, b⟩ := hp.2 (j + 1) k v (by simpa using e); exact ⟨p, by simpa using a, b⟩⟩ hv
      obtain ⟨o, hg, ⟨xs, m, rfl, hxs⟩, _⟩ := R.obj ok hpt
      obtain ⟨a, b, rfl, ⟨t, rfl⟩, iv⟩ := hxs.two
      refine ⟨(k, b) :: ws, .cons iv h1, by rw [List.length_cons, List.length_cons, h2.1], fun j k' v' e => ?_⟩
      cases j with
      | zero =>
        have e : (k, b) = (k', v') := by simpa using e
        cases e
        exact ⟨p, t, rfl, _, hg, rfl, m, rfl⟩
      | succ j =>
        obtain ⟨p, t, a1, a2⟩ := h2.2 j k' v' (by simpa using e)
        exact ⟨p, t, by simpa using a1, a2⟩
theorem PIs.keys {kvs : List (Int × V)} {us : List (Int × Value)} (h : PIs kvs us) : us.map (·.1) = kvs.map (·.1) := by
  induction h with
  | nil => rfl
  | cons _ _ ih => rw [List.map_cons, List.map_cons, ih]
theorem TSpec.dictL {l : Addr} {vs : List V} {kvs : List (Int × V)} (e : σ l = some (.list vs)) (hp : PairsIn σ vs kvs) (hn : (kvs.map (·.1)).Nodup) (hz : kvs.length ≤ 1000) (h : ∀ r, σ r = none → Φ (.ref r) (upd σ r (.idict kvs))) : TSpec "dict" [.ref l] σ Φ := by
  intro c n S ρ us ok _ hv fr h' tk R
  obtain ⟨u, rfl, i1⟩ := hv.one
  obtain rfl : u = .ref l := i1
  obtain ⟨o, hg, ⟨us, m, rfl, hvs⟩, _⟩ := R.obj ok e
  obtain ⟨ws, hw, hI⟩ := hp.its ok R hvs
  obtain ⟨mp, news, F, N, m', G, Dj⟩ := R
  refine call_dictL (s := c.sh h' tk) rfl hg (by rw [hw.keys]; exact hn) (by rw [hw.length]; exact hz) hI fun h1 tk1 D hD hd hk => ?_
  obtain ⟨o', ho', hd'⟩ := Heap.dictOf_iff.mp hd
  have h0 : c.h₀.get? D = none := by
    cases e : c.h₀.get? D with
    | none => rfl
    | some o => exact absurd (Heap.lt_size (F.keep D o e)) (Nat.not_lt.mpr hD)
  have hDL : D ≠ c.L := fun q => absurd F.ns.lt (by rw [← q]; exact Nat.not_lt.mpr hD)
  obtain ⟨hno, R1⟩ := Rel.newLed (ρ := ρ) (D := D) (o := o') (ob := .idict kvs) ok m' G Dj (F.keeps hk) (fun p hp => by
    rcases List.mem_cons.mp hp with rfl | hp
    · exact ⟨ho', hDL, h0⟩
    · exact ⟨hk _ _ (N p hp).1, (N p hp).2⟩) ⟨ws, hd', hw⟩ fun p hp => Nat.ne_of_lt (Nat.lt_of_lt_of_le (Heap.lt_size (N p hp).1) hD)
  exact ⟨.ref D, _, h1, tk1, rfl, R1, rfl, h D hno⟩
end
end
section
/-! ## zip, of two tuples with one item each -/
section
variable {prog : Program} {w : World} {A : Around} {E : Value → Shared → Prop} {s : Shared}
theorem IsTupleIter.at' {h h' : Heap} {a t : Addr} {i : Nat} (x : h.IsTupleIter a t i) (e : ∀ o, h.get? a = some o → h'.get? a = some o) : h'.IsTupleIter a t i := let ⟨o, ho, r⟩ := x; ⟨o, e o ho, r⟩
theorem nextOf_tup_item {it l : Addr} {i : Nat} {items : Array Value} {x : Value} {Q : Value → Shared → Prop} (hit : s.heap.IsTupleIter it l i)
    (hl : s.heap.IsTuple l items) (hx : items[i]? = some x)
    (hQ : ∀ h', h'.IsTupleIter it l (i + 1) → Heap.SameBut it s.heap h' → Q x { s with heap := h' }) :
    wpAny (model prog w) A (Builtin.SmallTypes.nextOf (.ref it)) Q E s := by
  obtain ⟨o, ho, hc, hd⟩ := id hit
  obtain ⟨ol, hol, _, nl, hdl⟩ := hl
  unfold Builtin.SmallTypes.nextOf
  refine wpAny_bind (wpAny_callSpecial?_slot (name := Str.ofString "__next__") hit.typeIs F.slot_tuple_iterator_next
    (wpAny_call_entry F.slot_tuple_iterator_next hit.typeIs F.entry_tuple_iterator_next ?_ (F.args_tuple_iterator_next_1 _)))
  show wpAny _ _ (field (.ref it) 0 >>= _) _ _ s
  refine wpAny_bind (wpAny_field ho hd (x := .ref l) rfl ?_)
  show wpAny _ _ (if (Value.ref l == Value.none) = true then _ else _) _ _ s
  rw [if_neg (show ¬ ((Value.ref l == Value.none) = true) from Bool.false_ne_true)]
  show wpAny _ _ (field (.ref it) 1 >>= _) _ _ s
  refine wpAny_bind (wpAny_field ho hd (x := .int i 0) rfl ?_)
  show wpAny _ _ (seqItems? (.ref l) >>= _) _ _ s
  refine wpAny_bind (wpAny_seqItems hol hdl ?_)
  simp only [Int.toNat_natCast, hx]
  refine wpAny_bind (wpAny_setField ho hd (by simp) (wpAny_pure ⟨x, rfl, wpAny_pure (hQ _ ?_ (Heap.SameBut.update ..))⟩))
  exact ⟨_, Heap.get?_update_self _ ho (Obj.isFreed_of_fields (Obj.data_mapFields hd _)), (Obj.cls_mapFields ..).trans hc, by
    rw [Obj.data_mapFields hd]; simp [rawInt]⟩
theorem nextOf_tup_end {it l : Addr} {i : Nat} {items : Array Value} {Q : Value → Shared → Prop} (hh : A.handled = none)
    (hit : s.heap.IsTupleIter it l i) (hl : s.heap.IsTuple l items) (hx : items[i]? = none)
    (hE : ∀ h' e, Heap.ExtBut it s.heap h' → (∃ o, h'.get? e = some o ∧ o.cls = .type "StopIteration") → E (.ref e) { s with heap := h' }) :
    wpAny (model prog w) A (Builtin.SmallTypes.nextOf (.ref it)) Q E s := by
  obtain ⟨o, ho, hc, hd⟩ := id hit
  obtain ⟨ol, hol, _, nl, hdl⟩ := hl
  unfold Builtin.SmallTypes.nextOf
  refine wpAny_bind (wpAny_callSpecial?_slot (name := Str.ofString "__next__") hit.typeIs F.slot_tuple_iterator_next
    (wpAny_call_entry F.slot_tuple_iterator_next hit.typeIs F.entry_tuple_iterator_next ?_ (F.args_tuple_iterator_next_1 _)))
  show wpAny _ _ (field (.ref it) 0 >>= _) _ _ s
  refine wpAny_bind (wpAny_field ho hd (x := .ref l) rfl ?_)
  show wpAny _ _ (if (Value.ref l == Value.none) = true then _ else _) _ _ s
  rw [if_neg (show ¬ ((Value.ref l == Value.none) = true) from Bool.false_ne_true)]
  show wpAny _ _ (field (.ref it) 1 >>= _) _ _ s
  refine wpAny_bind (wpAny_field ho hd (x := .int i 0) rfl ?_)
  show wpAny _ _ (seqItems? (.ref l) >>= _) _ _ s
  refine wpAny_bind (wpAny_seqItems hol hdl ?_)
  simp only [Int.toNat_natCast, hx]
  refine wpAny_bind (wpAny_rule (wpAny_bind (wpAny_setField ho hd (by simp) ?_)))
  show wpAny _ _ (newExc (.type "StopIteration") [] >>= _) _ _ _
  refine wpAny_bind ?_
  simp only [newExc, newTuple]
  refine wpAny_bind (wpAny_newObj_type ?_ (by size_fits))
  refine wpAny_bind (m := firstArgMember _ _) (wpAny_of_eq (a := Value.none) (by first | rfl | (simp only [firstArgMember]; rfl)) ?_)
  refine wpAny_newObj_type ?_ (by size_fits)
  simp only [raiseNew]
  refine wpAny_bind (wpAny_handled ?_)
  first | rw [show A.in1.handled = none from hh] | rw [hh]
  refine wpAny_bind (wpAny_pure (wpAny_throw ?_))
  exact hE _ _ (((Heap.SameBut.update ..).extBut.push _).push _) ⟨_, Heap.get?_push_size _ rfl, rfl⟩
/-- the zip object's addresses, all apart -/
structure ZA (z TI TO i1 i2 l1 l2 : Addr) : Prop extends ZipApart z TI TO i1 i2 l1 l2
theorem zipT_item {z TI TO i1 i2 l1 l2 : Addr} {k1 k2 : Nat} {xs ys : Array Value} {x y a b : Value} {Q : Value → Shared → Prop} (D : ZipApart z TI TO i1 i2 l1 l2)
    (hz : IsZip s.heap z TI TO .none) (hTI : IsPair s.heap TI (.ref i1) (.ref i2)) (hTO : IsPair s.heap TO a b)
    (h1 : s.heap.IsTupleIter i1 l1 k1) (h2 : s.heap.IsTupleIter i2 l2 k2) (hl1 : s.heap.IsTuple l1 xs) (hl2 : s.heap.IsTuple l2 ys) (hx : xs[k1]? = some x) (hy : ys[k2]? = some y)
    (hQ : ∀ h', IsZip h' z TI TO (rawInt s.heap.objs.size) → IsPair h' TO x y → h'.IsTupleIter i1 l1 (k1 + 1) → h'.IsTupleIter i2 l2 (k2 + 1) → IsPair h' s.heap.objs.size x y →
      (∀ c o, c ≠ z → c ≠ TO → c ≠ i1 → c ≠ i2 → s.heap.get? c = some o → h'.get? c = some o) → Q (.ref s.heap.objs.size) { s with heap := h' }) :
    wpAny (model prog w) A (Builtin.«zip.__next__» ⟨[.ref z], []⟩) (fun fin s' => ∃ v, fin = .done (.ret v) ∧ Q v s') E s := by
  show wpAny _ _ (field (.ref z) 2 >>= _) _ _ _
  refine wpAny_bind (wpAny_field hz rfl (x := .bool false) rfl ?_)
  show wpAny _ _ (field (.ref z) 3 >>= _) _ _ _
  refine wpAny_bind (wpAny_field hz rfl (x := .ref TI) rfl ?_)
  refine wpAny_bind (wpAny_seqItems hTI rfl ?_)
  show wpAny _ _ (Builtin.SmallTypes.ownedTupleIsFree (.ref z) >>= _) _ _ _
  refine wpAny_bind ?_
  unfold Builtin.SmallTypes.ownedTupleIsFree
  refine wpAny_bind (wpAny_field hz rfl (x := .none) rfl (wpAny_pure ?_))
  simp only [if_true]
  refine wpAny_bind (wpAny_rule ?_)
  refine wpAny_bind (wpAny_field hz rfl (x := .ref TO) rfl ?_)
  refine wpAny_bind (wpAny_setField_rec hz (by simp) fun h₁ hz₁ hs₁ => ?_)
  replace hz₁ : IsZip h₁ z TI TO .ellipsis := hz₁
  refine wpAny_bind ?_
  simp only [List.zipIdx_cons, List.zipIdx_nil, List.forIn_cons, List.forIn_nil]
  refine wpAny_bind (wpAny_bind (wpAny_onRaise ?_))
  show wpAny _ _ (Builtin.SmallTypes.nextOf (.ref i1) >>= _) _ _ _
  refine wpAny_bind (nextOf_tup_item (h1.extBut hs₁.extBut D.i1z) (hl1.extBut hs₁.extBut D.l1z) hx fun h₂ h1₂ hs₂ => wpAny_pure ?_)
  have hTO₂ : IsPair h₂ TO a b := hs₂.extBut _ _ D.TOi1 (hs₁.extBut _ _ D.TOz hTO)
  refine wpAny_bind (wpAny_seqItems hTO₂ rfl ?_)
  refine wpAny_bind (wpAny_updateSeq_pair hTO₂ fun h₃ hTO₃ hs₃ => ?_)
  replace hTO₃ : IsPair h₃ TO x b := hTO₃
  refine wpAny_bind (wpAny_letGo (wpAny_pure ?_))
  refine wpAny_bind (wpAny_bind (wpAny_onRaise ?_))
  show wpAny _ _ (Builtin.SmallTypes.nextOf (.ref i2) >>= _) _ _ _
  refine wpAny_bind (nextOf_tup_item (((h2.extBut hs₁.extBut D.i2z).extBut hs₂.extBut D.i12.symm).extBut hs₃.extBut D.TOi2.symm)
    (((hl2.extBut hs₁.extBut D.l2z).extBut hs₂.extBut D.l2i1).extBut hs₃.extBut D.l2TO) hy fun h₄ h2₄ hs₄ => wpAny_pure ?_)
  have hTO₄ : IsPair h₄ TO x b := hs₄.extBut _ _ D.TOi2 hTO₃
  refine wpAny_bind (wpAny_seqItems hTO₄ rfl ?_)
  refine wpAny_bind (wpAny_updateSeq_pair hTO₄ fun h₅ hTO₅ hs₅ => ?_)
  replace hTO₅ : IsPair h₅ TO x y := hTO₅
  refine wpAny_bind (wpAny_letGo (wpAny_pure (wpAny_pure ?_)))
  refine wpAny_bind (wpAny_seqItems hTO₅ rfl ?_)
  refine wpAny_bind (wpAny_newTuple ?_)
  have hsz : h₅.objs.size = s.heap.objs.size := by rw [hs₅.1, hs₄.1, hs₃.1, hs₂.1, hs₁.1]
  have hz₅ : IsZip h₅ z TI TO .ellipsis := hs₅.extBut _ _ D.TOz.symm (hs₄.extBut _ _ D.i2z.symm (hs₃.extBut _ _ D.TOz.symm (hs₂.extBut _ _ D.i1z.symm hz₁)))
  have hk₅ : ∀ c o, c ≠ z → c ≠ TO → c ≠ i1 → c ≠ i2 → s.heap.get? c = some o → h₅.get? c = some o := fun c o c1 c2 c3 c4 e =>
    hs₅.extBut _ _ c2 (hs₄.extBut _ _ c4 (hs₃.extBut _ _ c2 (hs₂.extBut _ _ c3 (hs₁.extBut _ _ c1 e))))
  have h1₅ : h₅.IsTupleIter i1 l1 (k1 + 1) := ((h1₂.extBut hs₃.extBut D.TOi1.symm).extBut hs₄.extBut D.i12).extBut hs₅.extBut D.TOi1.symm
  have h2₅ : h₅.IsTupleIter i2 l2 (k2 + 1) := h2₄.extBut hs₅.extBut D.TOi2.symm
  have hzlt : z < h₅.objs.size := Heap.lt_size hz₅
  show wpAny _ _ (Builtin.SmallTypes.ownedTupleHandOut (.ref z) (.ref h₅.objs.size) >>= _) _ _ _
  refine wpAny_bind ?_
  unfold Builtin.SmallTypes.ownedTupleHandOut
  have hz₆ : IsZip (h₅.push { cls := .type "tuple", data := .seq #[x, y] }) z TI TO .ellipsis := Heap.get?_push_of_some _ hz₅
  refine wpAny_bind (wpAny_setField_rec hz₆ (by simp) fun h₇ hz₇ hs₇ => ?_)
  replace hz₇ : IsZip h₇ z TI TO (rawInt h₅.objs.size) := hz₇
  refine wpAny_setField_rec hz₇ (by simp) fun h₈ hz₈ hs₈ => ?_
  replace hz₈ : IsZip h₈ z TI TO (rawInt h₅.objs.size) := hz₈
  have up : ∀ c o, c ≠ z → h₅.get? c = some o → h₈.get? c = some o := fun c o c1 e => hs₈.extBut _ _ c1 (hs₇.extBut _ _ c1 (Heap.get?_push_of_some _ e))
  have hT₈ : IsPair h₈ h₅.objs.size x y := hs₈.extBut _ _ (Nat.ne_of_gt hzlt) (hs₇.extBut _ _ (Nat.ne_of_gt hzlt) (Heap.get?_push_size _ rfl))
  rw [hsz] at hz₈ hT₈
  refine wpAny_pure ⟨_, rfl, ?_⟩
  show Q (.ref h₅.objs.size) _
  rw [hsz]
  exact hQ h₈ hz₈ (up _ _ D.TOz hTO₅) (IsTupleIter.at' h1₅ fun o e => up _ o D.i1z e) (IsTupleIter.at' h2₅ fun o e => up _ o D.i2z e) hT₈ fun c o c1 c2 c3 c4 e => up c o c1 (hk₅ c o c1 c2 c3 c4 e)
theorem zipT_end {z TI TO i1 i2 l1 l2 : Addr} {k1 : Nat} {xs : Array Value} {a b : Value} {Q : Fin → Shared → Prop} (hh : A.handled = none) (D : ZipApart z TI TO i1 i2 l1 l2)
    (hz : IsZip s.heap z TI TO .none) (hTI : IsPair s.heap TI (.ref i1) (.ref i2)) (hTO : IsPair s.heap TO a b)
    (h1 : s.heap.IsTupleIter i1 l1 k1) (hl1 : s.heap.IsTuple l1 xs) (hx : xs[k1]? = none)
    (hE : ∀ h' e, (∀ c o, c ≠ z → c ≠ TO → c ≠ i1 → c ≠ i2 → s.heap.get? c = some o → h'.get? c = some o) → (∃ o, h'.get? e = some o ∧ o.cls = .type "StopIteration") → E (.ref e) { s with heap := h' }) :
    wpAny (model prog w) A (Builtin.«zip.__next__» ⟨[.ref z], []⟩) Q E s := by
  show wpAny _ _ (field (.ref z) 2 >>= _) _ _ _
  refine wpAny_bind (wpAny_field hz rfl (x := .bool false) rfl ?_)
  show wpAny _ _ (field (.ref z) 3 >>= _) _ _ _
  refine wpAny_bind (wpAny_field hz rfl (x := .ref TI) rfl ?_)
  refine wpAny_bind (wpAny_seqItems hTI rfl ?_)
  show wpAny _ _ (Builtin.SmallTypes.ownedTupleIsFree (.ref z) >>= _) _ _ _
  refine wpAny_bind ?_
  unfold Builtin.SmallTypes.ownedTupleIsFree
  refine wpAny_bind (wpAny_field hz rfl (x := .none) rfl (wpAny_pure ?_))
  simp only [if_true]
  refine wpAny_bind (wpAny_rule ?_)
  refine wpAny_bind (wpAny_field hz rfl (x := .ref TO) rfl ?_)
  refine wpAny_bind (wpAny_setField_rec hz (by simp) fun h₁ hz₁ hs₁ => ?_)
  replace hz₁ : IsZip h₁ z TI TO .ellipsis := hz₁
  refine wpAny_bind ?_
  simp only [List.zipIdx_cons, List.zipIdx_nil, List.forIn_cons, List.forIn_nil]
  refine wpAny_bind (wpAny_bind (wpAny_onRaise ?_))
  show wpAny _ _ (Builtin.SmallTypes.nextOf (.ref i1) >>= _) _ _ _
  refine wpAny_bind (nextOf_tup_end hh (h1.extBut hs₁.extBut D.i1z) (hl1.extBut hs₁.extBut D.l1z) hx fun h₂ e hs₂ he => ?_)
  obtain ⟨oe, hoe, hce⟩ := he
  have hz₂ : IsZip h₂ z TI TO .ellipsis := hs₂ _ _ D.i1z.symm hz₁
  have hez : e ≠ z := fun x => by subst x; rw [hz₂] at hoe; cases hoe; simp at hce
  refine wpAny_setField_rec hz₂ (by simp) fun h₃ _ hs₃ => hE h₃ e (fun c o c1 _ c3 _ x => hs₃.extBut _ _ c1 (hs₂ _ _ c3 (hs₁.extBut _ _ c1 x))) ⟨oe, hs₃.extBut _ _ hez hoe, hce⟩
theorem pyNext_zipT_item {z TI TO i1 i2 l1 l2 : Addr} {k1 k2 : Nat} {xs ys : Array Value} {x y a b : Value} {Q : Option Value → Shared → Prop} (D : ZipApart z TI TO i1 i2 l1 l2)
    (hz : IsZip s.heap z TI TO .none) (hTI : IsPair s.heap TI (.ref i1) (.ref i2)) (hTO : IsPair s.heap TO a b)
    (h1 : s.heap.IsTupleIter i1 l1 k1) (h2 : s.heap.IsTupleIter i2 l2 k2) (hl1 : s.heap.IsTuple l1 xs) (hl2 : s.heap.IsTuple l2 ys) (hx : xs[k1]? = some x) (hy : ys[k2]? = some y)
    (hQ : ∀ h', IsZip h' z TI TO (rawInt s.heap.objs.size) → IsPair h' TO x y → h'.IsTupleIter i1 l1 (k1 + 1) → h'.IsTupleIter i2 l2 (k2 + 1) → IsPair h' s.heap.objs.size x y →
      (∀ c o, c ≠ z → c ≠ TO → c ≠ i1 → c ≠ i2 → s.heap.get? c = some o → h'.get? c = some o) → Q (some (.ref s.heap.objs.size)) { s with heap := h' }) :
    wpAny (model prog w) A (pyNext (.ref z)) Q E s := by
  have hT : s.TypeIs (.ref z) "zip" := ⟨_, hz, rfl⟩
  unfold pyNext
  exact wpAny_bind (wpAny_attempt (wpAny_callSpecial?_slot (name := Str.ofString "__next__") hT F.slot_zip_next
    (wpAny_call_entry F.slot_zip_next hT F.entry_zip_next
      (zipT_item D hz hTI hTO h1 h2 hl1 hl2 hx hy fun h' a1 a2 a3 a4 a5 a6 => wpAny_pure (hQ h' a1 a2 a3 a4 a5 a6)) (F.args_zip_next_1 _))))
theorem pyNext_zipT_end {z TI TO i1 i2 l1 l2 : Addr} {k1 : Nat} {xs : Array Value} {a b : Value} {Q : Option Value → Shared → Prop} (hh : A.handled = none) (D : ZipApart z TI TO i1 i2 l1 l2)
    (hz : IsZip s.heap z TI TO .none) (hTI : IsPair s.heap TI (.ref i1) (.ref i2)) (hTO : IsPair s.heap TO a b)
    (h1 : s.heap.IsTupleIter i1 l1 k1) (hl1 : s.heap.IsTuple l1 xs) (hx : xs[k1]? = none)
    (hQ : ∀ h', (∀ c o, c ≠ z → c ≠ TO → c ≠ i1 → c ≠ i2 → s.heap.get? c = some o → h'.get? c = some o) → Q none { s with heap := h' }) : wpAny (model prog w) A (pyNext (.ref z)) Q E s := by
  have hT : s.TypeIs (.ref z) "zip" := ⟨_, hz, rfl⟩
  unfold pyNext
  refine wpAny_bind (wpAny_attempt (wpAny_callSpecial?_slot (name := Str.ofString "__next__") hT F.slot_zip_next
    (wpAny_call_entry F.slot_zip_next hT F.entry_zip_next (zipT_end hh D hz hTI hTO h1 hl1 hx fun h' e hk he => ?_) (F.args_zip_next_1 _))))
  obtain ⟨o, ho, hc⟩ := he
  refine wpAny_bind (wpAny_isInstance (T := "StopIteration") (b := true) ⟨o, ho, hc⟩ isSubtype_stop ?_)
  exact wpAny_pure (hQ _ hk)
end
noncomputable def tupIt (l : Addr) (i : Nat) : Obj := { cls := .type "tuple_iterator", data := .fields #[.ref l, .int i 0] }
noncomputable def pairO (a b : Value) : Obj := { cls := .type "tuple", data := .seq #[a, b] }
noncomputable def zipO (f : Value) (TI TO : Addr) : Obj := { cls := .type "zip", dict := none, data := .fields #[f, .bool false, .bool false, .ref TI, .ref TO], slots := #[] }
theorem meets_zipT (l1 l2 : Addr) (xs ys : Array Value) :
    Meets (Builtin.«zip.__new__» ⟨[.type "zip", .ref l1, .ref l2], []⟩) (fun _ R s => s.heap.IsTuple l1 xs ∧ s.heap.IsTuple l2 ys ∧
      R (.ok (.ret (.ref ((((s.heap.push (tupIt l1 0)).push (tupIt l2 0)).push (pairO (.ref s.heap.objs.size) (.ref (s.heap.push (tupIt l1 0)).objs.size))).push (pairO .none .none)).objs.size)))
        { s with heap := (((((s.heap.push (tupIt l1 0)).push (tupIt l2 0)).push (pairO (.ref s.heap.objs.size) (.ref (s.heap.push (tupIt l1 0)).objs.size))).push (pairO .none .none)).push
          (zipO .none ((s.heap.push (tupIt l1 0)).push (tupIt l2 0)).objs.size (((s.heap.push (tupIt l1 0)).push (tupIt l2 0)).push (pairO (.ref s.heap.objs.size) (.ref (s.heap.push (tupIt l1 0)).objs.size))).objs.size)) }) :=
  .of_wp fun prog w A R s h => by
    obtain ⟨hp, g, d, tk, os⟩ := s; obtain ⟨hl1, hl2, h⟩ := h
    have hsub := sub_zip
    have hL1 : Heap.IsTuple (Shared.heap ⟨hp, g, d, tk, os⟩) l1 xs := hl1
    have hL2 : Heap.IsTuple (Shared.heap ⟨hp.push { cls := .type "tuple_iterator", data := .fields #[.ref l1, .int 0 0] }, g, d, tk, os⟩) l2 ys := Heap.IsTuple.push hl2 _
    wp_walk using wpAny_pyIter_tuple hL1, wpAny_pyIter_tuple hL2
    exact ⟨_, rfl, h⟩
/-! the state's part -/
section
variable {σ : Sg} {Φ : V → Sg → Prop}
/-- where the zip's five objects stand -/
structure ZipAt (σ : Sg) (z TI TO i1 i2 l1 l2 : Addr) : Prop where
  z : σ z = some (.raw (zipO .none TI TO))
  TI : σ TI = some (.raw (pairO (.ref i1) (.ref i2)))
  TO : σ TO = some (.raw (pairO .none .none))
  i1 : σ i1 = some (.raw (tupIt l1 0))
  i2 : σ i2 = some (.raw (tupIt l2 0))
theorem TSpec.zipT {l1 l2 : Addr} {vs ws : List V} (e1 : σ l1 = some (.tup vs)) (e2 : σ l2 = some (.tup ws)) (h : ∀ z TI TO i1 i2 σ', Sub σ σ' → ZipAt σ' z TI TO i1 i2 l1 l2 → ZipApart z TI TO i1 i2 l1 l2 → (∀ a ∈ [z, TI, TO, i1, i2], σ a = none) → Φ (.ref z) σ') : TSpec "zip" [.ref l1, .ref l2] σ Φ := by
  intro c n S ρ us ok _ hv fr h' tk R
  obtain ⟨u, v, rfl, i1, i2⟩ := hv.two
  obtain rfl : u = .ref l1 := i1
  obtain rfl : v = .ref l2 := i2
  obtain ⟨o, hg1, ⟨us1, m1, rfl, hvs1⟩, _⟩ := R.obj ok e1
  obtain ⟨o, hg2, ⟨us2, m2, rfl, hvs2⟩, _⟩ := R.obj ok e2
  have t1 : h'.IsTuple l1 us1.toArray := ⟨_, hg1, rfl, m1, rfl⟩
  have t2 : h'.IsTuple l2 us2.toArray := ⟨_, hg2, rfl, m2, rfl⟩
  refine callType_new (s := c.sh h' tk) F.called_zip (by decide) (F.typeCall_zip_2 _ _) (F.newCall_zip_2 _ _) (fun obj => F.args_object_init_3 obj _ _) F.entry_zip_new (meets_zipT l1 l2 us1.toArray us2.toArray) ⟨t1, t2, ?_⟩
  have R1 := R.alloc ok (o := tupIt l1 0) (ob := .raw _) rfl rfl
  have f1 := R.fresh ok
  have R2 := R1.alloc ok (o := tupIt l2 0) (ob := .raw _) rfl rfl
  have f2 := R1.fresh ok
  have R3 := R2.alloc ok (o := pairO (.ref h'.objs.size) (.ref (h'.push (tupIt l1 0)).objs.size)) (ob := .raw _) rfl rfl
  have f3 := R2.fresh ok
  have R4 := R3.alloc ok (o := pairO .none .none) (ob := .raw _) rfl rfl
  have f4 := R3.fresh ok
  have R5 := R4.alloc ok (o := zipO .none ((h'.push (tupIt l1 0)).push (tupIt l2 0)).objs.size (((h'.push (tupIt l1 0)).push (tupIt l2 0)).push (pairO (.ref h'.objs.size) (.ref (h'.push (tupIt l1 0)).objs.size))).objs.size) (ob := .raw _) rfl rfl
  have f5 := R4.fresh ok
  have z1 : (h'.push (tupIt l1 0)).objs.size = h'.objs.size + 1 := Heap.size_push ..
  have z2 : ((h'.push (tupIt l1 0)).push (tupIt l2 0)).objs.size = h'.objs.size + 2 := by rw [Heap.size_push, z1]
  have z3 : (((h'.push (tupIt l1 0)).push (tupIt l2 0)).push (pairO (.ref h'.objs.size) (.ref (h'.push (tupIt l1 0)).objs.size))).objs.size = h'.objs.size + 3 := by rw [Heap.size_push, z2]
  have z4 : ((((h'.push (tupIt l1 0)).push (tupIt l2 0)).push (pairO (.ref h'.objs.size) (.ref (h'.push (tupIt l1 0)).objs.size))).push (pairO .none .none)).objs.size = h'.objs.size + 4 := by rw [Heap.size_push, z3]
  have lt1 : @LT.lt Nat instLTNat l1 h'.objs.size := Heap.lt_size hg1
  have lt2 : @LT.lt Nat instLTNat l2 h'.objs.size := Heap.lt_size hg2
  refine ⟨⟨_, Heap.get?_push_size _ rfl, rfl⟩, .ref _, _, _, _, rfl, R5, rfl, h _ ((h'.push (tupIt l1 0)).push (tupIt l2 0)).objs.size (((h'.push (tupIt l1 0)).push (tupIt l2 0)).push (pairO (.ref h'.objs.size) (.ref (h'.push (tupIt l1 0)).objs.size))).objs.size h'.objs.size (h'.push (tupIt l1 0)).objs.size _ ?_ ⟨upd_same, ?_, ?_, ?_, ?_⟩ ?_ ?_⟩
  · exact (Sub.upd f1).trans ((Sub.upd f2).trans ((Sub.upd f3).trans ((Sub.upd f4).trans (Sub.upd f5))))
  · exact Sub.upd f5 _ _ (Sub.upd f4 _ _ upd_same)
  · exact Sub.upd f5 _ _ upd_same
  · exact Sub.upd f5 _ _ (Sub.upd f4 _ _ (Sub.upd f3 _ _ (Sub.upd f2 _ _ upd_same)))
  · exact Sub.upd f5 _ _ (Sub.upd f4 _ _ (Sub.upd f3 _ _ upd_same))
  · dsimp only
    rw [z4, z3, z2, z1]
    constructor <;> first | exact Nat.ne_of_lt (by (first | lia | omega)) | exact Nat.ne_of_gt (by (first | lia | omega))
  · have none_hi : ∀ a, h'.objs.size ≤ a → σ a = none := fun a ha => by
      cases e : σ a with
      | none => rfl
      | some ob => obtain ⟨o, ho, _⟩ := R.obj ok e; exact absurd (Heap.lt_size ho) (Nat.not_lt.mpr ha)
    intro a ha
    simp only [List.mem_cons, List.not_mem_nil, or_false] at ha
    rcases ha with rfl | rfl | rfl | rfl | rfl <;> refine none_hi _ ?_
    · rw [z4]; (first | lia | omega)
    · rw [z2]; (first | lia | omega)
    · rw [z3]; (first | lia | omega)
    · exact Nat.le_refl _
    · rw [z1]; (first | lia | omega)
end
end
section
section
variable {c : Cx} {S : Scope} {ρ : Rho} {σ : Sg} {n : Nat} {fr : Led} {h : Heap}
/-- objects of the frame's ledger turn -/
theorem Rel.turnS {Z Z' : Led} (R : Rel c ρ σ (Z ++ fr) h) {h' : Heap} (hfr : ∀ p ∈ fr, p.1 ∉ Z.map (·.1)) (hk : ∀ b o, b ∉ Z.map (·.1) → h.get? b = some o → h'.get? b = some o) (hm : Z'.map (·.1) = Z.map (·.1)) (hi : ∀ p ∈ Z', h'.get? p.1 = some p.2) : Rel c ρ σ (Z' ++ fr) h' := by
  obtain ⟨mp, news, F, N, m, G, D⟩ := R
  have inZ : ∀ b ∈ Z.map (·.1), b ≠ c.L ∧ c.h₀.get? b = none ∧ ∀ q ∈ news, b ≠ q.1 := fun b hb => by
    obtain ⟨p, hp, rfl⟩ := List.mem_map.mp hb
    have := N p (List.mem_append_right _ (List.mem_append_left _ hp))
    exact ⟨this.2.1, this.2.2, fun q hq => D p (List.mem_append_left _ hp) q hq⟩
  have hL : c.L ∉ Z.map (·.1) := fun q => (inZ _ q).1 rfl
  refine ⟨mp, news, ⟨F.ns.at' fun o e => hk _ o hL e, fun b o e => hk b o (fun q => by rw [(inZ b q).2.1] at e; cases e) (F.keep b o e), F.above⟩, fun p hp => ?_, m, G, fun p hp q hq => ?_⟩
  · rcases List.mem_append.mp hp with hp | hp
    · have := N p (List.mem_append_left _ hp)
      exact ⟨hk _ _ (fun z => (inZ _ z).2.2 p hp rfl) this.1, this.2⟩
    · rcases List.mem_append.mp hp with hp | hp
      · have z : p.1 ∈ Z.map (·.1) := by rw [← hm]; exact List.mem_map.mpr ⟨p, hp, rfl⟩
        exact ⟨hi p hp, (inZ _ z).1, (inZ _ z).2.1⟩
      · have := N p (List.mem_append_right _ (List.mem_append_right _ hp))
        exact ⟨hk _ _ (hfr p hp) this.1, this.2⟩
  · rcases List.mem_append.mp hp with hp | hp
    · have z : p.1 ∈ Z.map (·.1) := by rw [← hm]; exact List.mem_map.mpr ⟨p, hp, rfl⟩
      exact (inZ _ z).2.2 q hq
    · exact D p (List.mem_append_right _ hp) q hq
theorem Rel.dropS {Z : Led} (R : Rel c ρ σ (Z ++ fr) h) {h' : Heap} (hfr : ∀ p ∈ fr, p.1 ∉ Z.map (·.1)) (hk : ∀ b o, b ∉ Z.map (·.1) → h.get? b = some o → h'.get? b = some o) : Rel c ρ σ fr h' := by
  obtain ⟨mp, news, F, N, m, G, D⟩ := R
  have inZ : ∀ b ∈ Z.map (·.1), b ≠ c.L ∧ c.h₀.get? b = none ∧ ∀ q ∈ news, b ≠ q.1 := fun b hb => by
    obtain ⟨p, hp, rfl⟩ := List.mem_map.mp hb
    have := N p (List.mem_append_right _ (List.mem_append_left _ hp))
    exact ⟨this.2.1, this.2.2, fun q hq => D p (List.mem_append_left _ hp) q hq⟩
  have hL : c.L ∉ Z.map (·.1) := fun q => (inZ _ q).1 rfl
  refine ⟨mp, news, ⟨F.ns.at' fun o e => hk _ o hL e, fun b o e => hk b o (fun q => by rw [(inZ b q).2.1] at e; cases e) (F.keep b o e), F.above⟩, fun p hp => ?_, m, G, fun p hp q hq => D p (List.mem_append_right _ hp) q hq⟩
  rcases List.mem_append.mp hp with hp | hp
  · have := N p (List.mem_append_left _ hp)
    exact ⟨hk _ _ (fun z => (inZ _ z).2.2 p hp rfl) this.1, this.2⟩
  · have := N p (List.mem_append_right _ (List.mem_append_right _ hp))
    exact ⟨hk _ _ (hfr p hp) this.1, this.2⟩
theorem Rel.at_fr (R : Rel c ρ σ fr h) {p : Addr × Obj} (hp : p ∈ fr) : h.get? p.1 = some p.2 := let ⟨_, _, _, N, _, _, _⟩ := R; (N _ (List.mem_append_right _ hp)).1
theorem Rel.ne_fr (ok : c.Ok n) (R : Rel c ρ σ fr h) {p : Addr × Obj} (hp : p ∈ fr) {a : Addr} {ob : Ob} (e : σ a = some ob) : a ≠ p.1 := by
  obtain ⟨mp, news, F, N, m, G, D⟩ := R
  intro q
  subst q
  rcases G.at_ _ _ e with ⟨o, ho, _⟩ | hk
  · exact D _ hp _ ho rfl
  · obtain ⟨us, k, hg, _⟩ := kTup_lt ok hk
    have := (N _ (List.mem_append_right _ hp)).2.2
    rw [hg] at this; cases this
theorem del_ne {σ : Sg} {a b : Addr} (h : b ≠ a) : del σ a b = σ b := if_neg h
end
section
variable {T : Tabs} {c : Cx} {S : Scope} {ρ : Rho} {σ : Sg} {n : Nat} {Φ : Fl → Rho → Sg → Prop} {pos : Pos}
/-- what a for over zip asks: one turn -/
inductive ZipK (T : Tabs) (S : Scope) (x y : Str) (bodyW : Rho → Sg → (Fl → Rho → Sg → Prop) → Prop) (Φ : Fl → Rho → Sg → Prop) (v : V) (ρ : Rho) (σ : Sg) : Prop
  | mk (z TI TO i1 i2 l1 l2 : Addr) (v1 v2 : V) (σ₂ : Sg) (e : v = .ref z) (ZA : ZipAt σ z TI TO i1 i2 l1 l2) (D : ZipApart z TI TO i1 i2 l1 l2) (s : Sub σ₂ σ) (no : ∀ a ∈ [z, TI, TO, i1, i2], σ₂ a = none) (e1 : σ₂ l1 = some (.tup [v1])) (e2 : σ₂ l2 = some (.tup [v2]))
    (k : wStores T S [x, y] [v1, v2] ρ σ₂ fun ρ σ => bodyW ρ σ fun f ρ' σ' => match f with | .ret v => Φ (.ret v) ρ' σ' | .brk => Φ .next ρ' σ' | _ => σ' l1 = some (.tup [v1]) ∧ Φ .next ρ' σ') : ZipK T S x y bodyW Φ v ρ σ
inductive ZipI (c : Cx) (fr Z : Led) (z TI TO i1 i2 l1 : Addr) (v1 : V) (Q : Rho → Sg → Prop) (s' : Shared) : Prop
  | mk (Z' : Led) (ρ' : Rho) (σ' : Sg) (h' : Heap) (tk' : Nat) (a b : Value) (e : s' = c.sh h' tk') (m : Z'.map (·.1) = Z.map (·.1)) (R : Rel c ρ' σ' (Z' ++ fr) h') (iz : IsZip h' z TI TO .none) (p1 : IsPair h' TI (.ref i1) (.ref i2)) (p2 : IsPair h' TO a b) (ti : h'.IsTupleIter i1 l1 1) (el : σ' l1 = some (.tup [v1])) (k : Q ρ' σ') : ZipI c fr Z z TI TO i1 i2 l1 v1 Q s'
theorem Ex.forZip (ok : c.Ok n) (hcl : c.cl = T.cl) (hS : c.S₀ = S) (hk : S.kind = .function) {x y : Str} {px py tp : Pos} {k : Nat} {iter : PySem.Expr} {body : List Stmt} (h : EvV c S (eval iter (c.env S)) ρ σ fun v σ₁ => ZipK T S x y (fun ρ σ Ψ => Exs c S body ρ σ Ψ) Φ v ρ σ₁)
    (hs : ∀ x, foldedSetIterable iter (c.env S) x = pure x) : ExS c (exec (.For (.Tuple [.Name x px, .Name y py] k tp) iter body [] pos) (c.env S)) S ρ σ Φ := by
  subst hS
  intro fr h' tk R
  refine wpAny_For (wpAny_mono (h fr h' tk R) (fun u s₁ q => ?_) fun _ _ e => e) hs
  obtain ⟨v, σ₁, h₁, tk₁, rfl, R₁, iv, z, TI, TO, i1, i2, l1, l2, v1, v2, σ₂, rfl, ZA, D, s2, hno, e1, e2, hb⟩ := q
  obtain rfl : u = .ref z := iv
  obtain ⟨oz, hgz, hoz, _⟩ := R₁.obj ok ZA.z
  have hoz : oz = zipO .none TI TO := hoz
  subst hoz
  refine wpAny_pyIter_zip (s := c.sh h₁ tk₁) (TI := TI) (TO := TO) (f0 := .none) hgz ?_
  -- the five objects to the frame's ledger
  obtain ⟨Ra, fa⟩ := R₁.toFr ok ZA.z
  obtain ⟨Rb, fb⟩ := Ra.toFr ok (I := TI) ((del_ne D.TIz).trans ZA.TI)
  obtain ⟨Rc, fc⟩ := Rb.toFr ok (I := TO) ((del_ne D.TITO.symm).trans ((del_ne D.TOz).trans ZA.TO))
  obtain ⟨Rd, fd⟩ := Rc.toFr ok (I := i1) ((del_ne D.TOi1.symm).trans ((del_ne D.TIi1.symm).trans ((del_ne D.i1z).trans ZA.i1)))
  obtain ⟨Re, fe⟩ := Rd.toFr ok (I := i2) ((del_ne D.i12.symm).trans ((del_ne D.TOi2.symm).trans ((del_ne D.TIi2.symm).trans ((del_ne D.i2z).trans ZA.i2))))
  have hsub : Sub σ₂ (del (del (del (del (del σ₁ z) TI) TO) i1) i2) := fun a ob e => by
    have ne : ∀ b ∈ [z, TI, TO, i1, i2], a ≠ b := fun b hb q => by rw [q, hno b hb] at e; cases e
    rw [del_ne (ne i2 (by simp)), del_ne (ne i1 (by simp)), del_ne (ne TO (by simp)), del_ne (ne TI (by simp)), del_ne (ne z (by simp))]
    exact s2 a ob e
  let Z : Led := [(i2, tupIt l2 0), (i1, tupIt l1 0), (TO, pairO .none .none), (TI, pairO (.ref i1) (.ref i2)), (z, zipO .none TI TO)]
  have R0 : Rel c ρ σ₂ (Z ++ fr) h₁ := Re.narrow .refl hsub
  have frZ : ∀ p ∈ fr, p.1 ∉ Z.map (·.1) := fun p hp q => by
    simp only [Z, List.map_cons, List.map_nil, List.mem_cons, List.not_mem_nil, or_false] at q
    rcases q with q | q | q | q | q
    · exact fe p (.tail _ (.tail _ (.tail _ (.tail _ hp)))) q
    · exact fd p (.tail _ (.tail _ (.tail _ hp))) q
    · exact fc p (.tail _ (.tail _ hp)) q
    · exact fb p (.tail _ hp) q
    · exact fa p hp q
  clear Ra Rb Rc Rd Re fa fb fc fd fe hsub R₁ hgz
  have memZ : ∀ b, b ∉ Z.map (·.1) ↔ b ≠ i2 ∧ b ≠ i1 ∧ b ≠ TO ∧ b ≠ TI ∧ b ≠ z := fun b => by simp [Z]
  refine codeAny_forLoop_any (R := fun r s' => match r with | .ok f => _ | .error e => cameBackBy (model PW c.w) (c.A c.S₀) (c.env c.S₀) c.E e s')
    (fun k s' => (k = 2 ∧ s' = c.sh h₁ tk₁) ∨ (k = 1 ∧ ZipI c fr Z z TI TO i1 i2 l1 v1 (Φ .next) s')) ?_ 2 (.inl ⟨rfl, rfl⟩)
  rintro k s' (⟨rfl, rfl⟩ | ⟨rfl, Z', ρ', σ', h', tk', a, b, rfl, hZ, R, iz, iTI, iTO, ii1, el, q⟩)
  · refine wpAny_passesOwn ok.pe ?_
    obtain ⟨o1, hg1, ⟨us1, m1, rfl, hv1⟩, _⟩ := R0.obj ok e1
    obtain ⟨o2, hg2, ⟨us2, m2, rfl, hv2⟩, _⟩ := R0.obj ok e2
    obtain ⟨x1, rfl, ix1⟩ := hv1.one
    obtain ⟨x2, rfl, ix2⟩ := hv2.one
    have gz : IsZip h₁ z TI TO .none := R0.at_fr (p := (z, zipO .none TI TO)) (by simp [Z])
    have gTI : IsPair h₁ TI (.ref i1) (.ref i2) := R0.at_fr (p := (TI, pairO (.ref i1) (.ref i2))) (by simp [Z])
    have gTO : IsPair h₁ TO .none .none := R0.at_fr (p := (TO, pairO .none .none)) (by simp [Z])
    have g1 : h₁.IsTupleIter i1 l1 0 := ⟨_, R0.at_fr (p := (i1, tupIt l1 0)) (by simp [Z]), rfl, rfl⟩
    have g2 : h₁.IsTupleIter i2 l2 0 := ⟨_, R0.at_fr (p := (i2, tupIt l2 0)) (by simp [Z]), rfl, rfl⟩
    refine pyNext_zipT_item (s := c.sh h₁ tk₁) D gz gTI gTO g1 g2 ⟨_, hg1, rfl, m1, rfl⟩ ⟨_, hg2, rfl, m2, rfl⟩ (x := x1) (y := x2) rfl rfl fun h2 a1 a2 a3 a4 a5 a6 => ?_
    refine wpAny_passesOwn ok.pe (wpAny_letOwnedTupleGo_zip (s := c.sh h2 tk₁) a1 fun h3 b1 hs3 => ?_)
    obtain ⟨q1, c1, c1', d1⟩ := a3
    obtain ⟨q2, c2, c2', d2⟩ := a4
    have keepTI : h3.get? TI = some (pairO (.ref i1) (.ref i2)) := (hs3.2 TI D.TIz).trans (a6 _ _ D.TIz D.TITO D.TIi1 D.TIi2 gTI)
    have R3 : Rel c ρ σ₂ ([(i2, q2), (i1, q1), (TO, pairO x1 x2), (TI, pairO (.ref i1) (.ref i2)), (z, zipO .none TI TO)] ++ fr) h3 := by
      refine R0.turnS frZ (fun b o hb e => ?_) rfl fun p hp => ?_
      · obtain ⟨n1, n2, n3, n4, n5⟩ := (memZ b).mp hb
        exact (hs3.2 b n5).trans (a6 b o n5 n3 n2 n1 e)
      · simp only [List.mem_cons, List.not_mem_nil, or_false] at hp
        rcases hp with rfl | rfl | rfl | rfl | rfl
        · exact (hs3.2 i2 D.i2z).trans c2
        · exact (hs3.2 i1 D.i1z).trans c1
        · exact (hs3.2 TO D.TOz).trans a2
        · exact keepTI
        · exact b1
    have hTneq : h₁.objs.size ≠ z := Nat.ne_of_gt (Heap.lt_size gz)
    have tup3 : IsTup h3 h₁.objs.size #[x1, x2] := ⟨_, (hs3.2 _ hTneq).trans a5, rfl, _, rfl⟩
    refine wpAny_passesOwn ok.pe ?_
    obtain ⟨en1, en2⟩ := asNames_each (ts := [.Name x px, .Name y py]) (env := c.env c.S₀) (xs := [x, y]) rfl
    refine assign_Tuple_tuple (s := c.sh h3 tk₁) rfl tup3 (by rw [en1]; rfl) en2 fun h4 he4 => ?_
    have R4 := R3.keep (h' := h4) fun b o e => he4 b o (Nat.ne_of_lt (Heap.lt_size e)) e
    refine wStores_ok ok hcl hk (ts := [.Name x px, .Name y py]) (xs := [x, y]) rfl (.cons ix1 (.cons ix2 .nil)) R4 hb fun ρ' σ' h5 tk5 R5 hb5 => ?_
    refine wpAny_passesOwn ok.pe (wpAny_mono (hb5 _ h5 tk5 R5) (fun f s₃ q => ?_) fun _ _ e => e)
    obtain ⟨f', ρ', σ', h6, tk6, rfl, R6, jf, q⟩ := q
    have more : σ' l1 = some (.tup [v1]) ∧ Φ .next ρ' σ' → ∃ m, m < 2 ∧ ((m = 2 ∧ c.sh h6 tk6 = c.sh h₁ tk₁) ∨ (m = 1 ∧ ZipI c fr Z z TI TO i1 i2 l1 v1 (Φ .next) (c.sh h6 tk6))) := fun q =>
      ⟨1, by decide, .inr ⟨rfl, [(i2, q2), (i1, q1), (TO, pairO x1 x2), (TI, pairO (.ref i1) (.ref i2)), (z, zipO .none TI TO)], ρ', σ', h6, tk6, x1, x2, rfl, rfl, R6, R6.at_fr (p := (z, zipO .none TI TO)) (by simp), R6.at_fr (p := (TI, pairO (.ref i1) (.ref i2))) (by simp), R6.at_fr (p := (TO, pairO x1 x2)) (by simp), ⟨_, R6.at_fr (p := (i1, q1)) (by simp), c1', d1⟩, q.1, q.2⟩⟩
    cases f' with
    | next => have e : f = .next := jf; subst e; exact more q
    | cont => have e : f = .cont := jf; subst e; exact more q
    | brk => have e : f = .brk := jf; subst e; exact ⟨.next, ρ', σ', h6, tk6, rfl, R6.dropS frZ fun b o _ e => e, rfl, q⟩
    | ret v => obtain ⟨w, rfl, iw⟩ := jf; exact ⟨.ret v, ρ', σ', h6, tk6, rfl, R6.dropS frZ fun b o _ e => e, ⟨w, rfl, iw⟩, q⟩
  · refine wpAny_passesOwn ok.pe ?_
    obtain ⟨o1, hg1, ⟨us1, m1, rfl, hv1⟩, _⟩ := R.obj ok el
    obtain ⟨x1, rfl, ix1⟩ := hv1.one
    refine pyNext_zipT_end (s := c.sh h' tk') rfl D iz iTI iTO ii1 ⟨_, hg1, rfl, m1, rfl⟩ rfl fun h2 hk2 => ?_
    refine wpAny_execs_nil ⟨.next, ρ', σ', h2, tk', rfl, R.dropS (fun p hp => by rw [hZ]; exact frZ p hp) fun b o hb e => ?_, rfl, q⟩
    rw [hZ] at hb
    obtain ⟨n1, n2, n3, n4, n5⟩ := (memZ b).mp hb
    exact hk2 b o n5 n3 n2 n1 e
end
theorem XStm.forZip {T : Tabs} {S : Scope} {n : Nat} {x y : Str} {px py tp pos : Pos} {k : Nat} {iter : PySem.Expr} {body : List Stmt} {ρ : Rho} {σ : Sg} {Φ : Fl → Rho → Sg → Prop} (hT : T.Ok) (j kk : Nat) (hs : notSet iter = true)
    (h : XSpec T S n iter ρ σ fun v σ₁ => ZipK T S x y (fun ρ σ Ψ => wS T S n (wk T S n j) kk body ρ σ Ψ) Φ v ρ σ₁) : XStm T S n (.For (.Tuple [.Name x px, .Name y py] k tp) iter body [] pos) ρ σ Φ := by
  refine ⟨fun c ok hcl hS hk => Ex.forZip ok hcl hS hk ((h.go c ok hcl hk).mono fun v σ₁ q => ?_) (folded_eq hs)⟩
  obtain ⟨z, TI, TO, i1, i2, l1, l2, v1, v2, σ₂, a1, a2, a3, a4, a5, a6, a7, hw⟩ := q
  refine ⟨z, TI, TO, i1, i2, l1, l2, v1, v2, σ₂, a1, a2, a3, a4, a5, a6, a7, ?_⟩
  have mono : ∀ (xs : List Str) (vs : List V) (ρ : Rho) (σ : Sg) (K K' : Rho → Sg → Prop), (∀ ρ σ, K ρ σ → K' ρ σ) → wStores T S xs vs ρ σ K → wStores T S xs vs ρ σ K' := by
    intro xs
    induction xs with
    | nil => intro vs ρ σ K K' hi hw; cases vs with | nil => exact hi _ _ hw | cons _ _ => exact hw.elim
    | cons x xs ih =>
      intro vs ρ σ K K' hi hw
      cases vs with
      | nil => exact hw.elim
      | cons v vs =>
        unfold wStores wStore at hw ⊢
        split at hw
        · exact ih _ _ _ _ _ hi hw
        · obtain ⟨a, u, p, q, r⟩ := hw; exact ⟨a, u, p, q, ih _ _ _ _ _ hi r⟩
        · exact hw.elim
  exact mono _ _ _ _ _ _ (fun ρ σ z => wS_ok hT hk (wk_ok hT hk j) ok hcl hS kk body ρ σ _ z) hw
end
section
theorem at_app : At 482 (inN (topN PW 22) 9) ["self", "f", "some"] := ⟨fun P => ⟨by kernel_rfl, by kernel_rfl, by kernel_rfl, fun a b c => by show bindArgs _ _ = _; kernel_rfl⟩, by kernel_rfl, by decide +kernel⟩
section
variable {n : Nat} {σ : Sg} {Φ : V → Sg → Prop} {B : Bk} {F : Fu}
theorem app_ok (H : BankAt σ B) (hz : B.nodes.length < 2 ^ 20) (G : FunAt σ B F) {fi : Nat} {sa la : Addr} {nm : Str} {kind : Int} {t : Nat} {m : Nn} (ha : F.args[fi]? = some (.ref sa)) (hn : F.names[fi]? = some (.str nm)) (hr : F.res[fi]? = some (.int kind)) (hf : fi < 1000)
    (hsa : σ sa = some (.tup [.int kind])) (hla : σ la = some (.tup [.int t])) (hm : B.nodes[t]? = some m) (hms : m.key.sort = kind) (h : Got B σ ⟨"app", [(t : Int)], kind, .inl fi⟩ Φ) :
    CallOk (n + 2) 482 [.ref B.a, .int fi, .ref la] σ Φ := by
  refine CallOk.of TT_ok at_app (k := 20) (j := 20) rfl ?_
  refine ⟨_, _, _, _, _, rfl, H.inst, G.g2, by kernel_rfl, _, ISpec.list G.o2 (by (first | lia | omega)) (by (first | lia | omega)) (by rw [Int.toNat_natCast]; exact ha), ?_⟩
  refine BSpec.lenT hla (by simp) (BSpec.lenT hsa (by simp) ⟨fun e => (by cases e), fun _ => ?_⟩)
  refine XStm.forZip TT_ok 20 20 rfl (XSpec.of TT_ok (j := 20) ?_)
  refine TSpec.zipT hla hsa fun z TI TO i1 i2 σ1 s1 ZA D hno => ⟨z, TI, TO, i1, i2, la, sa, _, _, σ, rfl, ZA, D, s1, hno, hla, hsa, ?_⟩
  refine .inl ⟨_, _, _, _, 356, rfl, H.inst, H.own _ (by decide +kernel), by kernel_rfl, ?_⟩
  refine ⟨_, _, _, _, _, rfl, H.inst, G.g1, by kernel_rfl, _, ISpec.list G.o1 (by (first | lia | omega)) (by (first | lia | omega)) (by rw [Int.toNat_natCast]; exact hn), ?_⟩
  refine want_ok H hm (by (first | lia | omega)) hms ⟨hla, ?_⟩
  refine .inl ⟨_, _, _, _, 335, rfl, H.inst, H.own _ (by decide +kernel), by kernel_rfl, TSpec.tupT hla ?_⟩
  refine ⟨_, _, _, _, _, rfl, H.inst, G.g3, by kernel_rfl, _, ISpec.list G.o3 (by (first | lia | omega)) (by (first | lia | omega)) (by rw [Int.toNat_natCast]; exact hr), ?_⟩
  exact made_ok H hz ⟨"app", [(t : Int)], kind, .inl fi⟩ (wf_inl (by decide +kernel)) Sub.refl hla rfl (Got.made H h) (fun v σ' q => ⟨σ', Sub.refl, q⟩) (fun v q => ⟨σ, Sub.refl, q⟩)
end
end
section
/-! ## the bank's making -/
theorem at_binit : At 202 (inN (topN PW 21) 0) ["self"] := ⟨fun P => ⟨by kernel_rfl, by kernel_rfl, by kernel_rfl, fun a => by show bindArgs _ _ = _; kernel_rfl⟩, by kernel_rfl, by decide +kernel⟩
/-- the state of a making: x is an object whose fields are kvs; the objects l stand -/
structure Mk (σ0 σ : Sg) (x dx : Addr) (kvs : List (Str × V)) (l : List (Addr × Ob)) : Prop where
  inst : InstIs σ x 721 dx kvs
  old : ∀ a ob, σ0 a = some ob → a ≠ dx → σ a = some ob
  objs : ∀ p ∈ l, σ p.1 = some p.2 ∧ p.1 ≠ dx ∧ σ0 p.1 = none
  nd : (l.map (·.1)).Nodup
section
variable {σ0 σ : Sg} {x dx : Addr} {kvs : List (Str × V)} {l : List (Addr × Ob)}
theorem Mk.alloc (M : Mk σ0 σ x dx kvs l) {a : Addr} {ob : Ob} (h : σ a = none) : Mk σ0 (upd σ a ob) x dx kvs ((a, ob) :: l) where
  inst := ⟨Sub.upd h _ _ M.inst.obj, Sub.upd h _ _ M.inst.dict⟩
  old := fun b ob e hb => Sub.upd h _ _ (M.old b ob e hb)
  objs := fun p hp => by
    have nadx : a ≠ dx := fun q => by rw [q, M.inst.dict] at h; cases h
    rcases List.mem_cons.mp hp with rfl | hp
    · refine ⟨upd_same, nadx, ?_⟩
      cases e : σ0 a with
      | none => rfl
      | some ob => have := M.old a ob e nadx; rw [h] at this; cases this
    · obtain ⟨h1, h2, h3⟩ := M.objs p hp; exact ⟨Sub.upd h _ _ h1, h2, h3⟩
  nd := by
    rw [List.map_cons, List.nodup_cons]
    refine ⟨fun hm => ?_, M.nd⟩
    obtain ⟨p, hp, e⟩ := List.mem_map.mp hm
    have e : p.1 = a := e
    have := (M.objs p hp).1
    rw [e, h] at this; cases this
theorem Mk.set (M : Mk σ0 σ x dx kvs l) (kvs' : List (Str × V)) : Mk σ0 (upd σ dx (.sdict kvs')) x dx kvs' l where
  inst := ⟨(upd_ne (ne_of M.inst.obj M.inst.dict nofun)).trans M.inst.obj, upd_same⟩
  old := fun b ob e hb => (upd_ne hb).trans (M.old b ob e hb)
  objs := fun p hp => by obtain ⟨h1, h2, h3⟩ := M.objs p hp; exact ⟨(upd_ne h2).trans h1, h2, h3⟩
  nd := M.nd
end
theorem Mk.setA {σ0 σ : Sg} {x dx : Addr} {kvs : List (Str × V)} {l : List (Addr × Ob)} (M : Mk σ0 σ x dx kvs l) (nm : Str) (v : V) : Mk σ0 (upd σ dx (.sdict (dput kvs nm v))) x dx (dput kvs nm v) l := M.set _
theorem dputS_nodup {kvs : List (Str × V)} {x : Str} {v : V} (h : (kvs.map (·.1)).Nodup) : ((dput kvs x v).map (·.1)).Nodup := by
  unfold dput
  split
  · have : (kvs.map (fun kv => if kv.1 = x then (kv.1, v) else kv)).map (·.1) = kvs.map (·.1) := by
      rw [List.map_map]
      refine List.map_congr_left fun y _ => ?_
      show (if y.1 = x then (y.1, v) else y).1 = y.1
      split <;> rfl
    rw [this]; exact h
  · rename_i hn
    rw [List.map_append, List.nodup_append]
    refine ⟨h, by simp, fun a ha b hb e => ?_⟩
    subst e
    obtain ⟨y, hy, e⟩ := List.mem_map.mp ha
    have hb : a = x := by simpa using hb
    exact hn (List.any_eq_true.mpr ⟨y, hy, by simpa using e.trans hb⟩)
theorem dputS_len {kvs : List (Str × V)} {x : Str} {v : V} {k : Nat} (h : kvs.length ≤ k) : (dput kvs x v).length ≤ k + 1 := by have := dput_length kvs x v; (first | lia | omega)
/-- the bank's attributes once its tables stand -/
noncomputable def bkv (sn sw fn fa fr lo la ls ld nb : Addr) : List (Str × V) := [("sort_names", .ref sn), ("sort_widths", .ref sw), ("fun_names", .ref fn), ("fun_args", .ref fa), ("fun_results", .ref fr), ("fresh_count", .int 0), ("term_ops", .ref lo), ("term_args", .ref la), ("term_sorts", .ref ls), ("term_datas", .ref ld), ("numbers", .ref nb)]
noncomputable def mlist : List Str := methL.map (·.1.2)
structure KvOk (kvs : List (Str × V)) (fn fa fr lo la ls ld nb : Addr) : Prop where
  g1 : dget kvs "term_ops" = some (.ref lo)
  g2 : dget kvs "term_args" = some (.ref la)
  g3 : dget kvs "term_sorts" = some (.ref ls)
  g4 : dget kvs "term_datas" = some (.ref ld)
  g5 : dget kvs "numbers" = some (.ref nb)
  f1 : dget kvs "fun_names" = some (.ref fn)
  f2 : dget kvs "fun_args" = some (.ref fa)
  f3 : dget kvs "fun_results" = some (.ref fr)
  own : ∀ x ∈ methL.map (·.1.2), dget kvs x = none
  nd : (kvs.map (·.1)).Nodup
theorem dgetS_none {kvs : List (Str × V)} {x : Str} (h : x ∉ kvs.map (·.1)) : dget kvs x = none := by
  unfold dget
  rw [Option.map_eq_none_iff, List.find?_eq_none]
  intro y hy q
  exact h (List.mem_map.mpr ⟨y, hy, by simpa using q⟩)
theorem dgetS_snoc {kvs : List (Str × V)} {x y : Str} {v w : V} (h : dget kvs x = some w) : dget (kvs ++ [(y, v)]) x = some w := by
  unfold dget at h ⊢
  rw [List.find?_append]
  cases e : kvs.find? (fun p => decide (p.1 = x)) with
  | none => rw [e] at h; cases h
  | some z => rw [e] at h; exact h
theorem dputS_new {kvs : List (Str × V)} {y : Str} {v : V} (h : y ∉ kvs.map (·.1)) : dput kvs y v = kvs ++ [(y, v)] := by
  unfold dput
  rw [if_neg]
  rw [List.any_eq_true]
  rintro ⟨z, hz, q⟩
  exact h (List.mem_map.mpr ⟨z, hz, by simpa using q⟩)
theorem KvOk.put {kvs : List (Str × V)} {fn fa fr lo la ls ld nb : Addr} (K : KvOk kvs fn fa fr lo la ls ld nb) {y : Str} {v : V} (h1 : y ∉ kvs.map (·.1)) (h2 : y ∉ methL.map (·.1.2)) : KvOk (dput kvs y v) fn fa fr lo la ls ld nb := by
  have nd := dputS_nodup (x := y) (v := v) K.nd
  rw [dputS_new h1] at nd ⊢
  refine ⟨dgetS_snoc K.g1, dgetS_snoc K.g2, dgetS_snoc K.g3, dgetS_snoc K.g4, dgetS_snoc K.g5, dgetS_snoc K.f1, dgetS_snoc K.f2, dgetS_snoc K.f3, fun x hx => ?_, nd⟩
  have h0 := K.own x hx
  unfold dget at h0 ⊢
  rw [Option.map_eq_none_iff] at h0 ⊢
  rw [List.find?_append, h0]
  have : y ≠ x := fun q => h2 (by rw [q]; exact hx)
  simp [this]
theorem bkv_ok (sn sw fn fa fr lo la ls ld nb : Addr) : KvOk (bkv sn sw fn fa fr lo la ls ld nb) fn fa fr lo la ls ld nb where
  g1 := by kernel_rfl
  g2 := by kernel_rfl
  g3 := by kernel_rfl
  g4 := by kernel_rfl
  g5 := by kernel_rfl
  f1 := by kernel_rfl
  f2 := by kernel_rfl
  f3 := by kernel_rfl
  own := fun x hx => dgetS_none fun hm => by
    have key : ∀ x ∈ methL.map (·.1.2), x ∉ (["sort_names", "sort_widths", "fun_names", "fun_args", "fun_results", "fresh_count", "term_ops", "term_args", "term_sorts", "term_datas", "numbers"] : List Str) := by decide +kernel
    exact key x hx hm
  nd := by show (["sort_names", "sort_widths", "fun_names", "fun_args", "fun_results", "fresh_count", "term_ops", "term_args", "term_sorts", "term_datas", "numbers"] : List Str).Nodup; decide +kernel
theorem BankAt.attr {σ : Sg} {B : Bk} (H : BankAt σ B) {kvs : List (Str × V)} {fn fa fr : Addr} (K : KvOk kvs fn fa fr B.lo B.la B.ls B.ld B.nb) : BankAt (Mine.upd σ B.dx (.sdict kvs)) { B with kvs := kvs } := by
  have T : TSub σ (Mine.upd σ B.dx (.sdict kvs)) := TSub.upd H.inst.dict fun _ => nofun
  exact {
    inst := ⟨(upd_ne (ne_of H.inst.obj H.inst.dict nofun)).trans H.inst.obj, upd_same⟩, g1 := K.g1, g2 := K.g2, g3 := K.g3, g4 := K.g4, g5 := K.g5, own := K.own
    o1 := (upd_ne (ne_of H.o1 H.inst.dict nofun)).trans H.o1, o2 := (upd_ne (ne_of H.o2 H.inst.dict nofun)).trans H.o2, o3 := (upd_ne (ne_of H.o3 H.inst.dict nofun)).trans H.o3, o4 := (upd_ne (ne_of H.o4 H.inst.dict nofun)).trans H.o4, o5 := (upd_ne (ne_of H.o5 H.inst.dict nofun)).trans H.o5
    node := fun n hn => ⟨T _ _ (H.node n hn).1, (H.node n hn).2.tsub T⟩
    keys := fun x hx => (H.keys x hx).tsub T
    find := H.find, len := H.len, nd := H.nd }
noncomputable def k0 : Nd := ⟨"", [], 0, .inl 0⟩
noncomputable def k1 : Nd := ⟨"true", [], 0, .inl 0⟩
noncomputable def k2 : Nd := ⟨"false", [], 0, .inl 0⟩
section
variable {n : Nat} {σ : Sg} {Φ : V → Sg → Prop}
/-- the bank as it is made -/
structure NewBank (σ0 σ : Sg) (x dx : Addr) (B : Bk) (F : Fu) (ks : List Nd) : Prop where
  ea : B.a = x
  ed : B.dx = dx
  bank : BankAt σ B
  kv : KvOk B.kvs F.fn F.fa F.fr B.lo B.la B.ls B.ld B.nb
  f1 : σ F.fn = some (.list [])
  f2 : σ F.fa = some (.list [])
  f3 : σ F.fr = some (.list [])
  nd : (F.fn :: F.fa :: F.fr :: B.mut).Nodup
  n1 : F.names = []
  n2 : F.args = []
  n3 : F.res = []
  keys : B.keys = ks
  old : ∀ a ob, σ0 a = some ob → a ≠ dx → σ a = some ob
  new : ∀ a ∈ F.fn :: F.fa :: F.fr :: B.mut, σ0 a = none
theorem NewBank.sub {σ0 σ σ' : Sg} {x dx : Addr} {B : Bk} {F : Fu} {ks : List Nd} (s : Sub σ σ') (N : NewBank σ0 σ x dx B F ks) : NewBank σ0 σ' x dx B F ks :=
  ⟨N.ea, N.ed, N.bank.sub s, N.kv, s _ _ N.f1, s _ _ N.f2, s _ _ N.f3, N.nd, N.n1, N.n2, N.n3, N.keys, fun a ob e h => s _ _ (N.old a ob e h), N.new⟩
theorem NewBank.made {σ0 σ : Sg} {x dx ta : Addr} {B : Bk} {F : Fu} {ks : List Nd} (N : NewBank σ0 σ x dx B F ks) (hz : ks.length < 1000) (k : Nd) (wf : k.WF) (h1 : σ ta = some (.tup (k.args.map .int))) {dv : V} (h2 : DataHere σ k.data dv) {Ψ : V → Sg → Prop} (h : Got B σ k Ψ) : CallOk (n + 1) 335 [.ref x, .str k.op, .ref ta, .int k.sort, dv] σ Ψ := by
  have hl : B.nodes.length < 2 ^ 20 := by have := congrArg List.length N.keys; rw [List.length_map] at this; (first | lia | omega)
  have := made_ok (n := n) N.bank hl k wf Sub.refl h1 h2 (Got.made N.bank h) (fun v σ' q => q) (fun v q => q)
  rw [N.ea] at this
  exact this
/-- self.x = self.make(..) in the bank's making -/
theorem NewBank.make {σ0 : Sg} {x dx : Addr} {B : Bk} {F : Fu} {ks : List Nd} {k : Nd} (hk : ∀ i : Nat, 0 < i → ks[i]? ≠ some k) {y : Str} (N : NewBank σ0 σ x dx B F ks) (h1 : y ∉ B.kvs.map (·.1)) (h2 : y ∉ methL.map (·.1.2))
    (h : ∀ B' σ' (t : Nat), NewBank σ0 (upd σ' dx (.sdict (dput B.kvs y (.int t)))) x dx B' F (ks ++ [k]) → InstIs σ' x 721 dx B.kvs → B'.kvs = dput B.kvs y (.int t) → Φ (.int t) σ') : Got B σ k Φ := by
  intro B' σ' t H' g K
  have N' := N.nd
  have hkeys : B'.keys = ks ++ [k] := by
    rcases g.ks with e | ⟨_, _, e⟩
    · exfalso
      have := g.at_
      rw [← List.getElem?_map, e, show B.nodes.map (·.key) = ks from N.keys] at this
      exact hk t g.pos this
    · rw [show B'.keys = B'.nodes.map (·.key) from rfl, e, show B.nodes.map (·.key) = ks from N.keys]
  have mt := g.ext.mt
  have mts := mt
  simp only [Bk.mut, List.cons.injEq, and_true] at mts
  obtain ⟨m1, m2, m3, m4, m5⟩ := mts
  have notmut : ∀ {a : Addr} {ob : Ob}, σ a = some ob → (∀ l, ob ≠ .list l) → (∀ l, ob ≠ .kdict l) → a ∉ B.mut := fun e n1 n2 hm => by
    simp only [Bk.mut, List.mem_cons, List.not_mem_nil, or_false] at hm
    rcases hm with rfl | rfl | rfl | rfl | rfl
    · rw [N.bank.o1] at e; cases e; exact n1 _ rfl
    · rw [N.bank.o2] at e; cases e; exact n1 _ rfl
    · rw [N.bank.o3] at e; cases e; exact n1 _ rfl
    · rw [N.bank.o4] at e; cases e; exact n1 _ rfl
    · rw [N.bank.o5] at e; cases e; exact n2 _ rfl
  have I0 := N.bank.inst
  rw [N.ea, N.ed] at I0
  have I1 : InstIs σ' x 721 dx B.kvs := ⟨K _ _ I0.obj (notmut I0.obj (fun _ => nofun) fun _ => nofun), K _ _ I0.dict (notmut I0.dict (fun _ => nofun) fun _ => nofun)⟩
  have ea : B'.a = x := g.ext.a.trans N.ea
  have edx : B'.dx = dx := by
    have e := H'.inst.obj
    rw [ea, I1.obj] at e
    cases e; rfl
  simp only [List.nodup_cons, List.mem_cons, not_or] at N'
  obtain ⟨⟨_, _, q1⟩, ⟨_, q2⟩, q3, _⟩ := N'
  have K2 : KvOk (dput B.kvs y (.int t)) F.fn F.fa F.fr B'.lo B'.la B'.ls B'.ld B'.nb := by rw [m1, m2, m3, m4, m5]; exact N.kv.put h1 h2
  have A := H'.attr K2
  have es : upd σ' B'.dx (.sdict (dput B.kvs y (.int t))) = upd σ' dx (.sdict (dput B.kvs y (.int t))) := by rw [edx]
  rw [es] at A
  have nf : ∀ {a : Addr}, σ' a = some (.list []) → upd σ' dx (.sdict (dput B.kvs y (.int t))) a = some (.list []) := fun e => (upd_ne (ne_of e I1.dict nofun)).trans e
  have kN : ∀ {a : Addr}, a ∉ B.mut → σ a = some (.list []) → upd σ' dx (.sdict (dput B.kvs y (.int t))) a = some (.list []) := fun hm e => nf (K _ _ e hm)
  refine h { B' with kvs := dput B.kvs y (.int t) } σ' t ⟨ea, edx, A, K2, kN q1 N.f1, kN q2 N.f2, kN q3 N.f3, ?_, N.n1, N.n2, N.n3, hkeys, fun a ob e hne => ?_, fun a ha => N.new a (by show a ∈ F.fn :: F.fa :: F.fr :: B.mut; rw [← mt]; exact ha)⟩ I1 rfl
  · show (F.fn :: F.fa :: F.fr :: B'.mut).Nodup
    rw [mt]; exact N.nd
  · rw [upd_ne hne]
    refine K _ _ (N.old a ob e hne) fun hm => ?_
    rw [N.new a (.tail _ (.tail _ (.tail _ hm)))] at e; cases e
theorem binit_rest {x dx : Addr} {σ1 : Sg} {sn sw fn fa fr lo la ls ld nb et : Addr} {kvs : List (Str × V)} (e : kvs = bkv sn sw fn fa fr lo la ls ld nb)
    (M : Mk σ σ1 x dx kvs [(nb, .kdict []), (ld, .list [.int 0]), (ls, .list [.int 0]), (la, .list [.ref et]), (et, .tup []), (lo, .list [.str ""]), (fr, .list []), (fa, .list []), (fn, .list []), (sw, .list [.int 0, .int 0, .int 0]), (sn, .list [.str "Bool", .str "Int", .str "Real"])])
    (h : ∀ B F σ', NewBank σ σ' x dx B F [k0, k1, k2] → ("bv_numbers" : Str) ∉ B.kvs.map (·.1) ∧ B.kvs.length ≤ 13 → Φ .none σ') :
    wS TT (fScope (inN (topN PW 21) 0)) (n + 1) (wk TT (fScope (inN (topN PW 21) 0)) (n + 1) 20) 9 ((fBody (inN (topN PW 21) 0)).drop 11) (binds ["self"] [.ref x]) σ1
      (fun fl _ σ' => match fl with | .ret v => SubQ (Φ v) σ' | .next => SubQ (Φ .none) σ' | _ => False) := by
  subst e
  have nd := M.nd
  have ob := fun p hp => M.objs p hp
  simp only [List.forall_mem_cons] at ob
  obtain ⟨⟨onb, _, znb⟩, ⟨old', _, zld⟩, ⟨ols, _, zls⟩, ⟨ola, _, zla⟩, ⟨oet, _, _⟩, ⟨olo, _, zlo⟩, ⟨ofr, _, zfr⟩, ⟨ofa, _, zfa⟩, ⟨ofn, _, zfn⟩, _⟩ := ob
  simp only [List.map_cons, List.map_nil] at nd
  have N0 : NewBank σ σ1 x dx ⟨x, dx, bkv sn sw fn fa fr lo la ls ld nb, lo, la, ls, ld, nb, [⟨k0, et, .int 0⟩], []⟩ ⟨fn, fa, fr, [], [], []⟩ [k0] := by
    have K := bkv_ok sn sw fn fa fr lo la ls ld nb
    refine ⟨rfl, rfl, ⟨M.inst, K.g1, K.g2, K.g3, K.g4, K.g5, K.own, olo, ola, ols, old', onb, ?_, fun _ h => (nomatch h), fun k => ?_, rfl, ?_⟩, K, ofn, ofa, ofr, ?_, rfl, rfl, rfl, rfl, M.old, ?_⟩
    · intro m hm
      rw [List.mem_singleton] at hm
      subst hm
      exact ⟨oet, rfl⟩
    · intro i hi e
      cases i with
      | zero => exact absurd hi (Nat.lt_irrefl _)
      | succ i => simp at e
    · show [lo, la, ls, ld, nb].Nodup
      simp only [List.nodup_cons, List.mem_cons, List.not_mem_nil, or_false, not_or] at nd ⊢
      simp only [eq_comm] at nd ⊢
      simp_all
    · show [fn, fa, fr, lo, la, ls, ld, nb].Nodup
      simp only [List.nodup_cons, List.mem_cons, List.not_mem_nil, or_false, not_or] at nd ⊢
      simp only [eq_comm] at nd ⊢
      simp_all
    · intro a ha
      simp only [Bk.mut, List.mem_cons, List.not_mem_nil, or_false] at ha
      rcases ha with rfl | rfl | rfl | rfl | rfl | rfl | rfl | rfl <;> assumption
  have t1 : ("true_number" : Str) ∉ (bkv sn sw fn fa fr lo la ls ld nb).map (·.1) := by
    show ("true_number" : Str) ∉ (["sort_names", "sort_widths", "fun_names", "fun_args", "fun_results", "fresh_count", "term_ops", "term_args", "term_sorts", "term_datas", "numbers"] : List Str)
    decide +kernel
  have t2 : ("false_number" : Str) ∉ (bkv sn sw fn fa fr lo la ls ld nb).map (·.1) := by
    show ("false_number" : Str) ∉ (["sort_names", "sort_widths", "fun_names", "fun_args", "fun_results", "fresh_count", "term_ops", "term_args", "term_sorts", "term_datas", "numbers"] : List Str)
    decide +kernel
  have t3 : ("bv_numbers" : Str) ∉ (bkv sn sw fn fa fr lo la ls ld nb).map (·.1) := by
    show ("bv_numbers" : Str) ∉ (["sort_names", "sort_widths", "fun_names", "fun_args", "fun_results", "fresh_count", "term_ops", "term_args", "term_sorts", "term_datas", "numbers"] : List Str)
    decide +kernel
  refine .inl ⟨_, _, _, _, 335, rfl, M.inst, (bkv_ok ..).own _ (by decide +kernel), by kernel_rfl, Nat.le_of_ble_eq_true rfl, fun ta hta => ?_⟩
  refine (N0.sub (Sub.upd hta)).made (by decide) k1 (wf_inl (by decide +kernel)) upd_same rfl ?_
  refine (N0.sub (Sub.upd hta)).make (y := "true_number") (fun i hi e => ?_) t1 (by decide +kernel) fun B1 σ2 u1 N1 I1 e1 => ⟨_, _, _, _, rfl, I1, by kernel_rfl, (bkv_ok ..).nd, Nat.le_of_ble_eq_true rfl, ?_⟩
  · cases i with
    | zero => exact absurd hi (Nat.lt_irrefl _)
    | succ i => simp at e
  clear N0 M
  have e1 : B1.kvs = bkv sn sw fn fa fr lo la ls ld nb ++ [(("true_number" : Str), V.int u1)] := e1.trans (dputS_new t1)
  have k1e : B1.kvs.map (·.1) = (bkv sn sw fn fa fr lo la ls ld nb).map (·.1) ++ [("true_number" : Str)] := by rw [e1, List.map_append]; rfl
  have b1l : B1.kvs.length = 12 := by rw [e1]; rfl
  have ot : ∀ {y : Str}, y ∉ (bkv sn sw fn fa fr lo la ls ld nb).map (·.1) → y ≠ ("true_number" : Str) → y ∉ B1.kvs.map (·.1) := fun h1 h2 hm => by
    rw [k1e] at hm
    rcases List.mem_append.mp hm with q | q
    · exact h1 q
    · exact h2 (List.mem_singleton.mp q)
  have f2' := ot t2 (by decide +kernel)
  have I1' := N1.bank.inst
  rw [N1.ea] at I1'
  refine .inl ⟨_, _, _, _, 335, rfl, I1', N1.kv.own _ (by decide +kernel), by kernel_rfl, Nat.le_of_ble_eq_true rfl, fun ta2 hta2 => ?_⟩
  refine (N1.sub (Sub.upd hta2)).made (by decide) k2 (wf_inl (by decide +kernel)) upd_same rfl ?_
  refine (N1.sub (Sub.upd hta2)).make (y := "false_number") (fun i hi e => ?_) f2' (by decide +kernel) fun B2 σ3 u2 N2 I2 e2 => ⟨_, _, _, _, rfl, I2, by kernel_rfl, N1.kv.nd, by (first | lia | omega), ?_⟩
  · cases i with
    | zero => exact absurd hi (Nat.lt_irrefl _)
    | succ i =>
      cases i with
      | zero => exact absurd e (by decide +kernel)
      | succ i => simp at e
  refine ⟨_, Sub.refl, h B2 _ _ N2 ⟨?_, by rw [e2]; have := dput_length B1.kvs "false_number" (V.int u2); (first | lia | omega)⟩⟩
  rw [e2, dputS_new f2', List.map_append]
  intro hm
  rcases List.mem_append.mp hm with q | q
  · exact ot t3 (by decide +kernel) q
  · have ne : ¬ ("bv_numbers" : Str) = "false_number" := by decide +kernel
    exact absurd (List.mem_singleton.mp q) ne
theorem binit_w {x dx : Addr} (I : InstIs σ x 721 dx []) (h : ∀ B F σ', NewBank σ σ' x dx B F [k0, k1, k2] → ("bv_numbers" : Str) ∉ B.kvs.map (·.1) ∧ B.kvs.length ≤ 13 → Φ .none σ') :
    wS TT (fScope (inN (topN PW 21) 0)) (n + 1) (wk TT (fScope (inN (topN PW 21) 0)) (n + 1) 20) 20 (fBody (inN (topN PW 21) 0)) (binds ["self"] [.ref x]) σ
      (fun fl _ σ' => match fl with | .ret v => SubQ (Φ v) σ' | .next => SubQ (Φ .none) σ' | _ => False) := by
  have M : Mk σ σ x dx [] [] := ⟨I, fun _ _ e _ => e, fun _ h => (nomatch h), List.nodup_nil⟩
  have n0 : (([] : List (Str × V)).map (·.1)).Nodup := List.nodup_nil
  have l0 : ([] : List (Str × V)).length ≤ 0 := Nat.le_refl _
  refine ⟨Nat.le_of_ble_eq_true rfl, fun sn hsn => ?_⟩
  have M1a := M.alloc (ob := .list [.str "Bool", .str "Int", .str "Real"]) hsn
  refine ⟨_, _, _, _, rfl, M1a.inst, by kernel_rfl, n0, by (first | lia | omega), ?_⟩
  have M1 := M1a.setA "sort_names" (.ref sn)
  have n1 := dputS_nodup (x := "sort_names") (v := .ref sn) n0
  have l1 := dputS_len (x := "sort_names") (v := .ref sn) l0
  refine ⟨Nat.le_of_ble_eq_true rfl, fun sw hsw => ?_⟩
  have M2a := M1.alloc (ob := .list [.int 0, .int 0, .int 0]) hsw
  refine ⟨_, _, _, _, rfl, M2a.inst, by kernel_rfl, n1, by (first | lia | omega), ?_⟩
  have M2 := M2a.setA "sort_widths" (.ref sw)
  have n2 := dputS_nodup (x := "sort_widths") (v := .ref sw) n1
  have l2 := dputS_len (x := "sort_widths") (v := .ref sw) l1
  refine ⟨Nat.le_of_ble_eq_true rfl, fun fn hfn => ?_⟩
  have M3a := M2.alloc (ob := .list []) hfn
  refine ⟨_, _, _, _, rfl, M3a.inst, by kernel_rfl, n2, by (first | lia | omega), ?_⟩
  have M3 := M3a.setA "fun_names" (.ref fn)
  have n3 := dputS_nodup (x := "fun_names") (v := .ref fn) n2
  have l3 := dputS_len (x := "fun_names") (v := .ref fn) l2
  refine ⟨Nat.le_of_ble_eq_true rfl, fun fa hfa => ?_⟩
  have M4a := M3.alloc (ob := .list []) hfa
  refine ⟨_, _, _, _, rfl, M4a.inst, by kernel_rfl, n3, by (first | lia | omega), ?_⟩
  have M4 := M4a.setA "fun_args" (.ref fa)
  have n4 := dputS_nodup (x := "fun_args") (v := .ref fa) n3
  have l4 := dputS_len (x := "fun_args") (v := .ref fa) l3
  refine ⟨Nat.le_of_ble_eq_true rfl, fun fr hfr => ?_⟩
  have M5a := M4.alloc (ob := .list []) hfr
  refine ⟨_, _, _, _, rfl, M5a.inst, by kernel_rfl, n4, by (first | lia | omega), ?_⟩
  have M5 := M5a.setA "fun_results" (.ref fr)
  have n5 := dputS_nodup (x := "fun_results") (v := .ref fr) n4
  have l5 := dputS_len (x := "fun_results") (v := .ref fr) l4
  refine ⟨_, _, _, _, rfl, M5.inst, by kernel_rfl, n5, by (first | lia | omega), ?_⟩
  have M6 := M5.setA "fresh_count" (.int 0)
  have n6 := dputS_nodup (x := "fresh_count") (v := .int 0) n5
  have l6 := dputS_len (x := "fresh_count") (v := .int 0) l5
  refine ⟨Nat.le_of_ble_eq_true rfl, fun lo hlo => ?_⟩
  have M7a := M6.alloc (ob := .list [.str ""]) hlo
  refine ⟨_, _, _, _, rfl, M7a.inst, by kernel_rfl, n6, by (first | lia | omega), ?_⟩
  have M7 := M7a.setA "term_ops" (.ref lo)
  have n7 := dputS_nodup (x := "term_ops") (v := .ref lo) n6
  have l7 := dputS_len (x := "term_ops") (v := .ref lo) l6
  refine ⟨Nat.le_of_ble_eq_true rfl, fun et het => ⟨Nat.le_of_ble_eq_true rfl, fun la hla => ?_⟩⟩
  have M8a := (M7.alloc (ob := .tup []) het).alloc (ob := .list [.ref et]) hla
  refine ⟨_, _, _, _, rfl, M8a.inst, by kernel_rfl, n7, by (first | lia | omega), ?_⟩
  have M8 := M8a.setA "term_args" (.ref la)
  have n8 := dputS_nodup (x := "term_args") (v := .ref la) n7
  have l8 := dputS_len (x := "term_args") (v := .ref la) l7
  refine ⟨Nat.le_of_ble_eq_true rfl, fun ls hls => ?_⟩
  have M9a := M8.alloc (ob := .list [.int 0]) hls
  refine ⟨_, _, _, _, rfl, M9a.inst, by kernel_rfl, n8, by (first | lia | omega), ?_⟩
  have M9 := M9a.setA "term_sorts" (.ref ls)
  have n9 := dputS_nodup (x := "term_sorts") (v := .ref ls) n8
  have l9 := dputS_len (x := "term_sorts") (v := .ref ls) l8
  refine ⟨Nat.le_of_ble_eq_true rfl, fun ld hld => ?_⟩
  have M10a := M9.alloc (ob := .list [.int 0]) hld
  refine ⟨_, _, _, _, rfl, M10a.inst, by kernel_rfl, n9, by (first | lia | omega), ?_⟩
  have M10 := M10a.setA "term_datas" (.ref ld)
  have n10 := dputS_nodup (x := "term_datas") (v := .ref ld) n9
  have l10 := dputS_len (x := "term_datas") (v := .ref ld) l9
  refine ⟨_, .inr (.inr rfl), fun nb hnb => ?_⟩
  have M11a := M10.alloc (ob := .kdict []) hnb
  refine ⟨_, _, _, _, rfl, M11a.inst, by kernel_rfl, n10, by (first | lia | omega), ?_⟩
  have M11 := M11a.setA "numbers" (.ref nb)
  have n11 := dputS_nodup (x := "numbers") (v := .ref nb) n10
  have l11 := dputS_len (x := "numbers") (v := .ref nb) l10
  exact binit_rest (by kernel_rfl) M11 h
end
end
section
/-! ## TermBank() -/
theorem cls_tb : ClsAt 721 620 := ⟨fun P => by kernel_rfl, fun P => by kernel_rfl, fun P => by kernel_rfl⟩
noncomputable def fdTB (P : Params) : FuncData := fdOf ((KK P).lookup 620)
noncomputable abbrev stT : Stmt := inN (topN PW 25) 0
noncomputable def oT (P : Params) : Obj := ((KK P).lookup 620).getD default
theorem fd_T : ∀ P, (KK P).lookup 620 = some ⟨(oT P).cls, (oT P).dict, .func (ksFn (fdTB P).name (fdTB P).qualname (fdTB P).params (fBody stT) (fScope stT) (fdTB P).defaults (fdTB P).kwdefaults (fdTB P).doc (fdTB P).pyModule (fdTB P).annotations (fdTB P).code (fdTB P).closureTuple 608), (oT P).slots⟩ := fun P => by kernel_rfl
theorem code_T : ∀ P, codeIn (KK P) (fdTB P).code (fdTB P).qualname = true := fun P => by kernel_rfl
theorem bind_T : ∀ P u, bindArgs (ksFn (fdTB P).name (fdTB P).qualname (fdTB P).params (fBody stT) (fScope stT) (fdTB P).defaults (fdTB P).kwdefaults (fdTB P).doc (fdTB P).pyModule (fdTB P).annotations (fdTB P).code (fdTB P).closureTuple 608) ⟨[u], []⟩ = pure [(("self" : Str), u)] := fun P u => by kernel_rfl
theorem cell_T : ∀ P, ∃ cl cld csl, (KK P).lookup 608 = some ⟨cl, cld, .cell (some (.ref 721)), csl⟩ := fun P => ⟨(((KK P).lookup 608).getD default).cls, (((KK P).lookup 608).getD default).dict, (((KK P).lookup 608).getD default).slots, by kernel_rfl⟩
noncomputable def cdaT (P : Params) : Addr := match (fdTB P).code with | .ref a => a | _ => 0
theorem cda_T : ∀ P, (fdTB P).code = .ref (cdaT P) := fun P => by kernel_rfl
noncomputable def vsT (P : Params) : Array Value := match (((KK P).lookup (cdaT P)).getD default).data with | .fields v => v | _ => #[]
theorem code2_T : ∀ P, ∃ ccl cdd ccs, (KK P).lookup (cdaT P) = some ⟨ccl, cdd, .fields (vsT P), ccs⟩ := fun P => ⟨(((KK P).lookup (cdaT P)).getD default).cls, (((KK P).lookup (cdaT P)).getD default).dict, (((KK P).lookup (cdaT P)).getD default).slots, by kernel_rfl⟩
theorem file_T : ∀ P, ∃ tf, (vsT P)[2]? = some (.str PW.main.file tf) := fun P => ⟨(match ((vsT P)[2]? : Option Value) with | some (Value.str _ t) => t | _ => 0), by kernel_rfl⟩
theorem clsIn_T : ∀ P, (clsIn (KK P) 721).isSome = true := fun P => by kernel_rfl
theorem sub_T : ∀ P, mroIn (KK P) 721 (.ref 721) = some true := fun P => by kernel_rfl
theorem sup_T : ∀ P, nsIn (KK P) mainGlobals "super" = some none := fun P => by kernel_rfl
theorem superIn_T : ∀ P, ks_superIn (KK P) 721 721 "__init__" = some (some (.ref 202)) := fun P => by kernel_rfl
theorem opq_T : ∀ P, nsIn (KK P) cStatics "thirdparty.any" = some none := fun P => by kernel_rfl
theorem fn202 : ∀ P, typeIn (KK P) (.ref 202) = some (.type "function") ∧ fnIn (KK P) 202 = true := fun P => by refine ⟨?_, ?_⟩ <;> kernel_rfl
theorem par_T : ∀ P, ∃ ar, ((fdTB P).params.posonlyargs ++ (fdTB P).params.args).head? = some ar ∧ ar.arg = "self" := fun P => ⟨(((fdTB P).params.posonlyargs ++ (fdTB P).params.args).head?).getD default, by kernel_rfl, by kernel_rfl⟩
noncomputable def TB : Tabs := { TT with cl := [(("__class__" : Str), 608)] }
theorem TB_ok : TB.Ok := ⟨TT_ok.glob, TT_ok.fn, TT_ok.bn, TT_ok.ty, TT_ok.attr, TT_ok.sett, TT_ok.meth⟩
section
variable {n : Nat} {σ : Sg} {Φ : V → Sg → Prop}
noncomputable def Pb (σ1 : Sg) (x dx : Addr) (σ' : Sg) : Prop := ∃ B F, NewBank σ1 σ' x dx B F [k0, k1, k2] ∧ ("bv_numbers" : Str) ∉ B.kvs.map (·.1) ∧ B.kvs.length ≤ 13
theorem Rel.more {c : Cx} {ρ : Rho} {σ : Sg} {fr : Led} {h h' : Heap} {mp : Str → Option Value} {news : Led} {q : Addr} {o : Obj} (m : ∀ x v, ρ x = some v → ∃ u, mp x = some u ∧ v.Is u) (G : SgIs c σ news) (Dj : ∀ p ∈ fr, ∀ q ∈ news, p.1 ≠ q.1)
    (F : Fr c.h₀ c.L h' mp) (N : News c.h₀ c.L h' ((q, o) :: (news ++ fr))) (l : ∀ p ∈ news ++ fr, p.1 < q) : Rel c ρ σ fr h' :=
  ⟨mp, (q, o) :: news, F, N, m, ⟨fun a ob e => (G.at_ a ob e).imp (fun ⟨o, h, z⟩ => ⟨o, .tail _ h, z⟩) id⟩, fun p hp r hr => by
    rcases List.mem_cons.mp hr with rfl | hr
    · exact Nat.ne_of_lt (l p (List.mem_append_right _ hp))
    · exact Dj p hp r hr⟩
theorem tb_init {c2 : Cx} (ok2 : c2.Ok (n + 4)) (kf : (fScope stT).kind = .function) {x dx : Addr} {fr : Led} {σ1 : Sg} {h₁ : Heap} {tk : Nat} {Q : Flow → Shared → Prop} {E : Value → Shared → Prop} {ρ : Rho}
    (R : Rel c2 ρ σ1 fr h₁) (I : InstIs σ1 x 721 dx []) (h : ∀ σ' h' tk', Rel c2 ρ σ' fr h' → Pb σ1 x dx σ' → Q (.ret .none) (c2.sh h' tk')) :
    codeAny (model PW c2.w) (c2.A (fScope stT)) (.call (.ref 202) ⟨[.ref x], []⟩) (fun r s' => match r with | .ok (.ret v) => Q (.ret v) s' | .ok _ => False | .error e => E e s') (c2.sh h₁ tk) := by
  refine enterCode (c := c2) (n := n + 1) (vs := [.ref x]) at_binit.defAt at_binit.nodup rfl (Φ := fun v σ' => v = .none ∧ Pb σ1 x dx σ') (fun c3 ok3 hS3 hcl3 => (wS_ok TT_ok at_binit.defAt.kind (wk_ok TT_ok at_binit.defAt.kind 20) ok3 hcl3 hS3 20 _ _ _ _ (binit_w (Φ := fun v σ' => v = .none ∧ Pb σ1 x dx σ') I fun B F σ' N hb => ⟨rfl, B, F, N, hb⟩)).mono fun fl ρ' σ' q => ?_) ok2.B ok2.X ok2.T (by have := ok2.hd; (first | lia | omega)) (by have := ok2.hu; (first | lia | omega)) kf (.cons rfl .nil) R ?_
  · have up : ∀ {v : V} {σ'' σ' : Sg}, Sub σ'' σ' → (v = .none ∧ Pb σ1 x dx σ'') → (v = .none ∧ Pb σ1 x dx σ') := fun s ⟨e, B, F, N, hb⟩ => ⟨e, B, F, N.sub s, hb⟩
    cases fl with
    | next => obtain ⟨σ'', s, q⟩ := q; exact up s q
    | ret v => obtain ⟨σ'', s, q⟩ := q; exact up s q
    | brk => exact q
    | cont => exact q
  · rintro v u σ' h2 tk2 iv ⟨rfl, q⟩ R2
    have e : u = .none := iv
    subst e
    exact h σ' h2 tk2 R2 q
theorem tb_super {c2 : Cx} (ok2 : c2.Ok (n + 4)) (hcl : c2.cl = [(("__class__" : Str), 608)]) (hfa : c2.fa = 620) (hcd : c2.ccd = .ref (cdaT c2.w.params)) {x dx : Addr} {fr : Led} {σ1 : Sg} {h₁ : Heap} {tk : Nat} {p1 p2 p3 : Pos} {pl : Sem Bool} {whole : Sem Value} {Q : Flow → Shared → Prop}
    (R : Rel c2 (binds ["self"] [.ref x]) σ1 fr h₁) (I : InstIs σ1 x 721 dx []) (h : ∀ σ' h' tk', Rel c2 (binds ["self"] [.ref x]) σ' fr h' → Pb σ1 x dx σ' → Q (.ret .none) (c2.sh h' tk')) :
    _root_.PySem.wpAt (model PW c2.w) (c2.A (fScope stT)) (.func (fBody stT) (c2.env (fScope stT))) (attributeBase (.Call (.Name "super" p1) [] [] p2) "__init__" (c2.env (fScope stT)) whole)
      (fun ov s₁ => wpAny (model PW c2.w) (c2.A (fScope stT)) (getMethod ov "__init__" pl) (fun fx s₂ => wpAny (model PW c2.w) (c2.A (fScope stT)) (callWith p3 fx.1 fx.2 (backTo p3 (starEach [] (c2.env (fScope stT)))) []) (fun u s' => Q (.ret u) s') c2.E s₂) c2.E s₁) c2.E (c2.sh h₁ tk) := by
  have kf : (fScope stT).kind = .function := by kernel_rfl
  obtain ⟨mp, news, F, N, m, G, Dj⟩ := id R
  obtain ⟨u, hu, iu⟩ := m "self" (.ref x) rfl
  obtain rfl : u = .ref x := iu
  obtain ⟨es, k, hI, hE⟩ := R.inst ok2 I
  obtain ⟨clc, cld, csl, hcell⟩ := cell_T c2.w.params
  obtain ⟨ccl, cdd, ccs, hcode⟩ := code2_T c2.w.params
  obtain ⟨tf, hfile⟩ := file_T c2.w.params
  obtain ⟨ar, har, harg⟩ := par_T c2.w.params
  obtain ⟨cdD, hcD⟩ := Option.isSome_iff_exists.mp (clsIn_T c2.w.params)
  have he : c2.env (fScope stT) = ksEnv c2.cn (fScope stT) c2.L 620 (.ref (cdaT c2.w.params)) 608 := by
    show envX c2.cn (fScope stT) c2.L c2.fa c2.ccd c2.cl = _
    rw [hfa, hcd, hcl]
  rw [he]
  refine ks_node F ok2.X N ok2.T (fd_T _) har (by rw [harg]; exact hu) hI hcode hfile (by decide +kernel) hcell hcD (sub_T _) (sup_T _) (by decide +kernel) (by kernel_rfl) (by kernel_rfl) (by rw [harg]; kernel_rfl) kf (by kernel_rfl) (by kernel_rfl) fun so h' F' N' l' => ?_
  rw [← he]
  have R2 : Rel c2 (binds ["self"] [.ref x]) σ1 fr h' := Rel.more (h := h₁) m G Dj F' N' l'
  obtain ⟨es2, k2', hI2, _⟩ := R2.inst ok2 I
  refine ks_method (s := c2.sh h' tk) F' ok2.X N' (.head _) hI2 (opq_T _) (superIn_T _) (fn202 _).1 (by decide +kernel) fun q h'' F'' N'' l'' => ?_
  have R3 : Rel c2 (binds ["self"] [.ref x]) σ1 fr h'' := by
    refine ⟨mp, (q, methodObj (.ref 202) (.ref x)) :: (so, ks_superObj 721 x 721) :: news, F'', N'', m, ⟨fun a ob e => (G.at_ a ob e).imp (fun ⟨o, h, z⟩ => ⟨o, .tail _ (.tail _ h), z⟩) id⟩, fun p hp r hr => ?_⟩
    rcases List.mem_cons.mp hr with rfl | hr
    · exact Nat.ne_of_lt (l'' p (.tail _ (List.mem_append_right _ hp)))
    · rcases List.mem_cons.mp hr with rfl | hr
      · exact Nat.ne_of_lt (l' p (List.mem_append_right _ hp))
      · exact Dj p hp r hr
  refine callWith_M0 (methP (K := KK c2.w.params) N'' (.head _) (ok2.X.keeps F''.keep)) (fn202 _).2 ?_
  refine call_meth (h₀ := c2.h₀) (L := c2.L) (s := c2.sh h'' (tk + 1)) N'' (.head _) ?_
  exact tb_init ok2 kf R3 I h
theorem tb_body {c2 : Cx} (ok2 : c2.Ok (n + 4)) (hcl : c2.cl = [(("__class__" : Str), 608)]) (hfa : c2.fa = 620) (hcd : c2.ccd = .ref (cdaT c2.w.params)) (hS : c2.S₀ = fScope stT) {x dx : Addr} {fr : Led} {σ1 : Sg} {h₁ : Heap} {tk : Nat} {Ψ : Sg → Prop}
    (R : Rel c2 (binds ["self"] [.ref x]) σ1 fr h₁) (I : InstIs σ1 x 721 dx []) (h : ∀ B F σ', NewBank σ1 σ' x dx B F [k0, k1, k2] → ("bv_numbers" : Str) ∉ B.kvs.map (·.1) → ∀ b, σ' b = none → Ψ (upd (upd σ' b (.idict [])) dx (.sdict (dput B.kvs "bv_numbers" (.ref b))))) :
    _root_.PySem.wpAt (model PW c2.w) (c2.A (fScope stT)) (.func (fBody stT) (c2.env (fScope stT))) (execs (fBody stT) (c2.env (fScope stT))) (fun fl s' => ∃ ρ' σ' h' tk', fl = .next ∧ s' = c2.sh h' tk' ∧ Rel c2 ρ' σ' fr h' ∧ Ψ σ') c2.E (c2.sh h₁ tk) := by
  have kf : (fScope stT).kind = .function := by kernel_rfl
  refine ks_wpAt_execs_cons (ks_wpAt_Expr_any (ks_wpAt_MethodCall ?_) ?_)
  · refine tb_super ok2 hcl hfa hcd R I (Q := fun _ s' => _root_.PySem.wpAt (model PW c2.w) (c2.A (fScope stT)) (.func (fBody stT) (c2.env (fScope stT))) (execs ((fBody stT).drop 1) (c2.env (fScope stT))) (fun fl s' => ∃ ρ' σ' h' tk', fl = .next ∧ s' = c2.sh h' tk' ∧ Rel c2 ρ' σ' fr h' ∧ Ψ σ') c2.E s') fun σ' h' tk' R' q => ?_
    obtain ⟨B, F, N, hb, hbl⟩ := q
    have w : wS TB (fScope stT) n (wk TB (fScope stT) n 10) 10 ((fBody stT).drop 1) (binds ["self"] [.ref x]) σ' (fun fl _ σ'' => match fl with | .next => Ψ σ'' | _ => False) := by
      have I2 := N.bank.inst
      rw [N.ea, N.ed] at I2
      refine ⟨_, .inl rfl, fun b hb' => ?_⟩
      have nb : b ≠ dx := fun q => by rw [q, I2.dict] at hb'; cases hb'
      refine ⟨_, _, _, _, rfl, ⟨Sub.upd hb' _ _ I2.obj, Sub.upd hb' _ _ I2.dict⟩, by kernel_rfl, N.kv.nd, by (first | lia | omega), ?_⟩
      exact h B F σ' N hb b hb'
    have := (wS_ok TB_ok kf (wk_ok TB_ok kf 10) (ok2.le (by (first | lia | omega))) hcl hS 10 _ _ _ _ w) fr h' tk' R'
    refine wpAt_of_wpAny (wpAny_mono this (fun fl s' q => ?_) fun _ _ e => e)
    obtain ⟨f, ρ', σ2, h2, tk2, rfl, R2, i, q⟩ := q
    cases f with
    | next => exact ⟨ρ', σ2, h2, tk2, i, rfl, R2, q⟩
    | ret v => exact q.elim
    | brk => exact q.elim
    | cont => exact q.elim
  · unfold interactive
    rw [show (c2.env (fScope stT)).scope.kind = .function from kf]
    rfl
theorem Sub.upd2 {σ : Sg} {x dx : Addr} {a b : Ob} (hx : σ x = none) (hdx : σ dx = none) (hne : x ≠ dx) : Sub σ (Mine.upd (Mine.upd σ dx a) x b) := (Sub.upd hdx).trans (Sub.upd ((upd_ne hne).trans hx))
theorem tb_ok (h : ∀ B F σ', BankAt σ' B → FunAt σ' B F → F.names = [] → F.args = [] → F.res = [] → B.keys = [k0, k1, k2] → Sub σ σ' → (∀ a ∈ F.fn :: F.fa :: F.fr :: B.mut, σ a = none) → Φ (.ref B.a) σ') : CallOk (n + 6) 721 [] σ Φ := by
  intro c S us ρ ok hk hv fr h' tk R
  cases hv
  have R0 := R
  obtain ⟨mp, news, F, N, m, G, Dj⟩ := R
  have hd := ok.hd
  have hu := ok.hu
  refine call_cls (s := c.sh h' tk) F ok.X N (cls_tb.makes _) (cls_tb.init _) (cls_tb.fn _) fun x dx h1 F1 N1 l1 l2 => ?_
  let c1 : Cx := { c with dp := c.dp + 1, un := c.un + 1 }
  have hA : (c.A S).under (.builtin "type.__call__" ⟨[.ref 721], []⟩) = c1.A S := by
    have e1 : ∀ l : List Env, pushEnvs (Code.builtin "type.__call__" ⟨[.ref 721], []⟩).envs (some l) = some l := fun l => by kernel_rfl
    have e2 : ∀ g, pushGuards (Code.builtin "type.__call__" ⟨[.ref 721], []⟩).guards g = g := fun g => by cases g <;> kernel_rfl
    have e3 : (Code.builtin "type.__call__" ⟨[.ref 721], []⟩).weight = 1 := by kernel_rfl
    have e4 : (Code.builtin "type.__call__" ⟨[.ref 721], []⟩).cUnits = 1 := by kernel_rfl
    show Around.mk none _ (pushEnvs _ (some _)) (pushGuards _ _) _ = _
    rw [e1, e2, e3, e4]
  rw [hA]
  have hx0 : c.h₀.get? x = none := (N1 _ (.head _)).2.2
  have hd0 : c.h₀.get? dx = none := (N1 _ (.tail _ (.head _))).2.2
  have none_of : ∀ a, c.h₀.get? a = none → dx ≤ a → σ a = none := fun a h0 hle => by
    cases e : σ a with
    | none => rfl
    | some ob =>
      rcases G.at_ a ob e with ⟨o, ho, _⟩ | hk
      · exact absurd (l1 _ (List.mem_append_left _ ho)) (Nat.not_lt.mpr hle)
      · obtain ⟨us, k, hg, _⟩ := kTup_lt ok hk
        rw [h0] at hg; cases hg
  have nx : σ x = none := none_of x hx0 (Nat.le_of_lt l2)
  have ndx : σ dx = none := none_of dx hd0 (Nat.le_refl _)
  have xne : x ≠ dx := Nat.ne_of_gt l2
  have R1 : Rel c1 ρ (upd (upd σ dx (.sdict [])) x (.inst 721 dx)) fr h1 := by
    refine ⟨mp, (x, instObj 721 dx) :: (dx, dictOf [] 0) :: news, F1, N1, m, ⟨fun a ob e => ?_⟩, fun p hp q hq => ?_⟩
    · unfold upd at e
      split at e
      · rename_i z; cases e; subst z; exact .inl ⟨_, .head _, rfl, ok.noSys hx0⟩
      · split at e
        · rename_i z; cases e; subst z; exact .inl ⟨_, .tail _ (.head _), ⟨[], 0, rfl, .nil⟩, ok.noSys hd0⟩
        · rcases G.at_ a ob e with ⟨o, ho, z⟩ | hk
          · exact .inl ⟨o, .tail _ (.tail _ ho), z⟩
          · exact .inr hk
    · have hp1 := l1 p (List.mem_append_right _ hp)
      rcases List.mem_cons.mp hq with rfl | hq
      · exact Nat.ne_of_lt (Nat.lt_trans hp1 l2)
      · rcases List.mem_cons.mp hq with rfl | hq
        · exact Nat.ne_of_lt hp1
        · exact Dj p hp q hq
  have s1 : Sub σ (upd (upd σ dx (.sdict [])) x (.inst 721 dx)) := Sub.upd2 nx ndx xne
  have I1 : InstIs (upd (upd σ dx (.sdict [])) x (.inst 721 dx)) x 721 dx [] := ⟨upd_same, (upd_ne xne.symm).trans upd_same⟩
  generalize upd (upd σ dx (.sdict [])) x (.inst 721 dx) = σ1 at R1 s1 I1
  clear F1 N1 N F m G Dj
  obtain ⟨mp1, news1, F1, N1, m1, G1, Dj1⟩ := id R1
  obtain ⟨clc, cld, csl, hcell⟩ := cell_T c.w.params
  refine ks_code_super (K := KK c.w.params) (A := c1.A S) (s := c1.sh h1 tk) (env := c1.env S) (outer := c1.outer) (binds := [("self", .ref x)]) ok.B F1 ok.X N1 ok.T rfl rfl hk (fd_T _) (code_T _) (by show c.dp + 1 < recursionLimit; (first | lia | omega)) (BindsTo.of_eq (bind_T _ _)) ?_ (fun g L' h₁ FG F' N' B' X' T' lt' => ?_) (by decide +kernel) (by kernel_rfl) (by kernel_rfl) (by kernel_rfl)
  · intro y hy
    rw [List.mem_singleton] at hy
    subst hy
    kernel_rfl
  let c2 : Cx := ⟨c.w, c.p, c.loose, c.mean, c.mg, c.mb, c1.dp + 1, c1.un + 3, c.gd, (fdTB c.w.params).qualname, 620, (fdTB c.w.params).code, [(("__class__" : Str), 608)], c1.env S :: c.outer, c1.A S, c.base, g, L', (fun e s' => wpAny (model PW c.w) ((c1.A S).deeper (ksEnv (fdTB c.w.params).qualname (fScope stT) L' 620 (fdTB c.w.params).code 608)) (leaving (ksEnv (fdTB c.w.params).qualname (fScope stT) L' 620 (fdTB c.w.params).code 608) e)
      (fun _ s'' => InitBack x (fun r s' => match r with | .ok (.ret v) => ResV c ρ fr Φ v s' | .ok _ => False | .error e => c.E e s') (.error e) s'')
      (fun e' s'' => InitBack x (fun r s' => match r with | .ok (.ret v) => ResV c ρ fr Φ v s' | .ok _ => False | .error e => c.E e s') (.error e') s'') s'), fScope stT, c.gens, c.drawn, c.os⟩
  have ok2 : c2.Ok (n + 4) := by
    refine ⟨B', X', T', ?_, ?_, ?_⟩
    · show c.dp + 1 + 1 + (n + 4) < _; (first | lia | omega)
    · show c.un + 1 + 3 + 8 * (n + 4) + 200 < _; (first | lia | omega)
    · show PassesOwn (model PW c.w) ((c1.A S).deeper (ksEnv (fdTB c.w.params).qualname (fScope stT) L' 620 (fdTB c.w.params).code 608)) (ksEnv (fdTB c.w.params).qualname (fScope stT) L' 620 (fdTB c.w.params).code 608) _
      passes_own
  have Rb : Rel c2 (binds ["self"] [.ref x]) σ1 fr h₁ := ⟨_, news1, F', N', binds_ok (.cons (show V.Is (.ref x) (.ref x) from rfl) .nil) (by decide +kernel), ⟨G1.at_⟩, Dj1⟩
  refine ks_wpAt_mono (tb_body (Ψ := fun σ' => Φ (.ref x) σ') ok2 rfl rfl (cda_T _) rfl Rb I1 fun B F σ2 N hb b hb0 => ?_) (fun fl s' q => ?_) fun _ _ e => e
  · have I2 := N.bank.inst
    rw [N.ea, N.ed] at I2
    have nb : b ≠ dx := fun q => by rw [q, I2.dict] at hb0; cases hb0
    have sb : Sub σ2 (upd σ2 b (.idict [])) := Sub.upd hb0
    have K2 := N.kv.put (v := .ref b) hb (by decide +kernel)
    have A := (N.bank.sub sb).attr K2
    rw [N.ed] at A
    have nf : ∀ {a : Addr}, σ2 a = some (.list []) → upd (upd σ2 b (.idict [])) dx (.sdict (dput B.kvs "bv_numbers" (.ref b))) a = some (.list []) := fun e => (upd_ne (ne_of e I2.dict nofun)).trans (sb _ _ e)
    have := h _ F _ A ⟨K2.f1, K2.f2, K2.f3, by rw [N.n1]; exact nf N.f1, by rw [N.n2]; exact nf N.f2, by rw [N.n3]; exact nf N.f3, N.nd⟩ N.n1 N.n2 N.n3 N.keys fun a ob e => by
      have hne : a ≠ dx := fun q => by rw [q, ndx] at e; cases e
      exact (upd_ne hne).trans (sb _ _ (N.old a ob (s1 _ _ e) hne))
    have this := this fun a ha => by
      cases z : σ a with
      | none => rfl
      | some ob => have := s1 _ _ z; rw [N.new a ha] at this; cases this
    rw [N.ea] at this
    exact this
  · obtain ⟨ρ', σ', h2, tk2, rfl, rfl, R2, q⟩ := q
    obtain ⟨mp2, news2, F2, N2, m2, G2, Dj2⟩ := R2
    refine leaveK_ F2 N2 fun Fc Nc => ?_
    exact ⟨rfl, .ref x, σ', h2, tk2, rfl, ⟨mp1, news2, Fc, Nc, m1, ⟨G2.at_⟩, Dj2⟩, rfl, q⟩
end
end
section
/-! ## _law_more -/
theorem at_more : At 770 (topN PW 33) ["tape", "bank", "kind", "pool"] := ⟨fun P => ⟨by kernel_rfl, by kernel_rfl, by kernel_rfl, fun a b c d => by show bindArgs _ _ = _; kernel_rfl⟩, by kernel_rfl, by decide +kernel⟩
/-- all but the tape stays -/
noncomputable def NSub (σ σ' : Sg) : Prop := ∀ a ob, σ a = some ob → (∀ kvs, ob ≠ .tdict kvs) → σ' a = some ob
theorem Sub.nsub {σ σ' : Sg} (s : Sub σ σ') : NSub σ σ' := fun a ob e _ => s a ob e
theorem NSub.trans {σ σ' σ'' : Sg} (s : NSub σ σ') (t : NSub σ' σ'') : NSub σ σ'' := fun a ob e h => t a ob (s a ob e h) h
theorem NSub.tsub {σ σ' : Sg} (s : NSub σ σ') : TSub σ σ' := fun a vs e => s a _ e fun _ => nofun
theorem BankAt.nsub {σ σ' : Sg} {B : Bk} (s : NSub σ σ') (H : BankAt σ B) : BankAt σ' B where
  inst := ⟨s _ _ H.inst.obj fun _ => nofun, s _ _ H.inst.dict fun _ => nofun⟩
  g1 := H.g1
  g2 := H.g2
  g3 := H.g3
  g4 := H.g4
  g5 := H.g5
  own := H.own
  o1 := s _ _ H.o1 fun _ => nofun
  o2 := s _ _ H.o2 fun _ => nofun
  o3 := s _ _ H.o3 fun _ => nofun
  o4 := s _ _ H.o4 fun _ => nofun
  o5 := s _ _ H.o5 fun _ => nofun
  node := fun n hn => ⟨s.tsub _ _ (H.node n hn).1, (H.node n hn).2.tsub s.tsub⟩
  keys := fun x hx => (H.keys x hx).tsub s.tsub
  find := H.find
  len := H.len
  nd := H.nd
/-- all but the tape and the bank's lists stays -/
noncomputable def NKeeps (B : Bk) (σ σ' : Sg) : Prop := ∀ a ob, σ a = some ob → a ∉ B.mut → (∀ kvs, ob ≠ .tdict kvs) → σ' a = some ob
theorem NSub.keeps {B : Bk} {σ σ' : Sg} (s : NSub σ σ') : NKeeps B σ σ' := fun a ob e _ h => s a ob e h
theorem Keeps.nkeeps {B : Bk} {σ σ' : Sg} (s : Keeps B σ σ') : NKeeps B σ σ' := fun a ob e h _ => s a ob e h
theorem NKeeps.trans {B B' : Bk} {σ σ' σ'' : Sg} (s : NKeeps B σ σ') (x : Ext B B') (t : NKeeps B' σ' σ'') : NKeeps B σ σ'' := fun a ob e h1 h2 => t a ob (s a ob e h1 h2) (by rw [x.mt]; exact h1) h2
theorem BankAt.ndict {σ : Sg} {B : Bk} (H : BankAt σ B) {a : Addr} {kvs : List (Str × V)} (e : σ a = some (.tdict kvs)) : a ∉ B.mut := by
  intro h
  simp only [Bk.mut, List.mem_cons, List.not_mem_nil, or_false] at h
  rcases h with rfl | rfl | rfl | rfl | rfl
  · rw [H.o1] at e; cases e
  · rw [H.o2] at e; cases e
  · rw [H.o3] at e; cases e
  · rw [H.o4] at e; cases e
  · rw [H.o5] at e; cases e
theorem TapeAt.keeps {σ σ' : Sg} {B : Bk} {ta ca : Addr} {cells : List Int} {sp : Nat} (h : TapeAt σ ta ca cells sp) (H : BankAt σ B) (hc : ca ∉ B.mut) (k : Keeps B σ σ') : TapeAt σ' ta ca cells sp :=
  ⟨k _ _ h.tape (H.ndict h.tape), k _ _ h.cell hc, h.len, h.small⟩
section
variable {n : Nat} {σ : Sg} {Φ : V → Sg → Prop}
theorem draw_n {ta ca : Addr} {cells : List Int} {sp w : Nat} (T : TapeAt σ ta ca cells sp) (hs : sp < 10000) (hw : 0 < w)
    (h : ∀ (r : Nat) σ', r < w → TapeAt σ' ta ca cells (sp + 1) → NSub σ σ' → Φ (.int r) σ') : CallOk (n + 1) 730 [.ref ta, .int w] σ Φ :=
  draw_ok T hs hw fun r σ' h1 h2 h3 => h r σ' h1 h2 fun a ob e hn => h3 a ob e fun q => by rw [q, T.tape] at e; exact hn _ (Option.some.inj e).symm
noncomputable def poolV (pool : List Nat) : List V := pool.map fun (t : Nat) => .int t
theorem pick_item {pa : Addr} {pool : List Nat} (hp : σ pa = some (.list (poolV pool))) (hpl : pool.length ≤ 50) {r : Nat} (hr : r < (poolV pool).length) : ∃ t ∈ pool, ISpec σ (.ref pa) (.int r) (.int (t : Int)) := by
  have hr' : r < pool.length := by unfold poolV at hr; rwa [List.length_map] at hr
  exact ⟨pool[r], List.getElem_mem _, ISpec.list hp (Int.natCast_nonneg r) (by (first | lia | omega)) (by unfold poolV; rw [Int.toNat_natCast, List.getElem?_map, List.getElem?_eq_getElem hr']; rfl)⟩
theorem four_sz {i : Int} {k : Nat} (h : i.natAbs ≤ 4) : Sz (12 ^ (k + 1)) (4 ^ (k + 1 + 1)) (i : Rat) := by
  have : Sz 1 4 (i : Rat) := ⟨i, by simp, by (first | lia | omega)⟩
  refine this.mono (Nat.one_dvd _) ?_
  have : 4 ^ 1 ≤ 4 ^ (k + 1 + 1) := Nat.pow_le_pow_right (by decide) (by (first | lia | omega))
  simpa using this
/-- what _law_more hands on -/
noncomputable def More (B : Bk) (σ : Sg) (kind : Int) (things : List Nat) (L : Nat) (ta ca : Addr) (cells : List Int) (sp : Nat) (Φ : V → Sg → Prop) : Prop :=
  ∀ B' σ' (t sp' : Nat), BankAt σ' B' → Lin B'.keys kind things (L + 1) → Ext B B' → B'.nodes.length ≤ B.nodes.length + 25 → NKeeps B σ σ' → NumT B' kind t → TapeAt σ' ta ca cells sp' → sp' ≤ sp + 5 → Φ (.int t) σ'
inductive MoreI (B : Bk) (kind : Int) (things : List Nat) (L sp : Nat) (cells : List Int) (ta ca : Addr) (σ : Sg) (i : Nat) (ρ : Rho) (σ' : Sg) : Prop
  | mk (B' : Bk) (t : Nat) (c0 : ρ = binds ["bank", "one"] [.ref B.a, .int (t : Nat)]) (c1 : BankAt σ' B') (c2 : Lin B'.keys kind things L) (c3 : Ext B B') (c4 : B'.nodes.length ≤ B.nodes.length + i) (c5 : NKeeps B σ σ') (c6 : TapeAt σ' ta ca cells (sp + 1 + 1 + 1 + 1)) (c7 : NumT B' kind t) : MoreI B kind things L sp cells ta ca σ i ρ σ'
theorem more_ok {ta ca pa : Addr} {cells : List Int} {sp : Nat} {B : Bk} {kind : Int} {things : List Nat} {L : Nat} {pool : List Nat} (T : TapeAt σ ta ca cells sp) (hs : sp < 9000) (H : BankAt σ B) (hc : ca ∉ B.mut) (hpm : pa ∉ B.mut)
    (hl : Lin B.keys kind things L) (hL : L ≤ 8) (hz : B.nodes.length ≤ 260) (hk : kind = 1 ∨ kind = 2) (hp : σ pa = some (.list (poolV pool))) (hpl : 0 < pool.length ∧ pool.length ≤ 50) (hpn : ∀ t ∈ pool, NumT B kind t)
    (h : More B σ kind things L ta ca cells sp Φ) : CallOk (n + 7) 770 [.ref ta, .ref B.a, .int kind, .ref pa] σ Φ := by
  refine CallOk.of TT_ok at_more (k := 20) (j := 20) rfl ?_
  refine draw_n (w := 6) T (by (first | lia | omega)) (by decide) fun way σ1 hw T1 s1 => ?_
  have pl : (poolV pool).length = pool.length := List.length_map _
  have hp1 := s1 _ _ hp fun _ => nofun
  refine BSpec.lenL hp1 (by (first | lia | omega)) (draw_n (w := (poolV pool).length) T1 (by (first | lia | omega)) (by (first | lia | omega)) fun r1 σ2 hr1 T2 s2 => ?_)
  have hp2 := s2 _ _ hp1 fun _ => nofun
  obtain ⟨one, h1m, h1i⟩ := pick_item hp2 (by (first | lia | omega)) hr1
  refine ⟨_, h1i, BSpec.lenL hp2 (by (first | lia | omega)) (draw_n (w := (poolV pool).length) T2 (by (first | lia | omega)) (by (first | lia | omega)) fun r2 σ3 hr2 T3 s3 => ?_)⟩
  have hp3 := s3 _ _ hp2 fun _ => nofun
  obtain ⟨other, h2m, h2i⟩ := pick_item hp3 (by (first | lia | omega)) hr2
  refine ⟨_, h2i, ?_⟩
  have s13 := (s1.trans s2).trans s3
  have H3 := H.nsub s13
  refine fun pr hpr => ?_
  have s4 : Sub σ3 (upd σ3 pr (.tup [.int one, .int other])) := Sub.upd hpr
  generalize upd σ3 pr (.tup [.int one, .int other]) = σ4 at s4
  have sN := s13.trans s4.nsub
  have H4 := H3.sub s4
  have T4 := T3.sub s4
  have hp4 := s4 _ _ hp3
  clear s13 H3 T3 hp3 s4 hpr h2i s3 hp2 T2 s2 hp1 T1 s1 h1i
  have n1 := hpn one h1m
  have n2 := hpn other h2m
  have fin : ∀ {σ5 : Sg} {sp5 d : Nat}, NSub σ σ5 → TapeAt σ5 ta ca cells sp5 → BankAt σ5 B → sp5 ≤ sp + 5 → d ≤ 25 → Term B σ5 kind things (L + 1) d (fun v σ' => SubQ (Φ v) σ') := fun sN T5 H5 hsp hd B' σ' t HB L x len K m =>
    ⟨_, Sub.refl, h B' σ' t _ HB L x (by (first | lia | omega)) (sN.keeps.trans .refl K.nkeeps) m (T5.keeps H5 hc K) hsp⟩
  have num : ∀ {t : Nat}, NumT B kind t → ∀ {u : Nat}, NumT B kind u → ∀ x ∈ t :: [u], NumT B kind x := fun h1 _ h2 x hx => by
    rcases List.mem_cons.mp hx with rfl | hx
    · exact h1
    · rw [List.mem_singleton] at hx; subst hx; exact h2
  have lm := hl.mono (Nat.le_succ L)
  refine ⟨fun hb => ?_, fun hb => ?_⟩
  · refine .inl ⟨_, _, _, _, 543, rfl, H4.inst, H4.own _ (by decide +kernel), by kernel_rfl, Nat.le_of_ble_eq_true rfl, fun tp htp => ?_⟩
    have s5 := Sub.upd (ob := .tup [.int one, .int other]) htp
    exact plus_t (t0 := one) (ts := [other]) (H4.sub s5) lm (by (first | lia | omega)) hk (.inr upd_same) (by simp) (num n1 n2) (fin (sN.trans s5.nsub) (T4.sub s5) (H4.sub s5) (by (first | lia | omega)) (by (first | lia | omega)))
  refine ⟨fun hb => ?_, fun hb => ?_⟩
  · refine .inl ⟨_, _, _, _, 543, rfl, H4.inst, H4.own _ (by decide +kernel), by kernel_rfl, ?_⟩
    have s5 : True := trivial
    refine BSpec.lenL hp4 (by (first | lia | omega)) (draw_n (w := (poolV pool).length) T4 (by (first | lia | omega)) (by (first | lia | omega)) fun r3 σ5 hr3 T5 s5 => ?_)
    have hp5 := s5 _ _ hp4 fun _ => nofun
    obtain ⟨third, h3m, h3i⟩ := pick_item hp5 (by (first | lia | omega)) hr3
    refine ⟨_, h3i, Nat.le_of_ble_eq_true rfl, fun tp htp => ?_⟩
    have s6 := Sub.upd (ob := .tup [.int one, .int other, .int third]) htp
    have H5 := H4.nsub s5
    refine plus_t (t0 := one) (ts := [other, third]) (H5.sub s6) lm (by (first | lia | omega)) hk (.inr upd_same) (by simp) (fun x hx => ?_) (fin ((sN.trans s5).trans s6.nsub) (T5.sub s6) (H5.sub s6) (by (first | lia | omega)) (by (first | lia | omega)))
    rcases List.mem_cons.mp hx with rfl | hx
    · exact n1
    · exact num n2 (hpn third h3m) x hx
  refine ⟨fun hb => ?_, fun hb => ?_⟩
  · refine .inl ⟨_, _, _, _, 578, rfl, H4.inst, H4.own _ (by decide +kernel), by kernel_rfl, ?_⟩
    exact minus_t H4 hl hL (by (first | lia | omega)) hk n1 n2 (fin sN T4 H4 (by (first | lia | omega)) (by (first | lia | omega)))
  refine ⟨fun hb => ?_, fun hb => ?_⟩
  · refine .inl ⟨_, _, _, _, 543, rfl, H4.inst, H4.own _ (by decide +kernel), by kernel_rfl, ?_⟩
    refine .inl ⟨_, _, _, _, 571, rfl, H4.inst, H4.own _ (by decide +kernel), by kernel_rfl, ?_⟩
    refine negative_t H4 hl hL (by (first | lia | omega)) hk n1 fun B1 σ5 t1 H5 L5 x5 l5 K5 m5 => ?_
    have I5 := H5.inst
    rw [x5.a] at I5
    have T5 := T4.keeps H4 hc K5
    refine .inl ⟨_, _, _, _, 529, rfl, I5, H5.own _ (by decide +kernel), by kernel_rfl, ?_⟩
    refine draw_n (w := 9) T5 (by (first | lia | omega)) (by decide) fun r3 σ6 hr3 T6 s6 => ?_
    refine ⟨Nat.le_of_ble_eq_true rfl, fun np hnp => ?_⟩
    have H6 := H5.nsub s6
    have s7 := Sub.upd (ob := .tup [.int ((r3 : Int) - 4), .int 1]) hnp
    have zr : Sz (12 ^ (L + 1)) (4 ^ (L + 1 + 1)) (((r3 : Int) - 4 : Int) : Rat) := four_sz (by (first | lia | omega))
    have T7 := T6.sub s7
    have N7 : NKeeps B σ (upd σ6 np (.tup [.int ((r3 : Int) - 4), .int 1])) := (sN.keeps.trans .refl K5.nkeeps).trans x5 (s6.trans s7.nsub).keeps
    have := num_t (n := n + 4) (L := L + 1) (r := (((r3 : Int) - 4 : Int) : Rat)) (Φ := fun v σ' => ∃ t2 : Nat, v = .int t2 ∧ ∃ B2, BankAt σ' B2 ∧ Lin B2.keys kind things (L + 1) ∧ Ext B1 B2 ∧ B2.nodes.length ≤ B1.nodes.length + 1 ∧ Keeps B1 (upd σ6 np (.tup [.int ((r3 : Int) - 4), .int 1])) σ' ∧ NumT B2 kind t2)
      (H6.sub s7) L5 (by (first | lia | omega)) (by (first | lia | omega)) hk upd_same zr (fun _ => rfl) (fun B2 σ8 t2 H8 L8 x8 l8 K8 m8 => ⟨t2, rfl, B2, H8, L8, x8, l8, K8, m8⟩)
    rw [x5.a] at this
    refine this.mono fun v σ8 q => ?_
    obtain ⟨t2, rfl, B2, H8, L8, x8, l8, K8, m8⟩ := q
    clear this
    refine ⟨Nat.le_of_ble_eq_true rfl, fun tp htp => ?_⟩
    have s9 := Sub.upd (ob := .tup [.int t1, .int t2]) htp
    have x58 := x5.trans x8
    have hc1 : ca ∉ B1.mut := by rw [x5.mt]; exact hc
    have T8 := (T7.keeps (H6.sub s7) hc1 K8).sub s9
    have N8 : NKeeps B σ (upd σ8 tp (.tup [.int t1, .int t2])) := (N7.trans x5 K8.nkeeps).trans x58 s9.nsub.keeps
    have hc2 : ca ∉ B2.mut := by rw [x58.mt]; exact hc
    have := plus_t (n := n + 3) (t0 := t1) (ts := [t2]) (Φ := fun v σ' => SubQ (Φ v) σ') (H8.sub s9) L8 (by (first | lia | omega)) hk (.inr upd_same) (by simp) (fun x hx => by
      rcases List.mem_cons.mp hx with rfl | hx
      · exact NumT.ext x8 m5
      · rw [List.mem_singleton] at hx; subst hx; exact m8) fun B3 σ10 t3 H10 L10 x10 l10 K10 m10 => ⟨_, Sub.refl, h B3 σ10 t3 _ H10 L10 (x58.trans x10) (by (first | lia | omega)) (N8.trans x58 K10.nkeeps) m10 (T8.keeps (H8.sub s9) hc2 K10) (by (first | lia | omega))⟩
    rw [x58.a] at this
    exact this
  refine ⟨fun hb => ?_, fun hb => ?_⟩
  · refine .inl ⟨_, _, _, _, 550, rfl, H4.inst, H4.own _ (by decide +kernel), by kernel_rfl, ?_⟩
    refine draw_n (w := 9) T4 (by (first | lia | omega)) (by decide) fun r3 σ5 hr3 T5 s5 => ?_
    have last : ∀ {σ6 : Sg} {b : Nat} {sp6 : Nat}, 0 < b → b ≤ 4 → (kind = 1 → b = 1) → BankAt σ6 B → TapeAt σ6 ta ca cells sp6 → NSub σ σ6 → sp6 ≤ sp + 5 →
        CallOk (n + 6) 737 [.int ((r3 : Int) - 4), .int b] σ6 (fun v σ' => CallOk (n + 6) 550 [.ref B.a, v, .int one] σ' fun v σ' => SubQ (Φ v) σ') := fun {σ6 b sp6} hb0 hb4 hb1 H6 T6 sN6 hsp => by
      refine lowestR (n := n + 5) hb0 (Nat.lt_of_le_of_lt hb4 (by decide +kernel)) fun q hq => ?_
      have s7 := Sub.upd (ob := frac (mkRat ((r3 : Int) - 4) b)) hq
      have hd : b ∣ 12 := by
        rcases (show b = 1 ∨ b = 2 ∨ b = 3 ∨ b = 4 by (first | lia | omega)) with rfl | rfl | rfl | rfl <;> decide
      exact timesnum_t (n := n + 2) (c := mkRat ((r3 : Int) - 4) b) (H6.sub s7) hl hL (by (first | lia | omega)) hk upd_same (Sz.mk hb0 hd (by (first | lia | omega))) (fun e => by rw [hb1 e]; exact (mk_one _).2) n1 (fin (sN6.trans s7.nsub) (T6.sub s7) (H6.sub s7) hsp (by (first | lia | omega)))
    refine ⟨fun hk2 => ?_, fun hk2 => ?_⟩
    · have k2 : kind = 2 := by simpa using hk2
      refine draw_n (w := 4) T5 (by (first | lia | omega)) (by decide) fun r4 σ6 hr4 T6 s6 => ?_
      have e : (1 : Int) + (r4 : Int) = ((1 + r4 : Nat) : Int) := by (first | lia | omega)
      have z := last (by (first | lia | omega)) (by (first | lia | omega)) (fun e => by (first | lia | omega)) (H4.nsub (s5.trans s6)) T6 (sN.trans (s5.trans s6)) (b := 1 + r4) (by (first | lia | omega))
      rw [← e] at z
      exact z
    · have k1 : kind = 1 := by
        have : kind ≠ 2 := by simpa using hk2
        (first | lia | omega)
      exact last (b := 1) (by (first | lia | omega)) (by (first | lia | omega)) (fun _ => rfl) (H4.nsub s5) T5 (sN.trans s5) (by (first | lia | omega))
  refine draw_n (w := 19) T4 (by (first | lia | omega)) (by decide) fun r3 σ5 hr3 T5 s5 => ?_
  refine TSpec.range fun ra t u v hra => ?_
  have er : rangeObj (2 + (r3 : Int)) t u v = rangeObj ((2 + r3 : Nat) : Int) t u v := by congr 1
  have s6 := Sub.upd (ob := .raw (rangeObj (2 + (r3 : Int)) t u v)) hra
  have e6 : upd σ5 ra (.raw (rangeObj (2 + (r3 : Int)) t u v)) ra = some (.raw (rangeObj ((2 + r3 : Nat) : Int) t u v)) := by rw [← er]; exact upd_same
  have T6 := T5.sub s6
  have N6 := sN.trans (s5.trans s6.nsub)
  have H6 := (H4.nsub s5).sub s6
  generalize upd σ5 ra (.raw (rangeObj (2 + (r3 : Int)) t u v)) = σ6 at s6 e6 T6 N6 H6
  refine ⟨σ6, 2 + r3, _, _, (MoreI B kind things L sp cells ta ca σ), SrcSpec.range e6 (by (first | lia | omega)), ⟨_, σ6, ?_, Sub.refl, B, one, rfl, H6, hl, .refl, Nat.le_refl _, N6.keeps, T6, n1⟩, fun _ _ _ _ => trivial, ?_, ?_⟩
  · exact rsub_cons (rsub_cons rsub_nil rfl) rfl
  · rintro i ρ σ' v hi ⟨B', t, rfl, H', L', x', l', N', T', m'⟩ rfl
    rw [← x'.a]
    refine .inl ⟨_, _, _, _, 543, rfl, H'.inst, H'.own _ (by decide +kernel), by kernel_rfl, Nat.le_of_ble_eq_true rfl, fun tp htp => ?_⟩
    have s9 := Sub.upd (ob := .tup [.int t, .int t]) htp
    have hc' : ca ∉ B'.mut := by rw [x'.mt]; exact hc
    refine plus_t (n := n + 3) (t0 := t) (ts := [t]) (H'.sub s9) L' (by (first | lia | omega)) hk (.inr upd_same) (by simp) (fun x hx => ?_) fun B3 σ10 t3 H10 L10 x10 l10 K10 m10 => ?_
    · rcases List.mem_cons.mp hx with rfl | hx
      · exact m'
      · rw [List.mem_singleton] at hx; subst hx; exact m'
    exact ⟨_, _, rsub_cons (rsub_cons rsub_nil rfl) (by rw [← x'.a]; rfl), Sub.refl, B3, t3, rfl, H10, L10, x'.trans x10, by (first | lia | omega), (N'.trans x' s9.nsub.keeps).trans x' K10.nkeeps, (T'.sub s9).keeps (H'.sub s9) hc' K10, m10⟩
  · rintro ρ σ' ⟨B', t, rfl, H', L', x', l', N', T', m'⟩
    exact ⟨_, Sub.refl, h B' σ' t _ H' (L'.mono (Nat.le_succ L)) x' (by (first | lia | omega)) N' m' T' (by (first | lia | omega))⟩
end
end
section
/-! ## what a form tells, plainly -/
noncomputable def coef (P : RL) (k : Nat) : Rat := (rget P (k : Int)).getD 0
noncomputable def tab (l : List Nat) (f : Nat → Rat) : RL := l.map fun (j : Nat) => ((j : Int), f j)
noncomputable def dues (P : RL) (l : List Nat) : RL := (tab l (coef P)).filter fun x => decide (x.2 ≠ 0)
theorem S_congr {P : RL} {f g : Nat → Rat} (h : ∀ x ∈ P, f x.1.toNat = g x.1.toNat) : S P f = S P g := by
  unfold S
  rw [List.map_congr_left fun x hx => by rw [h x hx]]
theorem S_zero {P : RL} : S P (fun _ => 0) = 0 := by
  induction P with
  | nil => rfl
  | cons x P ih => rw [S_cons, ih]; grind
noncomputable def ind (k : Nat) : Nat → Rat := fun j => if j = k then 1 else 0
theorem S_ind {k : Nat} : ∀ {P : RL}, (P.map (·.1)).Nodup → (∀ x ∈ P, ∃ j : Nat, x.1 = (j : Int)) → S P (ind k) = coef P k := by
  intro P
  induction P with
  | nil => intro _ _; rfl
  | cons x P ih =>
    intro hn hj
    rw [List.map_cons, List.nodup_cons] at hn
    have ih' := ih hn.2 fun y hy => hj y (.tail _ hy)
    obtain ⟨j, e⟩ := hj x (.head _)
    rw [S_cons, ih', e, Int.toNat_natCast]
    unfold coef rget ind
    rw [List.find?_cons]
    by_cases q : j = k
    · subst q
      have hnone : rget P (j : Int) = none := rget_none.mpr fun y hy z => hn.1 (List.mem_map.mpr ⟨y, hy, z.trans e.symm⟩)
      unfold rget at hnone
      rw [hnone]
      simp [e]
      grind
    · have : ¬ x.1 = (k : Int) := by (first | lia | omega)
      simp [this, q]
      grind
theorem FormRes.val {ks : List Nd} {things : List Nat} {kind : Int} {L t N : Nat} {P : RL} {C : Rat} (H : Lin ks kind things L) (F : FormRes ks things L t N P C) (pt : Nat → Rat) : valOf ks things pt t = C + S P pt := by
  rw [F.id _ (valOf_lin H)]
  congr 1
  refine S_congr fun x hx => ?_
  obtain ⟨j, e, _, hj⟩ := F.pk.at_ x hx
  rw [e, Int.toNat_natCast]
  exact valOf_thing hj
theorem tab_keys {l : List Nat} {f : Nat → Rat} : (tab l f).map (·.1) = l.map fun (j : Nat) => (j : Int) := by unfold tab; rw [List.map_map]; rfl
theorem keys_nodup {l : List Nat} (h : l.Nodup) : (l.map fun (j : Nat) => (j : Int)).Nodup := by
  induction l with
  | nil => exact List.nodup_nil
  | cons x l ih =>
    rw [List.nodup_cons] at h
    rw [List.map_cons, List.nodup_cons]
    refine ⟨fun hm => ?_, ih h.2⟩
    obtain ⟨y, hy, e⟩ := List.mem_map.mp hm
    have : y = x := by (first | lia | omega)
    subst this
    exact h.1 hy
theorem tab_get {l : List Nat} {f : Nat → Rat} {k : Nat} : rget (tab l f) (k : Int) = if k ∈ l then some (f k) else none := by
  induction l with
  | nil => simp [tab, rget]
  | cons x l ih =>
    unfold rget tab at ih ⊢
    rw [List.map_cons, List.find?_cons]
    by_cases q : x = k
    · subst q; simp
    · have : ¬ (x : Int) = (k : Int) := by (first | lia | omega)
      have h2 : (k ∈ x :: l) ↔ k ∈ l := by simp [Ne.symm q]
      simp only [this, decide_false]
      rw [ih]
      by_cases hm : k ∈ l
      · rw [if_pos hm, if_pos (h2.mpr hm)]
      · rw [if_neg hm, if_neg (fun z => hm (h2.mp z))]
theorem tab_put {l : List Nat} {k : Nat} (h : k ∈ l) : rput (tab l fun _ => 0) (k : Int) 1 = tab l (ind k) := by
  unfold rput
  rw [if_pos (by rw [List.any_eq_true]; exact ⟨((k : Int), 0), List.mem_map.mpr ⟨k, h, rfl⟩, by simp⟩)]
  unfold tab
  rw [List.map_map]
  refine List.map_congr_left fun j _ => ?_
  unfold ind
  by_cases q : j = k
  · subst q; simp
  · have : ¬ (j : Int) = (k : Int) := by (first | lia | omega)
    simp [q, this]
theorem dues_snoc {P : RL} {l : List Nat} {k : Nat} : dues P (l ++ [k]) = if coef P k = 0 then dues P l else dues P l ++ [((k : Int), coef P k)] := by
  unfold dues tab
  rw [List.map_append, List.filter_append]
  by_cases h : coef P k = 0
  · rw [if_pos h]; simp [h]
  · rw [if_neg h]; simp [h]
theorem dues_mem {P : RL} {l : List Nat} {x : Int × Rat} : x ∈ dues P l ↔ ∃ k ∈ l, x = ((k : Int), coef P k) ∧ coef P k ≠ 0 := by
  unfold dues tab
  rw [List.mem_filter, List.mem_map]
  constructor
  · rintro ⟨⟨k, hk, rfl⟩, h⟩
    exact ⟨k, hk, rfl, by simpa using h⟩
  · rintro ⟨k, hk, rfl, h⟩
    exact ⟨⟨k, hk, rfl⟩, by simpa using h⟩
theorem dues_nodup {P : RL} {l : List Nat} (h : l.Nodup) : ((dues P l).map (·.1)).Nodup := by
  have : ((tab l (coef P)).map (·.1)).Nodup := by rw [tab_keys]; exact keys_nodup h
  exact this.sublist (List.filter_sublist.map _)
theorem dues_none {P : RL} {l : List Nat} {k : Nat} (h : k ∉ l) : rget (dues P l) (k : Int) = none := by
  rw [rget_none]
  intro x hx e
  obtain ⟨j, hj, rfl, _⟩ := dues_mem.mp hx
  have : j = k := by dsimp only at e; (first | lia | omega)
  subst this
  exact h hj
theorem dues_all {P : RL} {things : List Nat} (hk : PK things 0 P) {x : Int × Rat} : x ∈ P ↔ x ∈ dues P things := by
  rw [dues_mem]
  constructor
  · intro hx
    obtain ⟨j, e, _, hj⟩ := hk.at_ x hx
    have g := rget_of hk.nd hx
    have : coef P j = x.2 := by unfold coef; rw [← e, g]; rfl
    refine ⟨j, hj, ?_, by rw [this]; exact hk.nz x hx⟩
    rw [this, ← e]
  · rintro ⟨k, _, rfl, h⟩
    unfold coef at h ⊢
    cases e : rget P (k : Int) with
    | none => rw [e] at h; exact absurd rfl h
    | some r => exact rget_mem e
theorem nodup_of_map {α β : Type} {l : List α} (f : α → β) (h : (l.map f).Nodup) : l.Nodup := by
  induction l with
  | nil => exact List.nodup_nil
  | cons x l ih =>
    rw [List.map_cons, List.nodup_cons] at h
    rw [List.nodup_cons]
    exact ⟨fun hm => h.1 (List.mem_map.mpr ⟨x, hm, rfl⟩), ih h.2⟩
theorem dues_len {P : RL} {things : List Nat} (hk : PK things 0 P) (hn : things.Nodup) : P.length = (dues P things).length := by
  have n1 : P.Nodup := by
    have := hk.nd
    exact nodup_of_map _ this
  have n2 : (dues P things).Nodup := nodup_of_map _ (dues_nodup hn)
  exact ((List.perm_ext_iff_of_nodup n1 n2).mpr fun x => dues_all hk).length_eq
section
variable {σ : Sg} {kb : List (Int × V)} {D : RL}
theorem hits_all (hb : DR σ kb D) (hn : (D.map (·.1)).Nodup) : ∀ {ka : List (Int × V)} {P : RL}, DR σ ka P → (∀ x ∈ P, x ∈ D) → Hits σ kb ka true := by
  intro ka P h
  induction h with
  | nil => intro _; exact .nil
  | @cons k a r kvs W e _ ih =>
    intro hm
    obtain ⟨b, h1, h2⟩ := hb.some (rget_of hn (hm (k, r) (.head _)))
    have := Hits.hit h1 e h2 (ih fun x hx => hm x (.tail _ hx))
    simpa using this
theorem PtAt.of {pa : Addr} {kvs : List (Int × V)} {things : List Nat} {f : Nat → Rat} (e : σ pa = some (.idict kvs)) (h : DR σ kvs (tab things f)) (hl : things.length ≤ 100) : PtAt σ pa things f :=
  ⟨kvs, e, fun i hi => h.some (by rw [tab_get, if_pos hi]), fun i hi => h.none (by rw [tab_get, if_neg hi]), by rw [h.length]; unfold tab; rw [List.length_map]; exact hl⟩
end
theorem frac_neg {r : Rat} : frac (-r) = .tup [.int (0 - r.num), .int r.den] := by
  unfold frac
  rw [Rat.neg_num, Rat.neg_den, Int.zero_sub]
end
section
open PyProof.Rows.LCg
/-! ## list comprehensions -/
section
variable {c : Cx} {S : Scope} {ρ : Rho} {σ : Sg} {n : Nat} {fr : Led} {h : Heap} {Φ : V → Sg → Prop} {elt : PySem.Expr} {cenv : Env}
theorem Rel.frSub (R : Rel c ρ σ fr h) {fr' : Led} (hs : ∀ p ∈ fr', p ∈ fr) : Rel c ρ σ fr' h := by
  obtain ⟨mp, news, F, N, m, G, D⟩ := R
  exact ⟨mp, news, F, fun p hp => N p (by rcases List.mem_append.mp hp with q | q; · exact List.mem_append_left _ q
                                          · exact List.mem_append_right _ (hs p q)), m, G, fun p hp => D p (hs p hp)⟩
theorem Rel.addFr (R : Rel c ρ σ fr h) {h' : Heap} {o : Obj} (ho : h'.get? h.objs.size = some o) (k : ∀ b o, h.get? b = some o → h'.get? b = some o) : Rel c ρ σ ((h.objs.size, o) :: fr) h' ∧ ∀ p ∈ fr, p.1 ≠ h.objs.size := by
  obtain ⟨mp, news, F, N, m, G, D⟩ := R
  have lt : ∀ p ∈ news ++ fr, p.1 ≠ h.objs.size := fun p hp => Nat.ne_of_lt (Heap.lt_size (N p hp).1)
  refine ⟨⟨mp, news, ⟨F.ns.keeps k, fun b o e => k b o (F.keep b o e), F.above⟩, fun p hp => ?_, m, G, fun p hp q hq => ?_⟩, fun p hp => lt p (List.mem_append_right _ hp)⟩
  · rcases List.mem_append.mp hp with q | q
    · exact ⟨k _ _ (N p (List.mem_append_left _ q)).1, (N p (List.mem_append_left _ q)).2⟩
    · rcases List.mem_cons.mp q with rfl | q
      · refine ⟨ho, Nat.ne_of_gt F.ns.lt, ?_⟩
        cases z : c.h₀.get? h.objs.size with
        | none => rfl
        | some o => exact absurd (Heap.lt_size (F.keep _ _ z)) (Nat.lt_irrefl _)
      · exact ⟨k _ _ (N p (List.mem_append_right _ q)).1, (N p (List.mem_append_right _ q)).2⟩
  · rcases List.mem_cons.mp hp with rfl | hp
    · exact (lt q (List.mem_append_left _ hq)).symm
    · exact D p hp q hq
/-- an expression's evaluation in a comprehension's block; it does not raise; Z: objects that stand -/
noncomputable def EvC (c : Cx) (S : Scope) (t : Sem Value) (Z : Led) (ρ : Rho) (σ : Sg) (Φ : V → Sg → Prop) : Prop :=
  ∀ fr h tk, (∀ p ∈ Z, p ∈ fr) → Rel c ρ σ fr h → wpAny (model PW c.w) (c.A S) t (ResV c ρ fr Φ) (fun _ _ => False) (c.sh h tk)
noncomputable abbrev Cx.q (c : Cx) : Cx := { c with E := fun _ _ => False }
theorem Cx.Ok.q (ok : c.Ok n) : c.q.Ok n := ⟨ok.B, ok.X, ok.T, ok.hd, ok.hu, PassesOwn.never⟩
theorem Rel.q (R : Rel c ρ σ fr h) : Rel c.q ρ σ fr h := let ⟨mp, news, F, N, m, G, D⟩ := R; ⟨mp, news, F, N, m, ⟨G.at_⟩, D⟩
theorem Rel.unq (R : Rel c.q ρ σ fr h) : Rel c ρ σ fr h := let ⟨mp, news, F, N, m, G, D⟩ := R; ⟨mp, news, F, N, m, ⟨G.at_⟩, D⟩
theorem comp_step {C D : Addr} {oC : Obj} {ys : List Value} {tk : Nat} {K : Shared → Prop} {E1 E2 : Value → Shared → Prop} (R : Rel c ρ σ ((C, oC) :: (D, lst ys) :: fr) h) (hCD : C ≠ D) (hC : ∀ p ∈ fr, p.1 ≠ C) (hD : ∀ p ∈ fr, p.1 ≠ D) (he : EvC c S (eval elt cenv) [(C, oC)] ρ σ Φ) (hz : ys.length ≤ sizeLine)
    (hK : ∀ y v σ' h' tk', v.Is y → Φ v σ' → Rel c ρ σ' ((C, oC) :: (D, lst (ys ++ [y])) :: fr) h' → K (c.sh h' tk')) :
    wpAny (model PW c.w) (c.A S) (eval elt cenv) (fun x s₄ => wpAny (model PW c.w) (c.A S) (call (.builtin "list.append") [.ref D, x]) (fun _ s₅ => K s₅) E1 s₄) E2 (c.sh h tk) := by
  refine wpAny_mono (he _ h tk (fun p hp => by rw [List.mem_singleton] at hp; subst hp; exact .head _) R) (fun y s₄ q => ?_) fun _ _ e => e.elim
  obtain ⟨v, σ', h4, tk4, rfl, R4, iv, q⟩ := q
  have zD := R4.at_fr (p := (D, lst ys)) (.tail _ (.head _))
  refine append_at (hsz := by show ys.toArray.size ≤ sizeLine; rw [List.size_toArray]; exact hz) zD fun h5 hs5 hD5 => ?_
  refine hK y v σ' h5 tk4 iv q ?_
  have zC := R4.at_fr (p := (C, oC)) (.head _)
  refine Rel.turnS (Z := [(C, oC), (D, lst ys)]) (Z' := [(C, oC), (D, lst (ys ++ [y]))]) R4 (fun p hp hm => ?_) (fun b o hb e => hs5.extBut b o (fun q => hb (by simp [q])) e) rfl fun p hp => ?_
  · simp only [List.map_cons, List.map_nil, List.mem_cons, List.not_mem_nil, or_false] at hm
    rcases hm with q | q
    · exact hC p hp q
    · exact hD p hp q
  · simp only [List.mem_cons, List.not_mem_nil, or_false] at hp
    rcases hp with rfl | rfl
    · exact hs5.extBut _ _ hCD zC
    · exact hD5.trans (congrArg some (lst_snoc ys y))
end
end
section
open PyProof.Rows.LCg
section
variable {c : Cx} {S : Scope} {ρ : Rho} {σ : Sg} {n : Nat} {fr : Led} {h : Heap} {Φ : V → Sg → Prop} {elt iter : PySem.Expr} {pos px : Pos} {x : Str}
noncomputable def SelfIt (c : Cx) (S : Scope) (I : Addr) (need : Sg → Prop) (St : Nat → Obj → Prop) : Prop := ∀ i ρ σ fr h tk it, need σ → Rel c ρ σ ((I, it) :: fr) h → St i it → ∀ (Q : Value → Shared → Prop) E, Q (.ref I) (c.sh h tk) → wpAny (model PW c.w) (c.A S) (pyIter (.ref I)) Q E (c.sh h tk)
noncomputable def SourceC (c : Cx) (S : Scope) (v : V) (σ σ' : Sg) (n : Nat) (P : Nat → V → Prop) (need : Sg → Prop) : Prop :=
  ∀ ρ fr h tk u, Rel c ρ σ fr h → v.Is u → ∀ (Q : Value → Shared → Prop) E,
    (∀ I it h' tk' St, Rel c ρ σ' ((I, it) :: fr) h' → (∀ p ∈ fr, p.1 ≠ I) → Turns c S I n P need St → SelfIt c S I need St → St 0 it → Q (.ref I) (c.sh h' tk')) → wpAny (model PW c.w) (c.A S) (pyIter u) Q E (c.sh h tk)
theorem SourceC.list (ok : c.Ok n) {a : Addr} {vs : List V} (e : σ a = some (.list vs)) : SourceC c S (.ref a) σ σ vs.length (fun i v => vs[i]? = some v) (fun σ => σ a = some (.list vs)) := by
  intro ρ fr h tk u R hu Q E hQ
  obtain rfl : u = .ref a := hu
  obtain ⟨o, hg, ⟨us, m, rfl, hvs⟩, _⟩ := R.obj ok e
  have hl : h.IsList a us.toArray := ⟨_, hg, rfl, m, rfl⟩
  have P := R.pushFr ok { cls := .type "list_iterator", data := .fields #[.ref a, .int 0 0] } rfl
  refine wpAny_pyIter_list (s := c.sh h tk) hl (hQ _ _ _ tk _ P.1 P.2 (Turns.list ok a vs) (fun i ρ σ fr h tk it hn R hs Q E hq => ?_) ⟨rfl, rfl⟩)
  obtain ⟨o, hg, ⟨us, m, rfl, hvs⟩, _⟩ := R.obj ok hn
  exact (Walks.list (prog := PW) (w := c.w) (A := c.A S) rfl _ a (R.neFr ok hn) us.toArray).self i (c.sh h tk) Q E ⟨⟨it, R.atFr, hs⟩, ⟨_, hg, rfl, m, rfl⟩⟩ hq
theorem SourceC.tuple (ok : c.Ok n) {a : Addr} {vs : List V} (e : σ a = some (.tup vs)) : SourceC c S (.ref a) σ σ vs.length (fun i v => vs[i]? = some v) (fun σ => σ a = some (.tup vs)) := by
  intro ρ fr h tk u R hu Q E hQ
  obtain rfl : u = .ref a := hu
  obtain ⟨o, hg, ⟨us, m, rfl, hvs⟩, _⟩ := R.obj ok e
  have hl : h.IsTuple a us.toArray := ⟨_, hg, rfl, m, rfl⟩
  have P := R.pushFr ok { cls := .type "tuple_iterator", data := .fields #[.ref a, .int 0 0] } rfl
  refine wpAny_pyIter_tuple (s := c.sh h tk) hl (hQ _ _ _ tk _ P.1 P.2 (Turns.tuple ok a vs) (fun i ρ σ fr h tk it hn R hs Q E hq => ?_) ⟨rfl, rfl⟩)
  obtain ⟨o, hg, ⟨us, m, rfl, hvs⟩, _⟩ := R.obj ok hn
  exact (Walks.tuple (prog := PW) (w := c.w) (A := c.A S) rfl _ a (R.neFr ok hn) us.toArray).self i (c.sh h tk) Q E ⟨⟨it, R.atFr, hs⟩, ⟨_, hg, rfl, m, rfl⟩⟩ hq
/-- what a comprehension asks of its source: J i ys holds after i turns -/
inductive CompK (c : Cx) (S : Scope) (scope : Scope) (cl : List (Str × Addr)) (x : Str) (elt : PySem.Expr) (Φ : V → Sg → Prop) (v : V) (ρ : Rho) (σ : Sg) : Prop
  | mk (σ' : Sg) (N : Nat) (P : Nat → V → Prop) (need : Sg → Prop) (J : Nat → List V → Sg → Prop) (s : SourceC c S v σ σ' N P need) (i : SubQ (J 0 []) σ') (z : N ≤ sizeLine) (n : ∀ i ys σ, J i ys σ → need σ)
    (st : ∀ i ys σ v, i < N → J i ys σ → P i v → ∀ C oC m u, NsObj oC m → m x = some u → v.Is u → EvC c S (eval elt (compEnvC scope cl C (c.env S))) [(C, oC)] ρ σ fun y σ' => SubQ (J (i + 1) (ys ++ [y])) σ')
    (dn : ∀ ys σ, J N ys σ → ∀ r, σ r = none → Φ (.ref r) (upd σ r (.list ys))) : CompK c S scope cl x elt Φ v ρ σ
inductive CompI (c : Cx) (ρ : Rho) (J : Nat → List V → Sg → Prop) (D I : Addr) (C : Addr) (fr : Led) (St : Nat → Obj → Prop) (N k : Nat) (s' : Shared) : Prop
  | mk (h' : Heap) (tk i : Nat) (it oC : Obj) (m : Str → Option Value) (yv : List V) (ys : List Value) (σ : Sg) (e : s' = c.sh h' tk) (l : i ≤ N) (ek : k = N + 1 - i) (yl : ys.length = i) (yi : VIs yv ys) (j : J i yv σ) (st : St i it) (ns : NsObj oC m) (R : Rel c ρ σ ((C, oC) :: (D, lst ys) :: (I, it) :: fr) h') : CompI c ρ J D I C fr St N k s'
theorem Ev.comp (ok : c.Ok n) {scope : Scope} {cl : List (Str × Addr)} (hclos : closureFor scope (c.env S) = pure cl) (hcell : ∀ y ∈ scope.names, y.2 ≠ .cell) (hkind : scope.kind = .function)
    (hnames : ∀ y ∈ scope.names, y.2 = .local → scope.names.lookup y.1 = some .local) (hx : scope.names.lookup x = some .local) (hs : ∀ x, foldedSetIterable iter (c.env S) x = pure x)
    (h : EvV c S (eval iter (c.env S)) ρ σ fun v σ₁ => CompK c S scope cl x elt Φ v ρ σ₁) : EvV c S (eval (.ListComp elt [⟨.Name x px, iter, [], 0⟩] scope pos) (c.env S)) ρ σ Φ := by
  intro fr h' tk R
  rw [eval_ListComp]
  refine wpAny_comprehension_free (use := none) rfl hs hclos hkind hnames (wpAny_mono (h fr h' tk R) (fun u s₁ q => ?_) fun _ _ e => e)
  obtain ⟨v, σ₁, h₁, tk₁, rfl, R₁, iv, σ', N, P, need, J, hsrc, ⟨σ₀, hs0, h0⟩, hN, hneed, step, done⟩ := q
  refine hsrc ρ fr h₁ tk₁ u R₁ iv _ _ fun I it h₂ tk₂ St R₂ hI T hself st0 => ?_
  have R₂ := R₂.narrow .refl hs0
  refine wpAny_newObj_type (wpAny_newFunctionEnv hcell (by intro y hy; simp at hy) (fun h₃ hns₃ hsb₃ => ?_) hkind)
  dsimp only at hns₃ hsb₃ ⊢
  obtain ⟨RD, hD⟩ := R₂.pushFr ok (lst []) rfl
  have eH : h₂.push { cls := .type "list", dict := none, data := .seq ([] : List Value).toArray } = h₂.push (lst []) := rfl
  rw [eH] at hns₃ hsb₃ ⊢
  generalize hH2 : h₂.push (lst []) = H2 at hns₃ hsb₃ RD ⊢
  obtain ⟨oC, heC, hoC⟩ := ns_obj hns₃
  obtain ⟨RC, hCf⟩ := RD.addFr (h' := h₃) heC fun b o e => hsb₃.extBut b o (Nat.ne_of_lt (Heap.lt_size e)) (Heap.get?_push_of_some _ e)
  generalize hDd : h₂.objs.size = D at RD hD RC hCf ⊢
  generalize hCc : H2.objs.size = C at RC hCf ⊢
  have hCD : C ≠ D := Ne.symm (hCf _ (.head _))
  have hCI : I ≠ C := hCf (I, it) (.tail _ (.head _))
  have hDI : I ≠ D := hD (I, it) (.head _)
  have hDf : ∀ p ∈ fr, p.1 ≠ D := fun p hp => hD p (.tail _ hp)
  have hCf' : ∀ p ∈ fr, p.1 ≠ C := fun p hp => hCf p (.tail _ (.tail _ hp))
  have loop : ∀ tk, codeAny (model PW c.w) (c.A S) (.compLoop (.ListComp elt [⟨.Name x px, iter, [], 0⟩] scope pos) 0 (.ref I) (.ref D) (compEnvC scope cl C (c.env S)))
      (compPost (model PW c.w) (c.A S) c.E none (ResV c ρ fr Φ) (.ref D) C) (c.sh h₃ tk) := by
    intro tk
    refine codeAny_compLoop_tests
      (CompI c ρ J D I C fr St N) ?_ (N + 1)
      ⟨h₃, tk, 0, it, oC, _, [], [], _, rfl, Nat.zero_le _, rfl, rfl, .nil, h0, st0, hoC, RC⟩
    rintro k s' ⟨h4, tk4, i, it4, oC4, m4, yv, ys, σ4, rfl, hi, rfl, hyl, hyv, hJ, hst, hns, R4⟩
    have RI : Rel c ρ σ4 ((I, it4) :: (C, oC4) :: (D, lst ys) :: fr) h4 := R4.frSub fun p hp => by
      simp only [List.mem_cons] at hp ⊢
      rcases hp with q | q | q | q
      · exact .inr (.inr (.inl q))
      · exact .inl q
      · exact .inr (.inl q)
      · exact .inr (.inr (.inr q))
    have offI : ∀ p ∈ (C, oC4) :: (D, lst ys) :: fr, p.1 ≠ I := fun p hp => by
      rcases List.mem_cons.mp hp with rfl | hp
      · exact hCI.symm
      · rcases List.mem_cons.mp hp with rfl | hp
        · exact hDI.symm
        · exact hI p hp
    by_cases hlt : i < N
    · refine T.item i ρ σ4 _ h4 tk4 it4 hlt (hneed _ _ _ hJ) RI offI hst _ _ fun v u h5 tk5 it5 hP iu R5 hst5 => ?_
      have zC := R5.at_fr (p := (C, oC4)) (.tail _ (.head _))
      refine wpAny_assign_Name (wpAny_storeName_local (lookup_relabel_local hx) (hns.ns zC) (fun h6 hn6 hs6 => ?_) (by simp [compEnvC, relabel, hkind]))
      refine wpAny_tests_nil ?_
      simp only [if_true]
      have hs6 : Heap.SameBut C h5 h6 := hs6
      obtain ⟨oC6, heC6, hoC6⟩ := ns_obj hn6
      have R6 : Rel c ρ σ4 ((C, oC6) :: (D, lst ys) :: (I, it5) :: fr) h6 := by
        have Rp : Rel c ρ σ4 ([(C, oC4)] ++ ((D, lst ys) :: (I, it5) :: fr)) h5 := R5.frSub fun p hp => by
          simp only [List.cons_append, List.nil_append, List.mem_cons] at hp ⊢
          rcases hp with q | q | q | q
          · exact .inr (.inl q)
          · exact .inr (.inr (.inl q))
          · exact .inl q
          · exact .inr (.inr (.inr q))
        refine Rel.turnS (Z' := [(C, oC6)]) Rp (fun p hp hm => ?_) (fun b o hb e => hs6.extBut b o (fun q => hb (by simp [q])) e) rfl fun p hp => ?_
        · simp only [List.map_cons, List.map_nil, List.mem_singleton] at hm
          rcases List.mem_cons.mp hp with rfl | hp
          · exact hCD hm.symm
          · rcases List.mem_cons.mp hp with rfl | hp
            · exact hCI hm
            · exact hCf' p hp hm
        · rw [List.mem_singleton] at hp; subst hp; exact heC6
      have offC : ∀ p ∈ (I, it5) :: fr, p.1 ≠ C := fun p hp => by
        rcases List.mem_cons.mp hp with rfl | hp
        · exact hCI
        · exact hCf' p hp
      have offD : ∀ p ∈ (I, it5) :: fr, p.1 ≠ D := fun p hp => by
        rcases List.mem_cons.mp hp with rfl | hp
        · exact hDI
        · exact hDf p hp
      refine comp_step R6 hCD offC offD (step i yv σ4 v hlt hJ hP C oC6 _ u hoC6 (if_pos rfl) iu) (by rw [hyl]; (first | lia | omega)) fun y yv' σ7 h7 tk7 iy q R7 => ?_
      obtain ⟨σ8, s8, hJ8⟩ := q
      exact ⟨N + 1 - (i + 1), by (first | lia | omega), h7, tk7, i + 1, it5, oC6, _, yv ++ [yv'], ys ++ [y], σ8, rfl, hlt, rfl, by rw [List.length_append, List.length_singleton, hyl], hyv.append (.cons iy .nil), hJ8, hst5, hoC6, R7.narrow .refl s8⟩
    · obtain rfl : i = N := Nat.le_antisymm hi (Nat.not_lt.mp hlt)
      refine T.done ρ σ4 _ h4 tk4 it4 (hneed _ _ _ hJ) RI offI hst _ _ fun h5 tk5 R5 => ?_
      have zC := R5.at_fr (p := (C, oC4)) (.head _)
      refine ⟨m4, hns.ns zC, fun h6 hs6 => ?_⟩
      have R6 : Rel c ρ σ4 ((D, lst ys) :: fr) h6 := Rel.dropS (Z := [(C, oC4)]) R5 (fun p hp hm => by
        simp only [List.map_cons, List.map_nil, List.mem_singleton] at hm
        rcases List.mem_cons.mp hp with rfl | hp
        · exact hCD hm.symm
        · exact hCf' p hp hm) fun b o hb e => hs6.extBut b o (fun q => hb (by simp [q])) e
      obtain ⟨mp7, news7, F7, N7, m7, G7, D7⟩ := R6
      have N8 : News c.h₀ c.L h6 ((D, lst ys) :: (news7 ++ fr)) := fun p hp => N7 p (by
        rcases List.mem_cons.mp hp with rfl | hp
        · exact List.mem_append_right _ (.head _)
        · rcases List.mem_append.mp hp with q | q
          · exact List.mem_append_left _ q
          · exact List.mem_append_right _ (.tail _ q))
      have hDn : ∀ p ∈ news7 ++ fr, p.1 ≠ D := fun p hp => by
        rcases List.mem_append.mp hp with q | q
        · exact fun e => D7 (D, lst ys) (.head _) p q e.symm
        · exact hDf p q
      obtain ⟨hno, R8⟩ := Rel.newLed (ρ := ρ) (ob := .list yv) ok m7 G7 (fun p hp => D7 p (.tail _ hp)) F7 N8 ⟨ys, _, rfl, hyv⟩ hDn
      exact ⟨.ref D, _, h6, tk5, rfl, R8, rfl, done yv σ4 hJ D hno⟩
  refine codeAny_compStart_list (loop _) (hself 0 ρ σ₀ ((C, oC) :: (D, lst []) :: fr) h₃ _ it (hneed _ _ _ h0) (RC.frSub fun p hp => ?_) st0 _ _ (loop _))
  simp only [List.mem_cons] at hp ⊢
  rcases hp with q | q | q | q
  · exact .inr (.inr (.inl q))
  · exact .inl q
  · exact .inr (.inl q)
  · exact .inr (.inr (.inr q))
end
end
section
open PyProof.Rows.LCg
/-! ## a comprehension over enumerate(list) -/
noncomputable abbrev enumO (it : Addr) (i : Int) (old : Value) : Obj := { cls := .type "enumerate", dict := none, data := .fields #[.none, .bool false, .ref it, rawInt i, .none, old], slots := #[] }
section
variable {c : Cx} {S : Scope} {ρ : Rho} {σ : Sg} {n : Nat} {fr : Led} {h : Heap} {Φ : V → Sg → Prop} {elt iter : PySem.Expr} {pos px py tp : Pos} {x y : Str}
theorem TSpec.enumL {l : Addr} {vs : List V} (e : σ l = some (.list vs)) (h : ∀ en it oi, en ≠ it → σ en = none → σ it = none → oi.cls = .type "list_iterator" → oi.data = .fields #[.ref l, .int 0 0] → Φ (.ref en) (upd (upd σ it (.raw oi)) en (.raw (enumO it 0 .none)))) : TSpec "enumerate" [.ref l] σ Φ := by
  intro c n S ρ us ok _ hv fr h' tk R
  obtain ⟨u, rfl, i1⟩ := hv.one
  obtain rfl : u = .ref l := i1
  obtain ⟨o, hg, ⟨us, m, rfl, hvs⟩, _⟩ := R.obj ok e
  refine call_enumerate_list (s := c.sh h' tk) ⟨_, hg, rfl, m, rfl⟩ fun h1 he hi hsz hk => ?_
  obtain ⟨oi, hoi, hc, hd⟩ := hi
  obtain ⟨mp, news, F, N, m', G, Dj⟩ := R
  have lt : ∀ p ∈ news ++ fr, p.1 < h'.objs.size := fun p hp => Heap.lt_size (N p hp).1
  have big : ∀ a, h'.objs.size ≤ a → σ a = none ∧ c.h₀.get? a = none ∧ a ≠ c.L ∧ (a == sysModules) = false := fun a ha => by
    have gn : h'.get? a = none := by
      cases z : h'.get? a with
      | none => rfl
      | some o => exact absurd (Heap.lt_size z) (Nat.not_lt.mpr ha)
    have g0 : c.h₀.get? a = none := by
      cases z : c.h₀.get? a with
      | none => rfl
      | some o => have := F.keep _ _ z; rw [gn] at this; cases this
    refine ⟨?_, g0, fun q => ?_, ok.noSys g0⟩
    · cases z : σ a with
      | none => rfl
      | some ob =>
        rcases G.at_ a ob z with ⟨o, ho, _⟩ | hk
        · exact absurd (lt _ (List.mem_append_left _ ho)) (Nat.not_lt.mpr ha)
        · obtain ⟨us, k, hg, _⟩ := kTup_lt ok hk
          rw [g0] at hg; cases hg
    · have := F.ns.lt
      rw [← q] at this
      exact absurd this (Nat.not_lt.mpr ha)
  obtain ⟨b1, b2, b3, b4⟩ := big (h'.objs.size + 1) (Nat.le_succ _)
  obtain ⟨d1, d2, d3, d4⟩ := big h'.objs.size (Nat.le_refl _)
  have hne : h'.objs.size + 1 ≠ h'.objs.size := Nat.succ_ne_self _
  refine ⟨.ref (h'.objs.size + 1), _, h1, tk, rfl, ?_, rfl, h (h'.objs.size + 1) h'.objs.size oi hne b1 d1 hc hd⟩
  refine ⟨mp, (h'.objs.size + 1, enumO h'.objs.size 0 .none) :: (h'.objs.size, oi) :: news, ⟨F.ns.keeps hk, fun b o e => hk b o (F.keep b o e), F.above⟩, fun p hp => ?_, m', ⟨fun a ob e => ?_⟩, fun p hp q hq => ?_⟩
  · rcases List.mem_cons.mp hp with rfl | hp
    · exact ⟨he, b3, b2⟩
    · rcases List.mem_cons.mp hp with rfl | hp
      · exact ⟨hoi, d3, d2⟩
      · exact ⟨hk _ _ (N p hp).1, (N p hp).2⟩
  · unfold upd at e
    split at e
    · rename_i z; cases e; subst z; exact .inl ⟨_, .head _, rfl, b4⟩
    · split at e
      · rename_i z; cases e; subst z; exact .inl ⟨_, .tail _ (.head _), rfl, d4⟩
      · rcases G.at_ a ob e with ⟨o, ho, z⟩ | hk
        · exact .inl ⟨o, .tail _ (.tail _ ho), z⟩
        · exact .inr hk
  · have := lt p (List.mem_append_right _ hp)
    rcases List.mem_cons.mp hq with rfl | hq
    · exact Nat.ne_of_lt (Nat.lt_succ_of_lt this)
    · rcases List.mem_cons.mp hq with rfl | hq
      · exact Nat.ne_of_lt this
      · exact Dj p hp q hq
inductive EnumK (c : Cx) (S : Scope) (scope : Scope) (cl : List (Str × Addr)) (x y : Str) (elt : PySem.Expr) (Φ : V → Sg → Prop) (v : V) (ρ : Rho) (σ : Sg) : Prop
  | mk (en it : Addr) (oi : Obj) (l : Addr) (vs : List V) (σ' : Sg) (e : v = .ref en) (e1 : σ en = some (.raw (enumO it 0 .none))) (e2 : σ it = some (.raw oi)) (e3 : oi.cls = .type "list_iterator") (e4 : oi.data = .fields #[.ref l, .int 0 0]) (ne : en ≠ it) (s : Sub σ' σ) (n1 : σ' en = none) (n2 : σ' it = none) (z : vs.length ≤ sizeLine)
    (J : Nat → List V → Sg → Prop) (j0 : J 0 [] σ') (n : ∀ i ys σ, J i ys σ → σ l = some (.list vs))
    (st : ∀ i ys σ v, J i ys σ → vs[i]? = some v → ∀ C oC m u1 u2, NsObj oC m → m x = some u1 → m y = some u2 → (V.int i).Is u1 → v.Is u2 → EvC c S (eval elt (compEnvC scope cl C (c.env S))) [(C, oC)] ρ σ fun y σ' => SubQ (J (i + 1) (ys ++ [y])) σ')
    (dn : ∀ ys σ, J vs.length ys σ → ∀ r, σ r = none → Φ (.ref r) (upd σ r (.list ys))) : EnumK c S scope cl x y elt Φ v ρ σ
inductive EnumI (c : Cx) (ρ : Rho) (J : Nat → List V → Sg → Prop) (D en it l : Addr) (C : Addr) (fr : Led) (N k : Nat) (s' : Shared) : Prop
  | mk (h' : Heap) (tk i : Nat) (oi : Obj) (old : Value) (oC : Obj) (m : Str → Option Value) (yv : List V) (ys : List Value) (σ : Sg) (e : s' = c.sh h' tk) (z : i ≤ N) (ek : k = N + 1 - i) (yl : ys.length = i) (yi : VIs yv ys) (j : J i yv σ) (o1 : oi.cls = .type "list_iterator") (o2 : oi.data = .fields #[.ref l, .int i 0]) (ns : NsObj oC m) (R : Rel c ρ σ ((C, oC) :: (D, lst ys) :: (it, oi) :: (en, enumO it i old) :: fr) h') : EnumI c ρ J D en it l C fr N k s'
theorem Ev.compE (ok : c.Ok n) {scope : Scope} {cl : List (Str × Addr)} {k : Nat} (hclos : closureFor scope (c.env S) = pure cl) (hcell : ∀ y ∈ scope.names, y.2 ≠ .cell) (hkind : scope.kind = .function)
    (hnames : ∀ y ∈ scope.names, y.2 = .local → scope.names.lookup y.1 = some .local) (hx : scope.names.lookup x = some .local) (hy : scope.names.lookup y = some .local) (hxy : x ≠ y) (hs : ∀ x, foldedSetIterable iter (c.env S) x = pure x)
    (h : EvV c S (eval iter (c.env S)) ρ σ fun v σ₁ => EnumK c S scope cl x y elt Φ v ρ σ₁) : EvV c S (eval (.ListComp elt [⟨.Tuple [.Name x px, .Name y py] k tp, iter, [], 0⟩] scope pos) (c.env S)) ρ σ Φ := by
  intro fr h' tk R
  rw [eval_ListComp]
  refine wpAny_comprehension_free (use := none) rfl hs hclos hkind hnames (wpAny_mono (h fr h' tk R) (fun u s₁ q => ?_) fun _ _ e => e)
  obtain ⟨v, σ₁, h₁, tk₁, rfl, R₁, iv, en, it, oi, l, vs, σ', rfl, een, eit, oic, oid, hne, hsub, nen, nit, hN, J, h0, hneed, step, done⟩ := q
  obtain rfl : u = .ref en := iv
  obtain ⟨oz, hgz, hoz, _⟩ := R₁.obj ok een
  have hoz : oz = enumO it 0 .none := hoz
  subst hoz
  refine wpAny_pyIter_enum (s := c.sh h₁ tk₁) hgz ?_
  obtain ⟨Ra, fa⟩ := R₁.toFr ok een
  obtain ⟨Rb, fb⟩ := Ra.toFr ok (I := it) ((del_ne hne.symm).trans eit)
  have R₂ : Rel c ρ σ' ((it, oi) :: (en, enumO it 0 .none) :: fr) h₁ := Rb.narrow .refl fun a ob e => by
    rw [del_ne (fun q => by rw [q, nit] at e; cases e), del_ne (fun q => by rw [q, nen] at e; cases e)]
    exact hsub a ob e
  have fI : ∀ p ∈ fr, p.1 ≠ it := fun p hp => fb p (.tail _ hp)
  clear Ra Rb fb hgz R₁
  refine wpAny_newObj_type (wpAny_newFunctionEnv hcell (by intro y hy; simp at hy) (fun h₃ hns₃ hsb₃ => ?_) hkind)
  dsimp only at hns₃ hsb₃ ⊢
  obtain ⟨RD, hD⟩ := R₂.pushFr ok (lst []) rfl
  have eH : h₁.push { cls := .type "list", dict := none, data := .seq ([] : List Value).toArray } = h₁.push (lst []) := rfl
  rw [eH] at hns₃ hsb₃ ⊢
  generalize hH2 : h₁.push (lst []) = H2 at hns₃ hsb₃ RD ⊢
  obtain ⟨oC, heC, hoC⟩ := ns_obj hns₃
  obtain ⟨RC, hCf⟩ := RD.addFr (h' := h₃) heC fun b o e => hsb₃.extBut b o (Nat.ne_of_lt (Heap.lt_size e)) (Heap.get?_push_of_some _ e)
  generalize hDd : h₁.objs.size = D at RD hD RC hCf ⊢
  generalize hCc : H2.objs.size = C at RC hCf ⊢
  have hCD : C ≠ D := Ne.symm (hCf _ (.head _))
  have hCI : it ≠ C := hCf (it, oi) (.tail _ (.head _))
  have hDI : it ≠ D := hD (it, oi) (.head _)
  have hCE : en ≠ C := hCf (en, enumO it 0 .none) (.tail _ (.tail _ (.head _)))
  have hDE : en ≠ D := hD (en, enumO it 0 .none) (.tail _ (.head _))
  have hDf : ∀ p ∈ fr, p.1 ≠ D := fun p hp => hD p (.tail _ (.tail _ hp))
  have hCf' : ∀ p ∈ fr, p.1 ≠ C := fun p hp => hCf p (.tail _ (.tail _ (.tail _ hp)))
  have loop : ∀ tk, codeAny (model PW c.w) (c.A S) (.compLoop (.ListComp elt [⟨.Tuple [.Name x px, .Name y py] k tp, iter, [], 0⟩] scope pos) 0 (.ref en) (.ref D) (compEnvC scope cl C (c.env S)))
      (compPost (model PW c.w) (c.A S) c.E none (ResV c ρ fr Φ) (.ref D) C) (c.sh h₃ tk) := by
    intro tk
    refine LCp.codeAny_compLoop_pair
      (EnumI c ρ J D en it l C fr vs.length) ?_ (vs.length + 1)
      ⟨h₃, tk, 0, oi, .none, oC, _, [], [], _, rfl, Nat.zero_le _, rfl, rfl, .nil, h0, oic, oid, hoC, RC⟩
    rintro k s' ⟨h4, tk4, i, oi4, old4, oC4, m4, yv, ys, σ4, rfl, hi, rfl, hyl, hyv, hJ, hic, hid, hns, R4⟩
    obtain ⟨o, hg, ⟨us, m, rfl, hvs⟩, _⟩ := R4.obj ok (hneed _ _ _ hJ)
    have ne_l : ∀ p ∈ (C, oC4) :: (D, lst ys) :: (it, oi4) :: (en, enumO it i old4) :: fr, l ≠ p.1 := fun p hp => R4.ne_fr ok hp (hneed _ _ _ hJ)
    have hle : l ≠ en := ne_l (en, enumO it i old4) (by simp)
    have hli : l ≠ it := ne_l (it, oi4) (by simp)
    have W := WalksT.enumerate (prog := PW) (w := c.w) (A := c.A S) rfl en it l hne hle hli us.toArray
    have st4 : (∃ old, IsEnum h4 en it i old) ∧ h4.IsListIter it l i ∧ h4.IsList l us.toArray := ⟨⟨old4, R4.at_fr (p := (en, enumO it i old4)) (by simp)⟩, ⟨oi4, R4.at_fr (p := (it, oi4)) (by simp), hic, hid⟩, ⟨_, hg, rfl, m, rfl⟩⟩
    have RZ : Rel c ρ σ4 ([(it, oi4), (en, enumO it i old4)] ++ ((C, oC4) :: (D, lst ys) :: fr)) h4 := R4.frSub fun p hp => by
      simp only [List.cons_append, List.nil_append, List.mem_cons] at hp ⊢
      rcases hp with q | q | q | q | q
      · exact .inr (.inr (.inl q))
      · exact .inr (.inr (.inr (.inl q)))
      · exact .inl q
      · exact .inr (.inl q)
      · exact .inr (.inr (.inr (.inr q)))
    have offZ : ∀ p ∈ (C, oC4) :: (D, lst ys) :: fr, p.1 ∉ ([(it, oi4), (en, enumO it i old4)] : Led).map (·.1) := fun p hp hm => by
      simp only [List.map_cons, List.map_nil, List.mem_cons, List.not_mem_nil, or_false] at hm
      rcases List.mem_cons.mp hp with rfl | hp
      · rcases hm with q | q
        · exact hCI q.symm
        · exact hCE q.symm
      · rcases List.mem_cons.mp hp with rfl | hp
        · rcases hm with q | q
          · exact hDI q.symm
          · exact hDE q.symm
        · rcases hm with q | q
          · exact fI p hp q
          · exact fa p hp q
    by_cases hlt : i < vs.length
    · refine W.item i (c.sh h4 tk4) _ _ (by rw [List.size_toArray, hvs.length]; exact hlt) st4 fun T vals h5 tk5 hP hT hTup hMid hk5 => ?_
      obtain ⟨t, xu, hxu, rfl⟩ := hP
      obtain ⟨vi, hvi, ivi⟩ := hvs.back (i := i) (u := xu) (by simpa using hxu)
      refine W.go _ _ _ i T (c.sh h5 tk5) _ _ hMid fun h6 st6 hk6 => ?_
      obtain ⟨⟨old6, he6⟩, ⟨oi6, hgi6, hic6, hid6⟩, _⟩ := st6
      have hTw := W.apart i T h5 hMid
      have tup6 : IsTup h6 T #[.int i t, xu] := by
        obtain ⟨ot, g1, g2, g3⟩ := hTup
        exact ⟨ot, hk6 _ _ hTw g1, g2, g3⟩
      have R6 : Rel c ρ σ4 ([(it, oi6), (en, enumO it ((i : Int) + 1) old6)] ++ ((C, oC4) :: (D, lst ys) :: fr)) h6 := by
        refine RZ.turnS offZ (fun b o hb e => ?_) rfl fun p hp => ?_
        · simp only [List.map_cons, List.map_nil, List.mem_cons, List.not_mem_nil, or_false, not_or] at hb
          have hb' : b ∉ [en, it] := by simp only [List.mem_cons, List.not_mem_nil, or_false, not_or]; exact ⟨hb.2, hb.1⟩
          exact hk6 b o hb' (hk5 b o hb' e)
        · simp only [List.mem_cons, List.not_mem_nil, or_false] at hp
          rcases hp with rfl | rfl
          · exact hgi6
          · exact he6
      refine assign_Tuple_tuple (s := c.sh h6 tk5) rfl tup6 rfl rfl fun h7 he7 => ?_
      have R7 := R6.keep (h' := h7) fun b o e => he7 b o (Nat.ne_of_lt (Heap.lt_size e)) e
      have R7' : Rel c ρ σ4 ([(C, oC4)] ++ ((D, lst ys) :: (it, oi6) :: (en, enumO it ((i : Int) + 1) old6) :: fr)) h7 := R7.frSub fun p hp => by
        simp only [List.cons_append, List.nil_append, List.mem_cons] at hp ⊢
        rcases hp with q | q | q | q | q
        · exact .inr (.inr (.inl q))
        · exact .inr (.inr (.inr (.inl q)))
        · exact .inl q
        · exact .inr (.inl q)
        · exact .inr (.inr (.inr (.inr q)))
      have offC : ∀ (oi6 : Obj) (oe : Obj), ∀ p ∈ (it, oi6) :: (en, oe) :: fr, p.1 ≠ C := fun oi6 oe p hp => by
        rcases List.mem_cons.mp hp with rfl | hp
        · exact hCI
        · rcases List.mem_cons.mp hp with rfl | hp
          · exact hCE
          · exact hCf' p hp
      have offD : ∀ (oi6 : Obj) (oe : Obj), ∀ p ∈ (it, oi6) :: (en, oe) :: fr, p.1 ≠ D := fun oi6 oe p hp => by
        rcases List.mem_cons.mp hp with rfl | hp
        · exact hDI
        · rcases List.mem_cons.mp hp with rfl | hp
          · exact hDE
          · exact hDf p hp
      have offC' : ∀ (oC : Obj), ∀ p ∈ (D, lst ys) :: (it, oi6) :: (en, enumO it ((i : Int) + 1) old6) :: fr, p.1 ∉ ([(C, oC)] : Led).map (·.1) := fun oC p hp hm => by
        simp only [List.map_cons, List.map_nil, List.mem_singleton] at hm
        rcases List.mem_cons.mp hp with rfl | hp
        · exact hCD hm.symm
        · exact offC _ _ p hp hm
      have zC := R7'.at_fr (p := (C, oC4)) (.head _)
      refine assignInOrder_cons (wpAny_assign_Name (wpAny_storeName_local (lookup_relabel_local hx) (hns.ns zC) (fun h8 hn8 hs8 => ?_) (by simp [compEnvC, relabel, hkind])))
      have hs8 : Heap.SameBut C h7 h8 := hs8
      obtain ⟨oC8, heC8, hoC8⟩ := ns_obj hn8
      have R8 : Rel c ρ σ4 ([(C, oC8)] ++ ((D, lst ys) :: (it, oi6) :: (en, enumO it ((i : Int) + 1) old6) :: fr)) h8 :=
        Rel.turnS (Z' := [(C, oC8)]) R7' (offC' _) (fun b o hb e => hs8.extBut b o (fun q => hb (by simp [q])) e) rfl fun p hp => by rw [List.mem_singleton] at hp; subst hp; exact heC8
      refine assignInOrder_cons (wpAny_assign_Name (wpAny_storeName_local (lookup_relabel_local hy) hn8 (fun h9 hn9 hs9 => ?_) (by simp [compEnvC, relabel, hkind])))
      have hs9 : Heap.SameBut C h8 h9 := hs9
      obtain ⟨oC9, heC9, hoC9⟩ := ns_obj hn9
      have R9 : Rel c ρ σ4 ((C, oC9) :: (D, lst ys) :: (it, oi6) :: (en, enumO it ((i : Int) + 1) old6) :: fr) h9 :=
        Rel.turnS (Z' := [(C, oC9)]) R8 (offC' _) (fun b o hb e => hs9.extBut b o (fun q => hb (by simp [q])) e) rfl fun p hp => by rw [List.mem_singleton] at hp; subst hp; exact heC9
      refine assignInOrder_nil ?_
      refine comp_step R9 hCD (offC _ _) (offD _ _) (step i yv σ4 vi hJ hvi C oC9 _ (.int i t) xu hoC9 ((if_neg hxy).trans (if_pos rfl)) (if_pos rfl) ⟨t, rfl⟩ ivi) (by rw [hyl]; (first | lia | omega)) fun y yv' σ7 h10 tk10 iy q R10 => ?_
      obtain ⟨σ11, s11, hJ11⟩ := q
      exact ⟨vs.length + 1 - (i + 1), by (first | lia | omega), h10, tk10, i + 1, oi6, old6, oC9, _, yv ++ [yv'], ys ++ [y], σ11, rfl, hlt, rfl, by rw [List.length_append, List.length_singleton, hyl], hyv.append (.cons iy .nil), hJ11, hic6, hid6, hoC9, R10.narrow .refl s11⟩
    · obtain rfl : i = vs.length := Nat.le_antisymm hi (Nat.not_lt.mp hlt)
      refine W.done (c.sh h4 tk4) _ _ (by rw [List.size_toArray, hvs.length]; exact st4) fun h5 tk5 hk5 => ?_
      have R5 : Rel c ρ σ4 ((C, oC4) :: (D, lst ys) :: fr) h5 := RZ.dropS offZ fun b o hb e => hk5 b o (fun hm => hb (by
        simp only [List.mem_cons, List.not_mem_nil, or_false] at hm
        rcases hm with rfl | rfl <;> simp)) e
      have zC := R5.at_fr (p := (C, oC4)) (.head _)
      refine ⟨m4, hns.ns zC, fun h6 hs6 => ?_⟩
      have R6 : Rel c ρ σ4 ((D, lst ys) :: fr) h6 := Rel.dropS (Z := [(C, oC4)]) R5 (fun p hp hm => by
        simp only [List.map_cons, List.map_nil, List.mem_singleton] at hm
        rcases List.mem_cons.mp hp with rfl | hp
        · exact hCD hm.symm
        · exact hCf' p hp hm) fun b o hb e => hs6.extBut b o (fun q => hb (by simp [q])) e
      obtain ⟨mp7, news7, F7, N7, m7, G7, D7⟩ := R6
      have N8 : News c.h₀ c.L h6 ((D, lst ys) :: (news7 ++ fr)) := fun p hp => N7 p (by
        rcases List.mem_cons.mp hp with rfl | hp
        · exact List.mem_append_right _ (.head _)
        · rcases List.mem_append.mp hp with q | q
          · exact List.mem_append_left _ q
          · exact List.mem_append_right _ (.tail _ q))
      have hDn : ∀ p ∈ news7 ++ fr, p.1 ≠ D := fun p hp => by
        rcases List.mem_append.mp hp with q | q
        · exact fun e => D7 (D, lst ys) (.head _) p q e.symm
        · exact hDf p q
      obtain ⟨hno, R8⟩ := Rel.newLed (ρ := ρ) (ob := .list yv) ok m7 G7 (fun p hp => D7 p (.tail _ hp)) F7 N8 ⟨ys, _, rfl, hyv⟩ hDn
      exact ⟨.ref D, _, h6, tk5, rfl, R8, rfl, done yv σ4 hJ D hno⟩
  refine codeAny_compStart_list (loop _) (wpAny_pyIter_enum (s := c.sh h₃ _) (RC.at_fr (p := (en, enumO it 0 .none)) (by simp)) (loop _))
end
end
section
open PyProof.Rows.LCg
/-! ## rules in a comprehension's block -/
section
variable {c : Cx} {S : Scope} {ρ : Rho} {σ : Sg} {n : Nat} {Φ : V → Sg → Prop} {ce : Env} {Z : Led} {pos : Pos} {scope : Scope} {cl : List (Str × Addr)} {C : Addr} {x : Str}
theorem EvC.int {i : Int} {k : Nat} (h : Φ (.int i) σ) : EvC c S (eval (.Constant (.int i) k pos) ce) Z ρ σ Φ := fun _ _ _ _ R => wpAny_Constant_int ⟨.int i, σ, _, _, rfl, R, ⟨_, rfl⟩, h⟩
theorem EvC.own {oC : Obj} {m : Str → Option Value} {v : V} {u : Value} (hC : NsObj oC m) (hx : m x = some u) (iv : v.Is u) (h : Φ v σ) (hk : scope.kind = .function) (hl : scope.names.lookup x = some .local) (hd : (x == ("__debug__" : Str)) = false := by decide +kernel) :
    EvC c S (eval (.Name x pos) (compEnvC scope cl C (c.env S))) [(C, oC)] ρ σ Φ := fun fr h' tk hz R => by
  obtain ⟨mp, news, F, N, _⟩ := id R
  exact LCgL.ld_own (s := c.sh h' tk) N (List.mem_append_right _ (hz _ (.head _))) hC hx ⟨v, σ, h', tk, rfl, R, iv, h⟩ hk (lookup_relabel_local hl) hd
theorem EvC.glob {v : V} {u : Value} (ok : c.Ok n) (hv : v.Is u) (hg : ∀ P, nsIn (KK P) mainGlobals x = some (some u)) (h : Φ v σ) (hk : scope.kind = .function) (hx : (compEnvC scope cl C (c.env S)).kindOf x = some .globalImplicit) (hd : (x == ("__debug__" : Str)) = false := by decide +kernel) :
    EvC c S (eval (.Name x pos) (compEnvC scope cl C (c.env S))) Z ρ σ Φ := fun fr h' tk hz R => by
  obtain ⟨mp, news, F, N, _⟩ := id R
  exact LCgL.ld_global (s := c.sh h' tk) F ok.X ok.T (hg _) ⟨v, σ, h', tk, rfl, R, hv, h⟩ rfl hk hx hd
theorem EvC.cell {a : Addr} {v : V} (ok : c.Ok n) (hc : cl.lookup x = some a) (e : σ a = some (.cell (some v))) (h : Φ v σ) (hk : scope.kind = .function) (hx : (compEnvC scope cl C (c.env S)).kindOf x = some .cell) (hd : (x == ("__debug__" : Str)) = false := by decide +kernel) :
    EvC c S (eval (.Name x pos) (compEnvC scope cl C (c.env S))) Z ρ σ Φ := fun fr h' tk hz R => by
  obtain ⟨mp, news, F, N, m, G, D⟩ := id R
  rcases G.at_ a _ e with ⟨o, ho, ⟨ou, hd1, hd2⟩, _⟩ | hk'
  · obtain ⟨u, rfl, iu⟩ := hd2
    exact lcf_cell (s := c.sh h' tk) N hc (List.mem_append_left _ ho) hd1 ⟨v, σ, h', tk, rfl, R, iu, h⟩ hk hx hd
  · exact absurd hk' nk_cell
/-- lists of expressions -/
noncomputable def EvCL (c : Cx) (S : Scope) (t : Sem (List Value)) (Z : Led) (ρ : Rho) (σ : Sg) (Θ : List V → Sg → Prop) : Prop :=
  ∀ fr h tk, (∀ p ∈ Z, p ∈ fr) → Rel c ρ σ fr h → wpAny (model PW c.w) (c.A S) t (ResL c ρ fr Θ) (fun _ _ => False) (c.sh h tk)
variable {Θ : List V → Sg → Prop}
theorem EvCL.nil (h : Θ [] σ) : EvCL c S (spliced (backTo pos (starEach [] ce))) Z ρ σ Θ := fun _ _ _ _ R => spliced_none ⟨[], σ, _, _, rfl, R, .nil, h⟩
theorem EvCL.cons {e : PySem.Expr} {rest : List PySem.Expr} (h : EvC c S (eval e ce) Z ρ σ fun v σ' => EvCL c S (spliced (backTo pos (starEach rest ce))) Z ρ σ' fun vs => Θ (v :: vs))
    (hs : notStar e = true := by rfl) : EvCL c S (spliced (backTo pos (starEach (e :: rest) ce))) Z ρ σ Θ := by
  intro fr h' tk hz R
  refine spliced_more (wpAny_mono (h fr h' tk hz R) (fun u s₁ q => ?_) fun _ _ e => e) (starEach_cons hs)
  obtain ⟨v, σ', h1, tk1, rfl, R1, iv, q⟩ := q
  refine wpAny_mono (q fr h1 tk1 hz R1) (fun us s₂ q => ?_) fun _ _ e => e
  obtain ⟨vs, σ₂, h2, tk2, rfl, R2, ivs, q⟩ := q
  exact ⟨_, _, _, _, rfl, R2, .cons iv ivs, q⟩
theorem EvC.tuple {elts : List PySem.Expr} {k : Nat} (ok : c.Ok n)
    (h : EvCL c S (spliced (backTo pos (starEach elts ce))) Z ρ σ fun vs σ' => vs.length ≤ sizeLine ∧ ∀ a, σ' a = none → Φ (.ref a) (upd σ' a (.tup vs))) : EvC c S (eval (.Tuple elts k pos) ce) Z ρ σ Φ := by
  intro fr h' tk hz R
  refine Tuple_ (wpAny_mono (h fr h' tk hz R) (fun us s₁ q => ?_) fun _ _ e => e)
  obtain ⟨vs, σ', h1, tk1, rfl, R1, ivs, hz, q⟩ := q
  refine wpAny_mono (newTuple_ev (c := c.q) (S := S) ok.q ivs hz q fr h1 tk1 R1.q) (fun _ _ ⟨v, σ', h1, tk1, e, r, i, k⟩ => ⟨v, σ', h1, tk1, e, r.unq, i, k⟩) fun _ _ e => e
theorem EvC.call {f : Addr} {e : PySem.Expr} {rest : List PySem.Expr} {p' : Pos} (ok : c.Ok n) (hkS : S.kind = .function) (hf : Fn x f)
    (h : EvCL c S (spliced (backTo pos (starEach (e :: rest) (compEnvC scope cl C (c.env S))))) Z ρ σ fun vs σ' => CallOk n f vs σ' Φ)
    (hk : scope.kind = .function) (hx : (compEnvC scope cl C (c.env S)).kindOf x = some .globalImplicit) (hd : (x == ("__debug__" : Str)) = false := by decide +kernel)
    (he : notStar e = true := by rfl) (hplain : rest.all notStar = true := by rfl) :
    EvC c S (eval (.Call (.Name x p') (e :: rest) [] pos) (compEnvC scope cl C (c.env S))) Z ρ σ Φ := by
  intro fr h' tk hz R
  obtain ⟨mp, news, F, N, _⟩ := id R
  refine Call_ (LCgL.ld_global (s := c.sh h' tk) F ok.X ok.T (hf.ns _) ?_ rfl hk hx hd) rfl
  refine callWith_K ok.X (hf.keep _) (wpAny_mono (h fr h' tk hz R) (fun us s₁ q => ?_) fun _ _ e => e) (starEach_cons he) (plain_any hplain)
  obtain ⟨vs, σ', h1, tk1, rfl, R1, ivs, q⟩ := q
  obtain ⟨mp1, F1, _⟩ := R1.frame
  exact ⟨ok.X.keeps F1.keep, wpAny_mono (q c.q S us ρ ok.q hkS ivs fr h1 tk1 R1.q) (fun _ _ ⟨v, σ', h1, tk1, e, r, i, k⟩ => ⟨v, σ', h1, tk1, e, r.unq, i, k⟩) fun _ _ e => e⟩
theorem EvC.meth {e : PySem.Expr} {a1 : PySem.Expr} {r : List PySem.Expr} {apos : Pos} (ok : c.Ok n) (hk : S.kind = .function)
    (hb : okBase e = true) (hl : (apos.endLine == pos.line) = true) (hr : (a1 :: r).all notStar = true) (hn : decide ((a1 :: r).length < 30) = true)
    (h : EvC c S (eval e ce) Z ρ σ fun o σ₁ => ∃ a C dx kvs f, o = .ref a ∧ InstIs σ₁ a C dx kvs ∧ dget kvs x = none ∧ MethOk C x f ∧ EvCL c S (spliced (backTo pos (starEach (a1 :: r) ce))) Z ρ σ₁ fun vs σ₂ => CallOk n f (.ref a :: vs) σ₂ Φ) :
    EvC c S (eval (.Call (.Attribute e x apos) (a1 :: r) [] pos) ce) Z ρ σ Φ := by
  intro fr h' tk hz R
  obtain ⟨pl, hc⟩ := call_attr (x := x) (env := ce) hb hl hr hn
  refine MethodCall_ (pl := pl) (wpAny_mono (h fr h' tk hz R) (fun u s₁ q => ?_) fun _ _ e => e) hc
  obtain ⟨v, σ', h1, tk1, rfl, R1, iv, a, C, dx, kvs, f, rfl, I, hg, M, q⟩ := q
  obtain rfl : u = .ref a := iv
  obtain ⟨es, k, hI, hE⟩ := R1.inst ok I
  obtain ⟨mp, F, _⟩ := R1.frame
  have hf := hE.find x
  rw [hg] at hf
  refine method_inst F ok.X hI (M.plain _) (M.at_ _) (M.fn _) hf ?_
  rw [List.all_cons, Bool.and_eq_true] at hr
  refine callWith_K ok.X (M.keep _) (wpAny_mono (q fr h1 tk1 hz R1) (fun us s₂ z => ?_) fun _ _ e => e) (starEach_cons hr.1) (plain_any hr.2)
  obtain ⟨vs, σ₂, h2, tk2, rfl, R2, ivs, z⟩ := z
  obtain ⟨mp2, F2, _⟩ := R2.frame
  exact ⟨ok.X.keeps F2.keep, wpAny_mono (z c.q S (.ref a :: us) ρ ok.q hk (.cons rfl ivs) fr h2 tk2 R2.q) (fun _ _ ⟨v, σ', h1, tk1, e, r, i, k⟩ => ⟨v, σ', h1, tk1, e, r.unq, i, k⟩) fun _ _ e => e⟩
/-- int operators -/
theorem EvC.opI {op : Operator} {l r : PySem.Expr} {i j : Int} (k : Int)
    (hop : ∀ {E : Value → Shared → Prop} {s : Shared} {t u : Tok} {Q : Value → Shared → Prop}, Q (.int k s.toks) { s with toks := s.toks + 1 } → wpAny (model PW c.w) (c.A S) (binaryOp op (.int i t) (.int j u)) Q E s)
    (h : EvC c S (eval l ce) Z ρ σ fun a σ₁ => a = .int i ∧ EvC c S (eval r ce) Z ρ σ₁ fun b σ₂ => b = .int j ∧ Φ (.int k) σ₂) : EvC c S (eval (.BinOp l op r pos) ce) Z ρ σ Φ := by
  intro fr h' tk hz R
  refine wpAny_BinOp (wpAny_mono (h fr h' tk hz R) (fun ua s₁ q => ?_) fun _ _ e => e)
  obtain ⟨a, σ₁, h₁, tk₁, rfl, R₁, ia, rfl, q⟩ := q
  refine wpAny_mono (q fr h₁ tk₁ hz R₁) (fun ub s₂ q => ?_) fun _ _ e => e
  obtain ⟨b, σ₂, h₂, tk₂, rfl, R₂, ib, rfl, q⟩ := q
  obtain ⟨ta, rfl⟩ := ia
  obtain ⟨tb, rfl⟩ := ib
  exact hop ⟨.int k, σ₂, h₂, _, rfl, R₂, ⟨_, rfl⟩, q⟩
/-- x if a == b else y, over ints -/
theorem EvC.ifEq {a b x y : PySem.Expr} {p1 : Pos} {i j : Int} (hm : notSet b = true)
    (h : EvC c S (eval a ce) Z ρ σ fun v σ₁ => v = .int i ∧ EvC c S (eval b ce) Z ρ σ₁ fun w σ₂ => w = .int j ∧ ((i = j → EvC c S (eval x ce) Z ρ σ₂ Φ) ∧ (i ≠ j → EvC c S (eval y ce) Z ρ σ₂ Φ))) : EvC c S (eval (.IfExp (.Compare a [.Eq] [b] p1) x y pos) ce) Z ρ σ Φ := by
  intro fr h' tk hz R
  refine IfExp_ (wpAny_isTrue_Compare1 (wpAny_mono (h fr h' tk hz R) (fun ua s₁ q => ?_) fun _ _ e => e) (marks_eq hm))
  obtain ⟨v, σ₁, h₁, tk₁, rfl, R₁, ia, rfl, q⟩ := q
  refine wpAny_mono (q fr h₁ tk₁ hz R₁) (fun ub s₂ q => ?_) fun _ _ e => e
  obtain ⟨w, σ₂, h₂, tk₂, rfl, R₂, ib, rfl, q1, q2⟩ := q
  obtain ⟨ta, rfl⟩ := ia
  obtain ⟨tb, rfl⟩ := ib
  refine eq_int (wpAny_truthy_bool ?_)
  by_cases hij : i = j
  · have e : (i == j) = true := by simpa using hij
    rw [e, if_pos rfl]
    exact q1 hij fr h₂ tk₂ hz R₂
  · have e : (i == j) = false := by simpa using hij
    rw [e, if_neg Bool.false_ne_true]
    exact q2 hij fr h₂ tk₂ hz R₂
end
section
variable {T : Tabs} {S : Scope} {n : Nat} {ρ : Rho} {σ : Sg} {Φ : V → Sg → Prop} {elt iter : PySem.Expr} {pos px : Pos} {x : Str}
noncomputable def SrcC (v : V) (σ σ' : Sg) (N : Nat) (P : Nat → V → Prop) (need : Sg → Prop) : Prop := ∀ c n S, Cx.Ok c n → SourceC c S v σ σ' N P need
end
end
section
open PyProof.Rows.LCg
/-! ## _law_is_told -/
theorem at_told : At 763 (topN PW 32) ["bank", "things", "t", "point"] := ⟨fun P => ⟨by kernel_rfl, by kernel_rfl, by kernel_rfl, fun a b c d => by show bindArgs _ _ = _; kernel_rfl⟩, by kernel_rfl, by decide +kernel⟩
noncomputable def intV (l : List Nat) : List V := l.map fun (t : Nat) => .int t
theorem DR.snoc {σ : Sg} {kvs : List (Int × V)} {W : RL} {k : Int} {a : Addr} {r : Rat} (h : DR σ kvs W) (e : σ a = Option.some (frac r)) : DR σ (kvs ++ [(k, .ref a)]) (W ++ [(k, r)]) := by
  induction h with
  | nil => exact .cons e .nil
  | cons e' _ ih => exact .cons e' ih
theorem PairsIn.snoc {σ : Sg} {ys : List V} {kvs : List (Int × V)} {k : Int} {v : V} {p : Addr} (h : PairsIn σ ys kvs) (e : σ p = some (.tup [.int k, v])) : PairsIn σ (ys ++ [.ref p]) (kvs ++ [(k, v)]) := by
  refine ⟨by rw [List.length_append, List.length_append, h.1]; rfl, fun j k' v' hj => ?_⟩
  rcases Nat.lt_or_ge j kvs.length with q | q
  · rw [List.getElem?_append_left q] at hj
    obtain ⟨p', h1, h2⟩ := h.2 j k' v' hj
    exact ⟨p', by rw [List.getElem?_append_left (by rw [h.1]; exact q)]; exact h1, h2⟩
  · rw [List.getElem?_append_right q] at hj
    have hj0 : j - kvs.length = 0 := by
      have := (List.getElem?_eq_some_iff.mp hj).1
      simp at this; (first | lia | omega)
    rw [hj0] at hj
    simp at hj
    obtain ⟨rfl, rfl⟩ := hj
    exact ⟨p, by rw [List.getElem?_append_right (by rw [h.1]; exact q), h.1, hj0]; rfl, e⟩
theorem PairsIn.sub {σ σ' : Sg} {ys : List V} {kvs : List (Int × V)} (s : Sub σ σ') (h : PairsIn σ ys kvs) : PairsIn σ' ys kvs := ⟨h.1, fun j k v hj => by obtain ⟨p, a, b⟩ := h.2 j k v hj; exact ⟨p, a, s _ _ b⟩⟩
theorem intV_get {l : List Nat} {i : Nat} {v : V} (h : (intV l)[i]? = some v) : ∃ k, l[i]? = some k ∧ v = .int (k : Int) := by
  unfold intV at h
  rw [List.getElem?_map] at h
  obtain ⟨k, h1, h2⟩ := Option.map_eq_some_iff.mp h
  exact ⟨k, h1, h2.symm⟩
theorem tab_take {l : List Nat} {i k : Nat} {f : Nat → Rat} (h : l[i]? = some k) : tab (l.take (i + 1)) f = tab (l.take i) f ++ [((k : Int), f k)] := by
  rw [List.take_add_one, h]
  unfold tab
  rw [List.map_append]; rfl
theorem dues_le {P : RL} {l : List Nat} : (dues P l).length ≤ l.length := by
  have h := List.length_filter_le (fun x : Int × Rat => decide (x.2 ≠ 0)) (tab l (coef P))
  have : (tab l (coef P)).length = l.length := by unfold tab; rw [List.length_map]
  rw [this] at h
  exact h
theorem not_take {l : List Nat} {i k : Nat} (h : l.Nodup) (e : l[i]? = some k) : k ∉ l.take i := fun hm => by
  obtain ⟨j, hj, ej⟩ := List.getElem_of_mem hm
  rw [List.getElem_take] at ej
  rw [List.length_take] at hj
  obtain ⟨hi, ei⟩ := List.getElem?_eq_some_iff.mp e
  have := (List.getElem_inj h (h₀ := by (first | lia | omega)) (h₁ := hi)).mp (ej.trans ei.symm)
  (first | lia | omega)
section
variable {n : Nat} {σ : Sg} {Φ : V → Sg → Prop}
theorem told_ok {B : Bk} {kind : Int} {things : List Nat} {L t : Nat} {tha pa : Addr} {pt : Nat → Rat} (H : BankAt σ B) (hl : Lin B.keys kind things L) (hL : L ≤ 10) (hz : B.nodes.length ≤ 300) (h89 : σ 89 = some (frac 0)) (h90 : σ 90 = some (frac 1))
    (hth : σ tha = some (.list (intV things))) (hnd : things.Nodup) (hlen : things.length ≤ 20) (ht : NumT B kind t) (hp : PtAt σ pa things pt) (hsz : ∀ i ∈ things, Sz 12 8 (pt i)) (h : ∀ σ', Sub σ σ' → Φ (.bool true) σ') :
    CallOk (n + 7) 763 [.ref B.a, .ref tha, .int t, .ref pa] σ Φ := by
  obtain ⟨m, hm, hms⟩ := ht
  refine CallOk.of TT_ok at_told (k := 20) (j := 20) rfl ?_
  have big : 1000 ≤ sizeLine := Nat.le_of_ble_eq_true rfl
  have tl : (intV things).length = things.length := List.length_map _
  refine ⟨fun c ok hcl hk => Ev.comp ok (cl := []) (by kernel_rfl) (by decide +kernel) (by kernel_rfl) (by decide +kernel) (by kernel_rfl) (by intro _; rfl) ?_⟩
  refine Ev.name (v := .ref tha) rfl ?_ (by kernel_rfl) hk (by decide +kernel)
  refine ⟨σ, _, _, _, fun i ys σ' => Sub σ σ' ∧ ∃ kvs, PairsIn σ' ys kvs ∧ DR σ' kvs (tab (things.take i) fun _ => 0), SourceC.list ok hth, ⟨σ, Sub.refl, Sub.refl, [], ⟨rfl, fun _ _ _ h => nomatch h⟩, .nil⟩, by (first | lia | omega), fun i ys σ' hJ => hJ.1 _ _ hth, ?_, ?_⟩
  · rintro i ys σ' v hi ⟨s, kvs, hpr, hd⟩ hP C oC mC u hC hx iu
    obtain ⟨k, hk', rfl⟩ := intV_get hP
    refine EvC.tuple ok (EvCL.cons (EvC.own hC hx iu (EvCL.cons (EvC.tuple ok (EvCL.cons (EvC.int (EvCL.cons (EvC.int (EvCL.nil ⟨Nat.le_of_ble_eq_true rfl, fun a1 h1 => EvCL.nil ⟨Nat.le_of_ble_eq_true rfl, fun a2 h2 => ?_⟩⟩))))))) (by kernel_rfl) (by kernel_rfl)))
    have s1 := Sub.upd (ob := .tup [.int 0, .int 1]) h1
    have s2 := Sub.upd (ob := .tup [.int k, .ref a1]) h2
    refine ⟨_, Sub.refl, (s.trans s1).trans s2, kvs ++ [((k : Int), .ref a1)], (hpr.sub (s1.trans s2)).snoc upd_same, ?_⟩
    rw [tab_take hk']
    exact (hd.sub (s1.trans s2)).snoc (s2 _ _ upd_same)
  rintro ys σ1 ⟨s1, kvs0, hpr, hd0⟩ ls hls
  rw [tl, List.take_length] at hd0
  have sl := Sub.upd (ob := .list ys) hls
  have kk0 : kvs0.length = things.length := by rw [hd0.length]; unfold tab; rw [List.length_map]
  refine TSpec.dictL (kvs := kvs0) upd_same (hpr.sub sl) (by rw [hd0.keys, tab_keys]; exact keys_nodup hnd) (by (first | lia | omega)) fun nd hnd' => ?_
  have sd := Sub.upd (ob := .idict kvs0) hnd'
  have en : upd (upd σ1 ls (.list ys)) nd (.idict kvs0) nd = some (.idict kvs0) := upd_same
  have S2 := (s1.trans sl).trans sd
  have hd2 := hd0.sub (sl.trans sd)
  generalize upd (upd σ1 ls (.list ys)) nd (.idict kvs0) = σ2 at en S2 hd2
  clear sl sd hpr hls hnd' hd0 s1
  refine form_ok (H.sub S2) hl hL hz (S2 _ _ h89) (S2 _ _ h90) hm hms fun f dx pd ca fkv P C σ3 s3 _ _ _ FA DP FR => ?_
  have S3 := S2.trans s3
  have en3 := s3 _ _ en
  have hd3 := hd2.sub s3
  refine value_ok (H.sub S3) hl hL hz hm hms (pt := fun _ => 0) (PtAt.of en3 hd3 (by (first | lia | omega))) (fun _ _ => Sz.zero) fun b σ4 s4 eb => ?_
  have v0 : valOf B.keys things (fun _ => 0) t = C := by rw [FR.val hl, S_zero]; grind
  rw [v0] at eb
  have S4 := S3.trans s4
  have FA4 : FormAt σ4 f dx pd fkv ca C.num C.den := ⟨⟨s4 _ _ FA.inst.obj, s4 _ _ FA.inst.dict⟩, s4 _ _ FA.parts, s4 _ _ FA.const⟩
  have DP4 := DP.sub s4
  have en4 := s4 _ _ en3
  have hd4 := hd3.sub s4
  clear en3 hd3 FA DP S3 S2 s3 en hd2
  refine fun tp htp => ?_
  have s5 := Sub.upd (ob := .tup [.ref f, .ref b]) htp
  generalize upd σ4 tp (.tup [.ref f, .ref b]) = σ5 at s5
  refine ⟨_, .inl rfl, fun du hdu => ?_⟩
  have S5 := S4.trans s5
  have en5 := s5 _ _ en4
  have hd5 := hd4.sub s5
  have eb5 := s5 _ _ eb
  have FA5 : FormAt σ5 f dx pd fkv ca C.num C.den := ⟨⟨s5 _ _ FA4.inst.obj, s5 _ _ FA4.inst.dict⟩, s5 _ _ FA4.parts, s5 _ _ FA4.const⟩
  have DP5 := DP4.sub s5
  have sdu := Sub.upd (ob := .idict []) hdu
  have hkn : ∀ x ∈ P, ∃ j : Nat, x.1 = (j : Int) := fun x hx => by obtain ⟨j, e, _⟩ := FR.pk.at_ x hx; exact ⟨j, e⟩
  clear s5 hd4 eb en4 FA4 DP4 S4 s4 htp v0
  refine ⟨_, _, _, _, fun i ρ σ' => ρ = binds ["bank", "things", "t", "point", "nought", "form", "base", "due"] [.ref B.a, .ref tha, .int (t : Int), .ref pa, .ref nd, .ref f, .ref b, .ref du] ∧ Sub σ5 σ' ∧ ∃ kvd, σ' du = some (.idict kvd) ∧ DR σ' kvd (dues P (things.take i)),
    SrcSpec.list (sdu _ _ (S5 _ _ hth)), ⟨_, _, rsub_cons (rsub_cons (rsub_cons (rsub_cons (rsub_cons (rsub_cons (rsub_cons (rsub_cons rsub_nil rfl) rfl) rfl) rfl) rfl) rfl) rfl) rfl, Sub.refl, rfl, sdu, [], upd_same, .nil⟩, fun i ρ σ' hJ => hJ.2.1 _ _ (S5 _ _ hth), ?_, ?_⟩
  · rintro i ρ σ' v hi ⟨rfl, s, kvd, ed, dd⟩ hP
    obtain ⟨k, hk', rfl⟩ := intV_get hP
    have hkm : k ∈ things := List.mem_of_getElem? hk'
    have en6 := s _ _ en5
    have hd6 := hd5.sub s
    refine TSpec.dictD en6 (by (first | lia | omega)) fun r hr => ?_
    refine ⟨Nat.le_of_ble_eq_true rfl, fun q hq => ⟨_, SISpec.idict (kvs := kvs0) ?_ (by (first | lia | omega)), ?_⟩⟩
    · exact (Sub.upd hq) _ _ upd_same
    have nq : q ≠ r := fun e => by rw [e, upd_same] at hq; cases hq
    have s8 : Sub σ' (upd (upd (upd σ' r (.idict kvs0)) q (.tup [.int 1, .int 1])) r (.idict (dput kvs0 k (.ref q)))) := fun a ob e => by
      have h1 : a ≠ r := fun z => by rw [z, hr] at e; cases e
      exact (upd_ne h1).trans ((Sub.upd hq) _ _ ((Sub.upd hr) _ _ e))
    have er : upd (upd (upd σ' r (.idict kvs0)) q (.tup [.int 1, .int 1])) r (.idict (dput kvs0 k (.ref q))) r = some (.idict (dput kvs0 k (.ref q))) := upd_same
    have eq : upd (upd (upd σ' r (.idict kvs0)) q (.tup [.int 1, .int 1])) r (.idict (dput kvs0 k (.ref q))) q = some (frac 1) := (upd_ne nq).trans upd_same
    generalize upd (upd (upd σ' r (.idict kvs0)) q (.tup [.int 1, .int 1])) r (.idict (dput kvs0 k (.ref q))) = σ8 at s8 er eq
    have hd8 := (hd6.sub s8).put (k : Int) eq
    rw [tab_put hkm] at hd8
    have hind : ∀ i ∈ things, Sz 12 8 (ind k i) := fun i _ => by
      unfold ind
      split
      · exact ⟨12, by decide +kernel, by decide⟩
      · exact Sz.zero
    have S8 := S5.trans (s.trans s8)
    refine value_ok (H.sub S8) hl hL hz hm hms (pt := ind k) (PtAt.of er hd8 (by (first | lia | omega))) hind fun v1 σ9 s9 e9 => ?_
    have ev : valOf B.keys things (ind k) t = C + coef P k := by rw [FR.val hl, S_ind FR.pk.nd hkn]
    have kk : B.keys[t]? = some m.key := by rw [List.getElem?_map, hm]; rfl
    have tl2 : t < 300 := by have := (List.getElem?_eq_some_iff.mp hm).1; (first | lia | omega)
    have sm1 : Small (C + coef P k) := by
      rw [← ev]
      refine small_of (i := L + t + 1) (k := 4 ^ (L + 2)) ((val_sz hl (valOf_lin hl (pt := ind k)) (fun i hi => by rw [valOf_thing hi]; exact hind i hi) t m.key kk hms).mono (Nat.dvd_refl _) (Nat.mul_le_mul (Nat.le_refl _) (pow5 (by (first | lia | omega))))) (by (first | lia | omega)) (Nat.le_trans (Nat.pow_le_pow_right (by decide) (show L + 2 ≤ 12 by (first | lia | omega))) (by decide +kernel))
    have sm2 : Small (-C) := small_C (i := B.nodes.length) FR.cs.neg hL hz
    rw [ev] at e9
    have eb9 := (s.trans (s8.trans s9)) _ _ eb5
    refine ⟨_, i0 eb9, _, i1 eb9, Nat.le_of_ble_eq_true rfl, fun w hw => ?_⟩
    have s10 := Sub.upd (ob := .tup [.int (0 - C.num), .int C.den]) hw
    have ew : upd σ9 w (.tup [.int (0 - C.num), .int C.den]) w = some (frac (-C)) := by rw [frac_neg]; exact upd_same
    refine lplusR (s10 _ _ e9) ew sm1 sm2 fun own ho => ?_
    have e0 : C + coef P k + -C = coef P k := by grind
    rw [e0]
    have s11 := Sub.upd (ob := frac (coef P k)) ho
    have eo : upd (upd σ9 w (.tup [.int (0 - C.num), .int C.den])) own (frac (coef P k)) own = some (frac (coef P k)) := upd_same
    have sA := s8.trans (s9.trans (s10.trans s11))
    generalize upd (upd σ9 w (.tup [.int (0 - C.num), .int C.den])) own (frac (coef P k)) = σ11 at sA eo s11
    have ed11 := sA _ _ ed
    have dd11 := dd.sub sA
    have hkt : k ∉ things.take i := not_take hnd hk'
    have hR : ∀ own : V, RSub (binds ["bank", "things", "t", "point", "nought", "form", "base", "due"] [.ref B.a, .ref tha, .int (t : Int), .ref pa, .ref nd, .ref f, .ref b, .ref du]) (put (put (put (binds ["bank", "things", "t", "point", "nought", "form", "base", "due"] [.ref B.a, .ref tha, .int (t : Int), .ref pa, .ref nd, .ref f, .ref b, .ref du]) "thing" (.int (k : Int))) "late" (.ref r)) "own" own) := fun own =>
      rsub_cons (rsub_cons (rsub_cons (rsub_cons (rsub_cons (rsub_cons (rsub_cons (rsub_cons rsub_nil rfl) rfl) rfl) rfl) rfl) rfl) rfl) rfl
    refine ⟨_, i0 eo, ⟨fun hb => ?_, fun hb => ?_⟩⟩
    · have hne : coef P k ≠ 0 := fun z => by rw [z] at hb; exact absurd hb (by decide)
      refine ⟨_, SISpec.idict ed11 (by have := dd11.length; have := dues_le (P := P) (l := things.take i); have := List.length_take_le i things; (first | lia | omega)), ?_⟩
      have T12 : TSub σ11 (upd σ11 du (.idict (dput kvd (k : Int) (.ref own)))) := TSub.upd ed11 fun _ => nofun
      have d12 := (dd11.tsub T12).put (k : Int) (T12 _ _ eo)
      rw [rput_new (dues_none hkt)] at d12
      refine ⟨_, _, hR _, Sub.refl, rfl, fun a ob e => ?_, _, upd_same, ?_⟩
      · have h1 : a ≠ du := fun z => by rw [z, hdu] at e; cases e
        exact (upd_ne h1).trans ((s.trans sA) _ _ e)
      · rw [List.take_add_one, hk']
        show DR _ _ (dues P (things.take i ++ [k]))
        rw [dues_snoc, if_neg hne]
        exact d12
    · have h0 : coef P k = 0 := by
        have : (coef P k).num = 0 := by simpa using hb
        exact Rat.num_eq_zero.mp this
      refine ⟨_, _, hR _, Sub.refl, rfl, s.trans sA, _, ed11, ?_⟩
      rw [List.take_add_one, hk']
      show DR _ _ (dues P (things.take i ++ [k]))
      rw [dues_snoc, if_pos h0]
      exact dd11
  · rintro ρ σ' ⟨rfl, s, kvd, ed, dd⟩
    rw [List.take_of_length_le (by (first | lia | omega))] at dd
    have FA6 : FormAt σ' f dx pd fkv ca C.num C.den := ⟨⟨s _ _ FA5.inst.obj, s _ _ FA5.inst.dict⟩, s _ _ FA5.parts, s _ _ FA5.const⟩
    have DP6 := DP5.sub s
    have eb6 := s _ _ eb5
    refine ⟨_, _, _, _, _, rfl, FA6.inst, rfl, by kernel_rfl, ?_⟩
    refine ⟨_, CSpec.eqP FA6.const eb6, ?_⟩
    refine ⟨fun _ => ?_, fun hb => by simp at hb⟩
    refine ⟨_, _, _, _, _, rfl, FA6.inst, rfl, by kernel_rfl, ?_⟩
    have hlenE : fkv.length = kvd.length := by rw [DP6.length, dd.length]; exact dues_len FR.pk hnd
    refine ⟨_, CSpec.eqD (bo := true) FA6.parts ed fun _ => hits_all dd (dues_nodup hnd) DP6 fun x hx => (dues_all FR.pk).mp hx, ?_⟩
    refine ⟨fun _ => ?_, fun hb => by simp [hlenE] at hb⟩
    have S6 := S5.trans s
    refine .inl ⟨_, _, _, _, 174, rfl, FA6.inst, by kernel_rfl, by kernel_rfl, ?_⟩
    refine eval_ok FA6 DP6 FR hL hz (by (first | lia | omega)) (hp.sub S6) hsz fun q1 σ7 s7 e7 => ?_
    refine value_ok (H.sub (S6.trans s7)) hl hL hz hm hms (hp.sub (S6.trans s7)) hsz fun q2 σ8 s8 e8 => ?_
    rw [FR.val hl] at e8
    refine ⟨_, CSpec.eqP (s8 _ _ e7) e8, ?_⟩
    have et : decide ((C + S P pt).num = (C + S P pt).num ∧ ((C + S P pt).den : Int) = ((C + S P pt).den : Int)) = true := by simp
    rw [et]
    exact ⟨_, Sub.refl, h _ (S6.trans (s7.trans s8))⟩
end
end
section
open PyProof.Rows.LCg
/-! ## a slice, list(list), a dict display with two words -/
section
variable {c : Cx} {S : Scope} {ρ : Rho} {σ : Sg} {n : Nat} {Φ : V → Sg → Prop} {pos px p1 p2 p3 p4 : Pos} {x : Str} {k k1 k2 : Nat}
theorem VIs.take {vs : List V} {us : List Value} (h : VIs vs us) : ∀ i, VIs (vs.take i) (us.take i) := by
  induction h with
  | nil => intro i; rw [List.take_nil, List.take_nil]; exact .nil
  | cons h1 _ ih =>
    intro i
    cases i with
    | zero => exact .nil
    | succ i => exact .cons h1 (ih i)
theorem TSpec.listL {l : Addr} {vs : List V} (e : σ l = some (.list vs)) (hz : vs.length ≤ sizeLine) (h : ∀ r, σ r = none → Φ (.ref r) (upd σ r (.list vs))) : TSpec "list" [.ref l] σ Φ := by
  intro c n S ρ us ok _ hv fr h' tk R
  obtain ⟨u, rfl, i1⟩ := hv.one
  obtain rfl : u = .ref l := i1
  obtain ⟨o, hg, ⟨us, m, rfl, hvs⟩, _⟩ := R.obj ok e
  refine call_list_seq (s := c.sh h' tk) l (.inl rfl) hg rfl rfl (fun h1 c' k e1 => ?_) (by rw [List.size_toArray, hvs.length]; exact hz)
  obtain ⟨mp, news, F, N, m', G, Dj⟩ := R
  obtain ⟨hno, R2⟩ := Rel.newLed (ρ := ρ) (D := h'.objs.size) (o := listOf us.toArray c') (ob := .list vs) ok m' G Dj ⟨F.ns.keeps k, fun b o e => k b o (F.keep b o e), F.above⟩ (fun p hp => by
    rcases List.mem_cons.mp hp with rfl | hp
    · refine ⟨e1, Nat.ne_of_gt F.ns.lt, ?_⟩
      cases z : c.h₀.get? h'.objs.size with
      | none => rfl
      | some o => exact absurd (Heap.lt_size (F.keep _ _ z)) (Nat.lt_irrefl _)
    · exact ⟨k _ _ (N p hp).1, (N p hp).2⟩) ⟨us, c', rfl, hvs⟩ fun p hp => Nat.ne_of_lt (Heap.lt_size (N p hp).1)
  exact ⟨.ref h'.objs.size, _, h1, tk, rfl, R2, rfl, h _ hno⟩
theorem Ev.dictT (ok : c.Ok n) {x y : Str} {e1 e2 : PySem.Expr} (hne : x ≠ y)
    (h : ∀ d, σ d = none → EvV c S (eval e1 (c.env S)) ρ (upd σ d (.tdict [])) fun v1 σ1 => EvV c S (eval e2 (c.env S)) ρ σ1 fun v2 σ2 => σ2 d = some (.tdict []) ∧ Φ (.ref d) (upd σ2 d (.tdict [(x, v1), (y, v2)]))) :
    EvV c S (eval (.Dict [some (.Constant (.str x) k1 p1), some (.Constant (.str y) k2 p2)] [e1, e2] pos) (c.env S)) ρ σ Φ := by
  intro fr h' tk R
  refine wpAny_Dict_pairs (knd := strKind PW c.w) (s := c.sh h' tk) (pairs := [(eval (.Constant (.str x) k1 p1) (c.env S), do let x ← eval e1 (c.env S); standAt pos; pure x), (eval (.Constant (.str y) k2 p2) (c.env S), do let x ← eval e2 (c.env S); standAt pos; pure x)]) rfl (by simp) (Nat.le_of_ble_eq_true rfl) ?_
  have R0 : Rel c ρ (upd σ h'.objs.size (.tdict [])) fr (h'.push { cls := .type "dict", data := .dict #[] }) := by
    refine R.alloc ok (o := { cls := .type "dict", data := .dict #[] }) (ob := .tdict []) ⟨[], ?_, .nil⟩ rfl
    obtain ⟨o, ho, hd⟩ := Heap.dictOf_iff.mp (Heap.DictOf.new (knd := strKind PW c.w) h')
    rw [Heap.get?_push_size _ rfl] at ho
    cases ho; exact hd
  refine evalPairs_cons (Constant_str ?_)
  refine wpAny_bind (wpAny_mono (h h'.objs.size (R.fresh ok) fr _ _ R0) (fun u1 s₁ q => ?_) fun _ _ e => e)
  obtain ⟨v1, σ₁, h₁, tk₁, rfl, R₁, i1, q⟩ := q
  refine wpAny_bind (wpAny_standAt (wpAny_pure (evalPairs_cons (Constant_str ?_))))
  refine wpAny_bind (wpAny_mono (q fr h₁ _ R₁) (fun u2 s₂ q => ?_) fun _ _ e => e)
  obtain ⟨v2, σ₂, h₂, tk₂, rfl, R₂, i2, ed, q⟩ := q
  refine wpAny_bind (wpAny_standAt (wpAny_pure (evalPairs_nil ?_)))
  obtain ⟨o, ho, ⟨us, hd, hp⟩, _⟩ := R₂.obj ok ed
  cases hp
  refine ⟨[(x, u1), (y, u2)], ⟨strKind_is PW c.w x _, rfl, strKind_is PW c.w y _, rfl, trivial⟩, Heap.dictOf_iff.mpr ⟨o, ho, hd⟩, fun h3 hd3 hs3 => ?_⟩
  obtain ⟨o', ho', hd''⟩ := Heap.dictOf_iff.mp hd3
  refine ⟨.ref h'.objs.size, _, h3, _, rfl, R₂.change (ob' := .tdict [(x, v1), (y, v2)]) ed nk_tdict hs3 ho' ⟨_, hd'', ?_⟩, rfl, q⟩
  have e : merged ([] : List (Str × Value)) [(x, u1), (y, u2)] = [(x, u1), (y, u2)] := by
    simp [merged, stored, hne]
  rw [e]
  exact .cons i1 (.cons i2 .nil)
end
end
section
open PyProof.Rows.LCg
/-! ## law -/
noncomputable abbrev stL : Stmt := topN PW 34
noncomputable def TL (a b : Addr) : Tabs := { TT with cl := [(("kind" : Str), b), (("bank" : Str), a)] }
theorem TL_ok (a b : Addr) : (TL a b).Ok := ⟨TT_ok.glob, TT_ok.fn, TT_ok.bn, TT_ok.ty, TT_ok.attr, TT_ok.sett, TT_ok.meth⟩
/-- all but the cells stays -/
noncomputable def NCell (σ σ' : Sg) : Prop := ∀ a ob, σ a = some ob → (∀ v, ob ≠ .cell v) → σ' a = some ob
theorem NCell.upd {σ : Sg} {a : Addr} {u v : Option V} (e : σ a = some (.cell u)) : NCell σ (Mine.upd σ a (.cell v)) := fun b ob eb hn => (upd_ne fun q => by rw [q, e] at eb; exact hn _ (Option.some.inj eb).symm).trans eb
theorem BankAt.ncell {σ σ' : Sg} {B : Bk} (s : NCell σ σ') (H : BankAt σ B) : BankAt σ' B where
  inst := ⟨s _ _ H.inst.obj fun _ => nofun, s _ _ H.inst.dict fun _ => nofun⟩
  g1 := H.g1
  g2 := H.g2
  g3 := H.g3
  g4 := H.g4
  g5 := H.g5
  own := H.own
  o1 := s _ _ H.o1 fun _ => nofun
  o2 := s _ _ H.o2 fun _ => nofun
  o3 := s _ _ H.o3 fun _ => nofun
  o4 := s _ _ H.o4 fun _ => nofun
  o5 := s _ _ H.o5 fun _ => nofun
  node := fun n hn => ⟨s _ _ (H.node n hn).1 fun _ => nofun, (H.node n hn).2.tsub fun a vs e => s _ _ e fun _ => nofun⟩
  keys := fun x hx => (H.keys x hx).tsub fun a vs e => s _ _ e fun _ => nofun
  find := H.find
  len := H.len
  nd := H.nd
theorem FunAt.ncell {σ σ' : Sg} {B : Bk} {F : Fu} (s : NCell σ σ') (G : FunAt σ B F) : FunAt σ' B F := ⟨G.g1, G.g2, G.g3, s _ _ G.o1 fun _ => nofun, s _ _ G.o2 fun _ => nofun, s _ _ G.o3 fun _ => nofun, G.nd⟩
theorem TapeAt.ncell {σ σ' : Sg} {ta ca : Addr} {cells : List Int} {sp : Nat} (s : NCell σ σ') (h : TapeAt σ ta ca cells sp) : TapeAt σ' ta ca cells sp := ⟨s _ _ h.tape fun _ => nofun, s _ _ h.cell fun _ => nofun, h.len, h.small⟩
section
variable {n : Nat} {σ : Sg} {Φ : Fl → Rho → Sg → Prop} {ca cb : Addr}
noncomputable abbrev bodyL (j : Nat) : List Stmt := (fBody stL).drop j
noncomputable abbrev wL (ca cb : Addr) (n k j : Nat) (ρ : Rho) (σ : Sg) (Φ : Fl → Rho → Sg → Prop) : Prop := wS (TL ca cb) (fScope stL) n (wk (TL ca cb) (fScope stL) n 20) k (bodyL j) ρ σ Φ
end
end
section
open PyProof.Rows.LCg
structure LSt (σ : Sg) (ca ta la : Addr) (cells : List Int) (sp : Nat) (B : Bk) : Prop where
  tape : TapeAt σ ta la cells sp
  bank : BankAt σ B
  nl : la ∉ B.mut
  cella : σ ca = some (.cell (some (.ref B.a)))
  z : σ 89 = some (frac 0)
  o : σ 90 = some (frac 1)
theorem LSt.sub {σ σ' : Sg} {ca ta la : Addr} {cells : List Int} {sp : Nat} {B : Bk} (s : Sub σ σ') (h : LSt σ ca ta la cells sp B) : LSt σ' ca ta la cells sp B := ⟨h.tape.sub s, h.bank.sub s, h.nl, s _ _ h.cella, s _ _ h.z, s _ _ h.o⟩
theorem FunAt.nsub {σ σ' : Sg} {B : Bk} {F : Fu} (s : NSub σ σ') (G : FunAt σ B F) : FunAt σ' B F := ⟨G.g1, G.g2, G.g3, s _ _ G.o1 fun _ => nofun, s _ _ G.o2 fun _ => nofun, s _ _ G.o3 fun _ => nofun, G.nd⟩
theorem LSt.nsub {σ σ' : Sg} {ca ta la : Addr} {cells : List Int} {sp sp' : Nat} {B : Bk} (s : NSub σ σ') (T : TapeAt σ' ta la cells sp') (h : LSt σ ca ta la cells sp B) : LSt σ' ca ta la cells sp' B := ⟨T, h.bank.nsub s, h.nl, s _ _ h.cella fun _ => nofun, s _ _ h.z fun _ => nofun, s _ _ h.o fun _ => nofun⟩
section
variable {n : Nat} {σ : Sg} {Φ : Fl → Rho → Sg → Prop} {ca cb : Addr} {sa ta la : Addr} {cells : List Int} {B : Bk} {F : Fu}
noncomputable abbrev ρ1 (sa ta : Addr) : Rho := put (binds ["script"] [.ref sa]) "tape" (.ref ta)
theorem law1 (LS : LSt σ ca ta la cells 0 B) (G : FunAt σ B F) (hcb : σ cb = some (.cell none)) (hab : ca ≠ cb)
    (h : ∀ kind σ', kind = 1 ∨ kind = 2 → LSt σ' ca ta la cells 1 B → FunAt σ' B F → σ' cb = some (.cell (some (.int kind))) → wL ca cb (n + 20) 18 2 (ρ1 sa ta) σ' Φ) : wL ca cb (n + 20) 19 1 (ρ1 sa ta) σ Φ := by
  refine ⟨Nat.le_of_ble_eq_true rfl, fun l hl => ?_⟩
  have s1 := Sub.upd (ob := .list [.int 1, .int 2]) hl
  refine draw_n (w := 2) (LS.tape.sub s1) (by (first | lia | omega)) (by decide) fun r σ2 hr T2 s2 => ?_
  have e2 := s2 _ _ (upd_same : upd σ l (.list [.int 1, .int 2]) l = some (.list [.int 1, .int 2])) fun _ => nofun
  have LS2 := (LS.sub s1).nsub s2 T2
  have G2 := (G.sub s1).nsub s2
  have hcb2 := s2 _ _ (s1 _ _ hcb) fun _ => nofun
  have fin : ∀ kind : Int, kind = 1 ∨ kind = 2 → wL ca cb (n + 20) 18 2 (ρ1 sa ta) (upd σ2 cb (.cell (some (.int kind)))) Φ := fun kind hk => by
    have N : NCell σ2 (upd σ2 cb (.cell (some (.int kind)))) := NCell.upd hcb2
    exact h kind _ hk ⟨LS2.tape.ncell N, LS2.bank.ncell N, LS2.nl, (upd_ne hab).trans LS2.cella, N _ _ LS2.z fun _ => nofun, N _ _ LS2.o fun _ => nofun⟩ (G2.ncell N) upd_same
  rcases (show r = 0 ∨ r = 1 by (first | lia | omega)) with rfl | rfl
  · exact ⟨.int 1, ISpec.list e2 (by (first | lia | omega)) (by (first | lia | omega)) rfl, cb, none, rfl, hcb2, fin 1 (.inl rfl)⟩
  · exact ⟨.int 2, ISpec.list e2 (by (first | lia | omega)) (by (first | lia | omega)) rfl, cb, none, rfl, hcb2, fin 2 (.inr rfl)⟩
end
end
section
open PyProof.Rows.LCg
theorem Grow.new {B B' : Bk} {k : Nd} {t : Nat} (g : Grow B B' k t) (hk : k ∉ B.keys) : B'.keys = B.keys ++ [k] ∧ t = B.keys.length := by
  rcases g.ks with e | ⟨_, h2, e⟩
  · exfalso
    have := g.at_
    rw [← List.getElem?_map, e] at this
    exact hk (List.mem_of_getElem? this)
  · exact ⟨e, by rw [h2, show B.keys.length = B.nodes.length from List.length_map _]⟩
theorem BankAt.notmut {σ : Sg} {B : Bk} (H : BankAt σ B) {a : Addr} {ob : Ob} (e : σ a = some ob) (n1 : ∀ l, ob ≠ .list l) (n2 : ∀ l, ob ≠ .kdict l) : a ∉ B.mut := by
  intro hm
  simp only [Bk.mut, List.mem_cons, List.not_mem_nil, or_false] at hm
  rcases hm with rfl | rfl | rfl | rfl | rfl
  · rw [H.o1] at e; exact n1 _ (Option.some.inj e).symm
  · rw [H.o2] at e; exact n1 _ (Option.some.inj e).symm
  · rw [H.o3] at e; exact n1 _ (Option.some.inj e).symm
  · rw [H.o4] at e; exact n1 _ (Option.some.inj e).symm
  · rw [H.o5] at e; exact n2 _ (Option.some.inj e).symm
theorem FunAt.notin {σ : Sg} {B : Bk} {F : Fu} (G : FunAt σ B F) {a : Addr} {ob : Ob} (e : σ a = some ob) (n1 : ∀ l, ob ≠ .list l) : a ∉ [F.fn, F.fa, F.fr] := by
  intro hm
  simp only [List.mem_cons, List.not_mem_nil, or_false] at hm
  rcases hm with rfl | rfl | rfl
  · rw [G.o1] at e; exact n1 _ (Option.some.inj e).symm
  · rw [G.o2] at e; exact n1 _ (Option.some.inj e).symm
  · rw [G.o3] at e; exact n1 _ (Option.some.inj e).symm
theorem FunAt.keeps {σ σ' : Sg} {B B' : Bk} {F : Fu} (G : FunAt σ B F) (x : Ext B B') (K : Keeps B σ σ') : FunAt σ' B' F := by
  have N := G.nd
  simp only [List.nodup_cons, List.mem_cons, not_or] at N
  obtain ⟨⟨_, _, q1⟩, ⟨_, q2⟩, q3, _⟩ := N
  exact ⟨by rw [x.kv]; exact G.g1, by rw [x.kv]; exact G.g2, by rw [x.kv]; exact G.g3, K _ _ G.o1 q1, K _ _ G.o2 q2, K _ _ G.o3 q3, by rw [x.mt]; exact G.nd⟩
theorem LSt.keeps {σ σ' : Sg} {ca ta la : Addr} {cells : List Int} {sp : Nat} {B B' : Bk} (h : LSt σ ca ta la cells sp B) (H' : BankAt σ' B') (x : Ext B B') (K : Keeps B σ σ') : LSt σ' ca ta la cells sp B' :=
  ⟨h.tape.keeps h.bank h.nl K, H', by rw [x.mt]; exact h.nl, by rw [x.a]; exact K _ _ h.cella (h.bank.notmut h.cella (fun _ => nofun) fun _ => nofun), K _ _ h.z (h.bank.notmut h.z (fun _ => nofun) fun _ => nofun), K _ _ h.o (h.bank.notmut h.o (fun _ => nofun) fun _ => nofun)⟩
structure LW (σ : Sg) (ca cb ta la : Addr) (cells : List Int) (sp : Nat) (kind : Int) (B : Bk) (F : Fu) : Prop where
  ls : LSt σ ca ta la cells sp B
  fn : FunAt σ B F
  nf : la ∉ [F.fn, F.fa, F.fr]
  cellb : σ cb = some (.cell (some (.int kind)))
/-- what is no list and no table stays -/
noncomputable def Firm (σ σ' : Sg) : Prop := ∀ a ob, σ a = some ob → (∀ l, ob ≠ .list l) → (∀ l, ob ≠ .kdict l) → σ' a = some ob
theorem Firm.trans {σ σ' σ'' : Sg} (s : Firm σ σ') (t : Firm σ' σ'') : Firm σ σ'' := fun a ob e n1 n2 => t a ob (s a ob e n1 n2) n1 n2
theorem Sub.firm {σ σ' : Sg} (s : Sub σ σ') : Firm σ σ' := fun a ob e _ _ => s a ob e
theorem Keeps.firm {σ σ' : Sg} {B : Bk} (H : BankAt σ B) (s : Keeps B σ σ') : Firm σ σ' := fun a ob e n1 n2 => s a ob e (H.notmut e n1 n2)
section
variable {σ σ' : Sg} {ca cb ta la : Addr} {cells : List Int} {sp : Nat} {kind : Int} {B B' : Bk} {F F' : Fu}
theorem LW.sub (s : Sub σ σ') (w : LW σ ca cb ta la cells sp kind B F) : LW σ' ca cb ta la cells sp kind B F := ⟨w.ls.sub s, w.fn.sub s, w.nf, s _ _ w.cellb⟩
theorem LW.keeps (w : LW σ ca cb ta la cells sp kind B F) (H' : BankAt σ' B') (x : Ext B B') (K : Keeps B σ σ') : LW σ' ca cb ta la cells sp kind B' F :=
  ⟨w.ls.keeps H' x K, w.fn.keeps x K, w.nf, K _ _ w.cellb (w.ls.bank.notmut w.cellb (fun _ => nofun) fun _ => nofun)⟩
theorem LW.decl (w : LW σ ca cb ta la cells sp kind B F) (H' : BankAt σ' B) (G' : FunAt σ' B F') (hF : [F'.fn, F'.fa, F'.fr] = [F.fn, F.fa, F.fr]) (K : ∀ a ob, σ a = some ob → a ∉ [F.fn, F.fa, F.fr] → σ' a = some ob) : LW σ' ca cb ta la cells sp kind B F' where
  ls := ⟨⟨K _ _ w.ls.tape.tape (w.fn.notin w.ls.tape.tape fun _ => nofun), K _ _ w.ls.tape.cell w.nf, w.ls.tape.len, w.ls.tape.small⟩, H', w.ls.nl, K _ _ w.ls.cella (w.fn.notin w.ls.cella fun _ => nofun), K _ _ w.ls.z (w.fn.notin w.ls.z fun _ => nofun), K _ _ w.ls.o (w.fn.notin w.ls.o fun _ => nofun)⟩
  fn := G'
  nf := by rw [hF]; exact w.nf
  cellb := K _ _ w.cellb (w.fn.notin w.cellb fun _ => nofun)
variable {n : Nat} {Φ : V → Sg → Prop}
theorem fresh_w (w : LW σ ca cb ta la cells sp kind B F) (hl : F.names.length ≤ 100 ∧ F.args.length ≤ 100 ∧ F.res.length ≤ 100) {nm : Str} {s : Int} (hz : B.keys.length ≤ 1000) (hk : (⟨"app", [], s, .inl (F.names.length : Int)⟩ : Nd) ∉ B.keys)
    (h : ∀ B' F' σ', LW σ' ca cb ta la cells sp kind B' F' → Firm σ σ' → B'.a = B.a → B'.keys = B.keys ++ [⟨"app", [], s, .inl (F.names.length : Int)⟩] → F'.names = F.names ++ [.str nm] → F'.args.length = F.args.length + 1 → F'.res.length = F.res.length + 1 → (F.args <+: F'.args ∧ F.res <+: F'.res) → Φ (.int (B.keys.length : Nat)) σ') : CallOk (n + 2) 258 [.ref B.a, .str nm, .int s] σ Φ := by
  have kl : B.keys.length = B.nodes.length := List.length_map _
  refine fresh_ok w.ls.bank (by (first | lia | omega)) w.fn hl fun t0 σ1 H1 G1 _ K1 B' σ2 t H2 g K2 => ?_
  have w1 := w.decl H1 G1 rfl K1
  obtain ⟨e1, rfl⟩ := g.new hk
  have f1 : Firm σ σ1 := fun a ob e n1 _ => K1 a ob e (w.fn.notin e n1)
  exact h B' _ σ2 (w1.keeps H2 g.ext K2) (f1.trans (K2.firm H1)) g.ext.a e1 rfl List.length_append List.length_append ⟨List.prefix_append _ _, List.prefix_append _ _⟩
end
noncomputable def kA (kind : Int) (j : Nat) : Nd := ⟨"app", [], kind, .inl (j : Int)⟩
noncomputable def keysA (kind : Int) (i : Nat) : List Nd := [k0, k1, k2] ++ (List.range i).map (kA kind)
theorem keysA_len {kind : Int} {i : Nat} : (keysA kind i).length = 3 + i := by unfold keysA; simp; (first | lia | omega)
theorem keysA_succ {kind : Int} {i : Nat} : keysA kind (i + 1) = keysA kind i ++ [kA kind i] := by unfold keysA; rw [List.range_succ, List.map_append, List.append_assoc]; rfl
theorem kA_not {kind s : Int} {i j : Nat} (h : i ≤ j) : kA s j ∉ keysA kind i := by
  unfold keysA
  intro hm
  rcases List.mem_append.mp hm with q | q
  · have n0 : ("" : Str) ≠ "app" := by decide +kernel
    have n1 : ("true" : Str) ≠ "app" := by decide +kernel
    have n2 : ("false" : Str) ≠ "app" := by decide +kernel
    simp only [List.mem_cons, List.not_mem_nil, or_false] at q
    rcases q with q | q | q
    · exact n0 (congrArg Nd.op q).symm
    · exact n1 (congrArg Nd.op q).symm
    · exact n2 (congrArg Nd.op q).symm
  · obtain ⟨a, ha, e⟩ := List.mem_map.mp q
    have := congrArg Nd.data e
    have : (a : Int) = (j : Int) := Sum.inl.inj this
    have := List.mem_range.mp ha
    (first | lia | omega)
section
variable {n : Nat} {σ : Sg} {Φ : Fl → Rho → Sg → Prop} {ca cb : Addr} {sa ta la : Addr} {cells : List Int} {B : Bk} {F : Fu} {kind : Int}
noncomputable abbrev ρ2 (sa ta : Addr) (x y z : Int) : Rho := put (put (put (ρ1 sa ta) "x" (.int x)) "y" (.int y)) "z" (.int z)
theorem law2 (w : LW σ ca cb ta la cells 1 kind B F) (n1 : F.names = []) (n2 : F.args = []) (n3 : F.res = []) (hk : B.keys = [k0, k1, k2])
    (h : ∀ B' F' σ', LW σ' ca cb ta la cells 1 kind B' F' → F'.names.length = 3 → F'.args.length = 3 → F'.res.length = 3 → B'.keys = keysA kind 3 → wL ca cb (n + 20) 17 3 (ρ2 sa ta 3 4 5) σ' Φ) : wL ca cb (n + 20) 18 2 (ρ1 sa ta) σ Φ := by
  have big : 1000 ≤ sizeLine := Nat.le_of_ble_eq_true rfl
  refine XStm.unpack (xs := ["x", "y", "z"]) rfl rfl ⟨fun c ok hcl hk' => Ev.comp ok (cl := [(("kind" : Str), cb), (("bank" : Str), ca)]) ?_ (by decide +kernel) (by kernel_rfl) (by decide +kernel) (by kernel_rfl) (by intro _; rfl) ?_⟩
  · show closureFor _ (envX c.cn (fScope stL) c.L c.fa c.ccd c.cl) = _
    rw [show c.cl = [(("kind" : Str), cb), (("bank" : Str), ca)] from hcl]
    kernel_rfl
  refine (wk_ok (TL_ok ca cb) hk' 20).e c ok hcl _ _ _ _ ?_
  refine ⟨Nat.le_of_ble_eq_true rfl, fun tp htp => ?_⟩
  have s1 := Sub.upd (ob := .tup [.str "x", .str "y", .str "z"]) htp
  have et : upd σ tp (.tup [.str "x", .str "y", .str "z"]) tp = some (.tup [.str "x", .str "y", .str "z"]) := upd_same
  have w1 := w.sub s1
  generalize upd σ tp (.tup [.str "x", .str "y", .str "z"]) = σ1 at s1 et w1
  refine ⟨σ1, _, _, _, fun i ys σ' => ∃ B' F', LW σ' ca cb ta la cells 1 kind B' F' ∧ F'.names.length = i ∧ F'.args.length = i ∧ F'.res.length = i ∧ B'.keys = keysA kind i ∧ ys = (List.range i).map (fun j => V.int ((3 + j : Nat) : Int)) ∧ σ' tp = some (.tup [.str "x", .str "y", .str "z"]), SourceC.tuple ok et, ⟨σ1, Sub.refl, B, F, w1, by rw [n1]; rfl, by rw [n2]; rfl, by rw [n3]; rfl, hk, rfl, et⟩, by show 3 ≤ sizeLine; (first | lia | omega), fun i ys σ' ⟨_, _, _, _, _, _, _, _, e⟩ => e, ?_, ?_⟩
  · rintro i ys σ' v hi ⟨B', F', w', l1, l2, l3, hk1, rfl, et'⟩ hP C oC m u hC hx iu
    have hi : i < 3 := hi
    obtain ⟨nm, rfl⟩ : ∃ nm : Str, v = .str nm := by
      rcases (show i = 0 ∨ i = 1 ∨ i = 2 by (first | lia | omega)) with rfl | rfl | rfl
      · exact ⟨"x", (Option.some.inj hP).symm⟩
      · exact ⟨"y", (Option.some.inj hP).symm⟩
      · exact ⟨"z", (Option.some.inj hP).symm⟩
    refine EvC.meth ok hk' (by rfl) (by rfl) (by rfl) (by rfl) (EvC.cell ok (by kernel_rfl) w'.ls.cella ?_ (by kernel_rfl) (by kernel_rfl))
    refine ⟨_, _, _, _, 258, rfl, w'.ls.bank.inst, w'.ls.bank.own _ (by decide +kernel), TT_ok.meth _ _ _ (by kernel_rfl), ?_⟩
    refine EvCL.cons (EvC.own hC hx iu (EvCL.cons (EvC.cell ok (by kernel_rfl) w'.cellb (EvCL.nil ?_) (by kernel_rfl) (by kernel_rfl))) (by kernel_rfl) (by kernel_rfl))
    refine fresh_w (n := n + 18) w' (by (first | lia | omega)) (by rw [hk1, keysA_len]; (first | lia | omega)) (by rw [hk1, l1]; exact kA_not (Nat.le_refl i)) fun B2 F2 σ2 w2 f2 ea ek e1 e2 e3 _ => ?_
    refine ⟨σ2, Sub.refl, B2, F2, w2, by rw [e1, List.length_append, l1]; rfl, by (first | lia | omega), by (first | lia | omega), by rw [ek, hk1, l1, keysA_succ]; rfl, ?_, f2 _ _ et' (fun _ => nofun) fun _ => nofun⟩
    rw [List.range_succ, List.map_append, hk1, keysA_len]; rfl
  rintro ys σ2 ⟨B', F', w', l1, l2, l3, hk1, rfl, et'⟩ r hr
  refine ⟨r, _, rfl, .inr upd_same, rfl, ?_⟩
  exact h B' F' _ (w'.sub (Sub.upd hr)) l1 l2 l3 hk1
end
end
section
open PyProof.Rows.LCg
section
variable {σ σ' : Sg} {ca cb ta la : Addr} {cells : List Int} {sp : Nat} {kind : Int} {B B' : Bk} {F F' : Fu}
theorem LW.got (w : LW σ ca cb ta la cells sp kind B F) {k : Nd} (hk : k ∉ B.keys) {Φ : V → Sg → Prop} (h : ∀ B' σ', LW σ' ca cb ta la cells sp kind B' F → Keeps B σ σ' → B'.keys = B.keys ++ [k] → Ext B B' → Φ (.int (B.keys.length : Nat)) σ') : Got B σ k Φ := fun B' σ' t H g K => by
  obtain ⟨e1, rfl⟩ := g.new hk
  exact h B' σ' (w.keeps H g.ext K) K e1 g.ext
theorem Bk.node {B : Bk} {t : Nat} {k : Nd} (h : B.keys[t]? = some k) : ∃ m, B.nodes[t]? = some m ∧ m.key = k := Bk.key h
end
section
variable {n : Nat} {σ : Sg} {Φ : Fl → Rho → Sg → Prop} {ca cb : Addr} {sa ta la : Addr} {cells : List Int} {B : Bk} {F : Fu} {kind : Int}
noncomputable abbrev ρ3 (sa ta : Addr) : Rho := put (put (ρ2 sa ta 3 4 5) "p" (.int 6)) "f" (.int 3)
noncomputable def keys7 (kind : Int) : List Nd := keysA kind 3 ++ [⟨"app", [], 0, .inl 4⟩]
theorem law3 (w : LW σ ca cb ta la cells 1 kind B F) (n1 : F.names.length = 3) (n2 : F.args.length = 3) (n3 : F.res.length = 3) (hk : B.keys = keysA kind 3)
    (h : ∀ B' F' σ' t, LW σ' ca cb ta la cells 1 kind B' F' → F'.names[3]? = some (.str "f") → F'.args[3]? = some (.ref t) → F'.res[3]? = some (.int kind) → σ' t = some (.tup [.int kind]) → B'.keys = keys7 kind → wL ca cb (n + 20) 16 4 (ρ3 sa ta) σ' Φ) : wL ca cb (n + 20) 17 3 (ρ2 sa ta 3 4 5) σ Φ := by
  have big : 1000 ≤ sizeLine := Nat.le_of_ble_eq_true rfl
  refine ⟨ca, _, rfl, w.ls.cella, .inl ⟨_, _, _, _, 244, rfl, w.ls.bank.inst, w.ls.bank.own _ (by decide +kernel), by kernel_rfl, ?_⟩⟩
  refine ⟨cb, _, rfl, w.cellb, Nat.le_of_ble_eq_true rfl, fun t ht => ?_⟩
  have s1 := Sub.upd (ob := .tup [.int kind]) ht
  have et : upd σ t (.tup [.int kind]) t = some (.tup [.int kind]) := upd_same
  have w1 := w.sub s1
  generalize upd σ t (.tup [.int kind]) = σ1 at s1 et w1
  refine ⟨cb, _, rfl, w1.cellb, ?_⟩
  refine declare_ok (n := n + 19) w1.ls.bank w1.fn (by (first | lia | omega)) et fun σ2 H2 G2 K2 => ?_
  have w2 := w1.decl H2 G2 rfl K2
  have et2 := K2 _ _ et (w1.fn.notin et fun _ => nofun)
  refine ⟨ca, _, rfl, w2.ls.cella, .inl ⟨_, _, _, _, 258, rfl, w2.ls.bank.inst, w2.ls.bank.own _ (by decide +kernel), by kernel_rfl, ?_⟩⟩
  have l1 : (F.push (.str "f") (.ref t) (.int kind)).names.length = 4 := by show (F.names ++ _).length = 4; rw [List.length_append, n1]; rfl
  have l2 : (F.push (.str "f") (.ref t) (.int kind)).args.length = 4 := by show (F.args ++ _).length = 4; rw [List.length_append, n2]; rfl
  have l3 : (F.push (.str "f") (.ref t) (.int kind)).res.length = 4 := by show (F.res ++ _).length = 4; rw [List.length_append, n3]; rfl
  refine fresh_w (n := n + 18) w2 (by (first | lia | omega)) (by rw [hk, keysA_len]; (first | lia | omega)) (by rw [hk, l1]; exact kA_not (by (first | lia | omega))) fun B3 F3 σ3 w3 f3 ea ek e1 e2 e3 e4 => ?_
  refine fun pr hpr => ?_
  have s4 := Sub.upd (ob := .tup [.int F.names.length, .int (B.keys.length : Nat)]) hpr
  have w4 := w3.sub s4
  have g1 : F3.names[3]? = some (.str "f") := by rw [e1]; show ((F.names ++ [_]) ++ _)[3]? = _; rw [List.append_assoc, List.getElem?_append_right (by (first | lia | omega)), n1]; rfl
  have g2 : F3.args[3]? = some (.ref t) := by obtain ⟨l, e⟩ := e4.1; rw [← e]; show ((F.args ++ [_]) ++ _)[3]? = _; rw [List.append_assoc, List.getElem?_append_right (by (first | lia | omega)), n2]; rfl
  have g3 : F3.res[3]? = some (.int kind) := by obtain ⟨l, e⟩ := e4.2; rw [← e]; show ((F.res ++ [_]) ++ _)[3]? = _; rw [List.append_assoc, List.getElem?_append_right (by (first | lia | omega)), n3]; rfl
  have := h B3 F3 _ t w4 g1 g2 g3 (s4 _ _ (f3 _ _ et2 (fun _ => nofun) fun _ => nofun)) (by rw [ek, hk, l1]; rfl)
  have e5 : B.keys.length = 6 := by rw [hk, keysA_len]
  rw [n1, e5] at this ⊢
  exact this
end
end
section
open PyProof.Rows.LCg
theorem BankAt.fresh {σ : Sg} {B : Bk} (H : BankAt σ B) {a : Addr} (e : σ a = none) : a ∉ B.mut := by
  intro hm
  simp only [Bk.mut, List.mem_cons, List.not_mem_nil, or_false] at hm
  rcases hm with rfl | rfl | rfl | rfl | rfl
  · rw [H.o1] at e; cases e
  · rw [H.o2] at e; cases e
  · rw [H.o3] at e; cases e
  · rw [H.o4] at e; cases e
  · rw [H.o5] at e; cases e
section
variable {n : Nat} {σ : Sg} {Φ : Fl → Rho → Sg → Prop} {ca cb : Addr} {sa ta la : Addr} {cells : List Int} {B : Bk} {F : Fu} {kind : Int}
noncomputable def keysT (kind : Int) : List Nd := keys7 kind ++ [⟨"+", [3, 4], kind, .inl 0⟩] ++ [⟨"app", [7], kind, .inl 3⟩] ++ [⟨"+", [4, 5], kind, .inl 0⟩] ++ [⟨"ite", [6, 9, 3], kind, .inl 0⟩]
theorem knew1 (h : kind = 1 ∨ kind = 2) : (⟨"+", [3, 4], kind, .inl 0⟩ : Nd) ∉ keys7 kind := by rcases h with rfl | rfl <;> decide +kernel
theorem knew2 (h : kind = 1 ∨ kind = 2) : (⟨"app", [7], kind, .inl 3⟩ : Nd) ∉ keys7 kind ++ [⟨"+", [3, 4], kind, .inl 0⟩] := by rcases h with rfl | rfl <;> decide +kernel
theorem knew3 (h : kind = 1 ∨ kind = 2) : (⟨"+", [4, 5], kind, .inl 0⟩ : Nd) ∉ keys7 kind ++ [⟨"+", [3, 4], kind, .inl 0⟩] ++ [⟨"app", [7], kind, .inl 3⟩] := by rcases h with rfl | rfl <;> decide +kernel
theorem knew4 (h : kind = 1 ∨ kind = 2) : (⟨"ite", [6, 9, 3], kind, .inl 0⟩ : Nd) ∉ keys7 kind ++ [⟨"+", [3, 4], kind, .inl 0⟩] ++ [⟨"app", [7], kind, .inl 3⟩] ++ [⟨"+", [4, 5], kind, .inl 0⟩] := by rcases h with rfl | rfl <;> decide +kernel
theorem law4 {t : Addr} (w : LW σ ca cb ta la cells 1 kind B F) (hkd : kind = 1 ∨ kind = 2) (f1 : F.names[3]? = some (.str "f")) (f2 : F.args[3]? = some (.ref t)) (f3 : F.res[3]? = some (.int kind)) (ht : σ t = some (.tup [.int kind])) (hk : B.keys = keys7 kind)
    (h : ∀ B' σ' l, LW σ' ca cb ta la cells 1 kind B' F → B'.keys = keysT kind → σ' l = some (.list [.int 3, .int 4, .int 5, .int 8, .int 10]) → l ∉ B'.mut → wL ca cb (n + 20) 15 5 (put (ρ3 sa ta) "things" (.ref l)) σ' Φ) : wL ca cb (n + 20) 16 4 (ρ3 sa ta) σ Φ := by
  have big : 1000 ≤ sizeLine := Nat.le_of_ble_eq_true rfl
  have kl : ∀ {B : Bk}, B.nodes.length = B.keys.length := (List.length_map _).symm
  refine ⟨ca, _, rfl, w.ls.cella, .inl ⟨_, _, _, _, 482, rfl, w.ls.bank.inst, w.ls.bank.own _ (by decide +kernel), by kernel_rfl, ?_⟩⟩
  refine ⟨ca, _, rfl, w.ls.cella, .inl ⟨_, _, _, _, 543, rfl, w.ls.bank.inst, w.ls.bank.own _ (by decide +kernel), by kernel_rfl, ?_⟩⟩
  refine ⟨Nat.le_of_ble_eq_true rfl, fun tp htp => ?_⟩
  have s1 := Sub.upd (ob := .tup [.int 3, .int 4]) htp
  have et : upd σ tp (.tup [.int 3, .int 4]) tp = some (.tup [.int 3, .int 4]) := upd_same
  have w1 := w.sub s1
  have ht1 := s1 _ _ ht
  generalize upd σ tp (.tup [.int 3, .int 4]) = σ1 at s1 et w1 ht1
  have srt : ∀ {B : Bk} {t : Nat} {k : Nd}, B.keys[t]? = some k → k.sort = kind → ∃ m, B.nodes[t]? = some m ∧ m.key.sort = kind := fun e es => by
    obtain ⟨m, h1, h2⟩ := Bk.node e
    exact ⟨m, h1, by rw [h2]; exact es⟩
  refine plus_ok (n := n + 17) (t0 := 3) (ts := [4]) (s := kind) w1.ls.bank (by rw [kl, hk]; exact (by decide : 7 < 2 ^ 20)) (.inr et) (by simp) hkd (fun x hx => ?_) (Got.made w1.ls.bank (w1.got (by rw [hk]; exact knew1 hkd) fun B2 σ2 w2 K2 ek2 x2 => ?_))
  · rcases List.mem_cons.mp hx with rfl | hx
    · exact srt (k := kA kind 0) (by rw [hk]; rfl) rfl
    · rw [List.mem_singleton] at hx; subst hx
      exact srt (k := kA kind 1) (by rw [hk]; rfl) rfl
  rw [hk] at ek2 ⊢
  have ht2 := K2.firm w1.ls.bank _ _ ht1 (fun _ => nofun) fun _ => nofun
  refine ⟨Nat.le_of_ble_eq_true rfl, fun t2 ht2' => ?_⟩
  have s3 := Sub.upd (ob := .tup [.int (7 : Nat)]) ht2'
  have et3 : upd σ2 t2 (.tup [.int (7 : Nat)]) t2 = some (.tup [.int (7 : Nat)]) := upd_same
  have w3 := w2.sub s3
  have ht3 := s3 _ _ ht2
  rw [← x2.a]
  show CallOk (n + 18 + 2) 482 _ (upd σ2 t2 (.tup [.int (7 : Nat)])) _
  generalize upd σ2 t2 (.tup [.int (7 : Nat)]) = σ3 at s3 et3 w3 ht3
  obtain ⟨m7, hm7, em7⟩ := srt (B := B2) (t := 7) (k := ⟨"+", [3, 4], kind, .inl 0⟩) (by rw [ek2]; rfl) rfl
  refine app_ok (n := n + 18) (fi := 3) w3.ls.bank (by rw [kl, ek2]; exact (by decide : 8 < 2 ^ 20)) w3.fn f2 f1 f3 (by decide) ht3 et3 hm7 em7 (w3.got (by rw [ek2]; exact knew2 hkd) fun B4 σ4 w4 K4 ek4 x4 => ?_)
  rw [ek2] at ek4 ⊢
  refine ⟨ca, _, rfl, w4.ls.cella, .inl ⟨_, _, _, _, 475, rfl, w4.ls.bank.inst, w4.ls.bank.own _ (by decide +kernel), by kernel_rfl, ?_⟩⟩
  refine ⟨ca, _, rfl, w4.ls.cella, .inl ⟨_, _, _, _, 543, rfl, w4.ls.bank.inst, w4.ls.bank.own _ (by decide +kernel), by kernel_rfl, ?_⟩⟩
  refine ⟨Nat.le_of_ble_eq_true rfl, fun t5 ht5 => ?_⟩
  have s5 := Sub.upd (ob := .tup [.int 4, .int 5]) ht5
  have et5 : upd σ4 t5 (.tup [.int 4, .int 5]) t5 = some (.tup [.int 4, .int 5]) := upd_same
  have w5 := w4.sub s5
  generalize upd σ4 t5 (.tup [.int 4, .int 5]) = σ5 at s5 et5 w5
  refine plus_ok (n := n + 17) (t0 := 4) (ts := [5]) (s := kind) w5.ls.bank (by rw [kl, ek4]; exact (by decide : 9 < 2 ^ 20)) (.inr et5) (by simp) hkd (fun x hx => ?_) (Got.made w5.ls.bank (w5.got (by rw [ek4]; exact knew3 hkd) fun B6 σ6 w6 K6 ek6 x6 => ?_))
  · rcases List.mem_cons.mp hx with rfl | hx
    · exact srt (k := kA kind 1) (by rw [ek4]; rfl) rfl
    · rw [List.mem_singleton] at hx; subst hx
      exact srt (k := kA kind 2) (by rw [ek4]; rfl) rfl
  rw [ek4] at ek6 ⊢
  rw [← x6.a]
  obtain ⟨m6, hm6, em6⟩ := Bk.node (B := B6) (t := 6) (k := ⟨"app", [], 0, .inl 4⟩) (by rw [ek6]; rfl)
  obtain ⟨m9, hm9, em9⟩ := srt (B := B6) (t := 9) (k := ⟨"+", [4, 5], kind, .inl 0⟩) (by rw [ek6]; rfl) rfl
  obtain ⟨m3, hm3, em3⟩ := srt (B := B6) (t := 3) (k := kA kind 0) (by rw [ek6]; rfl) rfl
  refine ite_ok (n := n + 18) (c := 6) (a := 9) (b := 3) w6.ls.bank (by rw [kl, ek6]; exact (by decide : 10 < 2 ^ 20)) hm6 hm9 hm3 (by rw [em6]) em9 em3 (w6.got (by rw [ek6]; exact knew4 hkd) fun B7 σ7 w7 K7 ek7 x7 => ?_)
  rw [ek6] at ek7 ⊢
  refine ⟨Nat.le_of_ble_eq_true rfl, fun l hl => ?_⟩
  exact h B7 _ l (w7.sub (Sub.upd hl)) ek7 upd_same (w7.ls.bank.fresh hl)
end
end
section
/-! ## the first terms, plainly -/
theorem keysT_cases {kind : Int} {P : Nat → Nd → Prop} (h0 : P 0 k0) (h1 : P 1 k1) (h2 : P 2 k2) (h3 : P 3 (kA kind 0)) (h4 : P 4 (kA kind 1)) (h5 : P 5 (kA kind 2)) (h6 : P 6 ⟨"app", [], 0, .inl 4⟩)
    (h7 : P 7 ⟨"+", [3, 4], kind, .inl 0⟩) (h8 : P 8 ⟨"app", [7], kind, .inl 3⟩) (h9 : P 9 ⟨"+", [4, 5], kind, .inl 0⟩) (h10 : P 10 ⟨"ite", [6, 9, 3], kind, .inl 0⟩) : ∀ (i : Nat) n, (keysT kind)[i]? = some n → P i n := by
  intro i n e
  have go : ∀ {j : Nat} {k : Nd}, (keysT kind)[j]? = some k → (keysT kind)[j]? = some n → P j k → P j n := fun e1 e2 p => by
    rw [e1] at e2
    rw [← Option.some.inj e2]; exact p
  have hi : i < 11 := (List.getElem?_eq_some_iff.mp e).1
  rcases (show i = 0 ∨ i = 1 ∨ i = 2 ∨ i = 3 ∨ i = 4 ∨ i = 5 ∨ i = 6 ∨ i = 7 ∨ i = 8 ∨ i = 9 ∨ i = 10 by (first | lia | omega)) with rfl | rfl | rfl | rfl | rfl | rfl | rfl | rfl | rfl | rfl | rfl
  · exact go rfl e h0
  · exact go rfl e h1
  · exact go rfl e h2
  · exact go rfl e h3
  · exact go rfl e h4
  · exact go rfl e h5
  · exact go rfl e h6
  · exact go rfl e h7
  · exact go rfl e h8
  · exact go rfl e h9
  · exact go rfl e h10
theorem nEN : ("" : Str) ≠ "num" := by decide +kernel
theorem nEP : ("" : Str) ≠ "+" := by decide +kernel
theorem nET : ("" : Str) ≠ "*" := by decide +kernel
theorem nTN : ("true" : Str) ≠ "num" := by decide +kernel
theorem nTP : ("true" : Str) ≠ "+" := by decide +kernel
theorem nTT : ("true" : Str) ≠ "*" := by decide +kernel
theorem nFN : ("false" : Str) ≠ "num" := by decide +kernel
theorem nFP : ("false" : Str) ≠ "+" := by decide +kernel
theorem nFT : ("false" : Str) ≠ "*" := by decide +kernel
theorem nAN : ("app" : Str) ≠ "num" := by decide +kernel
theorem nAP : ("app" : Str) ≠ "+" := by decide +kernel
theorem nAT : ("app" : Str) ≠ "*" := by decide +kernel
theorem nIN : ("ite" : Str) ≠ "num" := by decide +kernel
theorem nIP : ("ite" : Str) ≠ "+" := by decide +kernel
theorem nIT : ("ite" : Str) ≠ "*" := by decide +kernel
noncomputable def thingsL : List Nat := [3, 4, 5, 8, 10]
theorem lin0 {kind : Int} (hk : kind = 1 ∨ kind = 2) : Lin (keysT kind) kind thingsL 0 where
  args := by
    refine keysT_cases ?_ ?_ ?_ ?_ ?_ ?_ ?_ ?_ ?_ ?_ ?_
    · exact ⟨Nat.le_of_ble_eq_true rfl, fun a ha => nomatch ha⟩
    · exact ⟨Nat.le_of_ble_eq_true rfl, fun a ha => nomatch ha⟩
    · exact ⟨Nat.le_of_ble_eq_true rfl, fun a ha => nomatch ha⟩
    · exact ⟨Nat.le_of_ble_eq_true rfl, fun a ha => nomatch ha⟩
    · exact ⟨Nat.le_of_ble_eq_true rfl, fun a ha => nomatch ha⟩
    · exact ⟨Nat.le_of_ble_eq_true rfl, fun a ha => nomatch ha⟩
    · exact ⟨Nat.le_of_ble_eq_true rfl, fun a ha => nomatch ha⟩
    · refine ⟨Nat.le_of_ble_eq_true rfl, fun a ha => ?_⟩
      simp only [List.mem_cons, List.not_mem_nil, or_false] at ha
      rcases ha with rfl | rfl
      · exact ⟨3, rfl, by decide⟩
      · exact ⟨4, rfl, by decide⟩
    · refine ⟨Nat.le_of_ble_eq_true rfl, fun a ha => ?_⟩
      simp only [List.mem_cons, List.not_mem_nil, or_false] at ha
      rcases ha with rfl
      exact ⟨7, rfl, by decide⟩
    · refine ⟨Nat.le_of_ble_eq_true rfl, fun a ha => ?_⟩
      simp only [List.mem_cons, List.not_mem_nil, or_false] at ha
      rcases ha with rfl | rfl
      · exact ⟨4, rfl, by decide⟩
      · exact ⟨5, rfl, by decide⟩
    · refine ⟨Nat.le_of_ble_eq_true rfl, fun a ha => ?_⟩
      simp only [List.mem_cons, List.not_mem_nil, or_false] at ha
      rcases ha with rfl | rfl | rfl
      · exact ⟨6, rfl, by decide⟩
      · exact ⟨9, rfl, by decide⟩
      · exact ⟨3, rfl, by decide⟩
  num := keysT_cases (fun e => absurd e nEN) (fun e => absurd e nTN) (fun e => absurd e nFN) (fun e => absurd e nAN) (fun e => absurd e nAN) (fun e => absurd e nAN) (fun e => absurd e nAN) (fun e => absurd e nePN) (fun e => absurd e nAN) (fun e => absurd e nePN) (fun e => absurd e nIN)
  plus := by
    refine keysT_cases (fun e => absurd e nEP) (fun e => absurd e nTP) (fun e => absurd e nFP) (fun e => absurd e nAP) (fun e => absurd e nAP) (fun e => absurd e nAP) (fun e => absurd e nAP) (fun _ => ⟨rfl, fun a ha => ?_⟩) (fun e => absurd e nAP) (fun _ => ⟨rfl, fun a ha => ?_⟩) (fun e => absurd e nIP)
    · simp only [List.mem_cons, List.not_mem_nil, or_false] at ha
      rcases ha with rfl | rfl
      · exact ⟨3, kA kind 0, rfl, rfl, rfl⟩
      · exact ⟨4, kA kind 1, rfl, rfl, rfl⟩
    · simp only [List.mem_cons, List.not_mem_nil, or_false] at ha
      rcases ha with rfl | rfl
      · exact ⟨4, kA kind 1, rfl, rfl, rfl⟩
      · exact ⟨5, kA kind 2, rfl, rfl, rfl⟩
  times := keysT_cases (fun e => absurd e nET) (fun e => absurd e nTT) (fun e => absurd e nFT) (fun e => absurd e nAT) (fun e => absurd e nAT) (fun e => absurd e nAT) (fun e => absurd e nAT) (fun e => absurd e nePT) (fun e => absurd e nAT) (fun e => absurd e nePT) (fun e => absurd e nIT)
  thing := fun i hi => by
    simp only [thingsL, List.mem_cons, List.not_mem_nil, or_false] at hi
    rcases hi with rfl | rfl | rfl | rfl | rfl
    · exact ⟨kA kind 0, rfl, rfl, nAN, nAP, nAT⟩
    · exact ⟨kA kind 1, rfl, rfl, nAN, nAP, nAT⟩
    · exact ⟨kA kind 2, rfl, rfl, nAN, nAP, nAT⟩
    · exact ⟨⟨"app", [7], kind, .inl 3⟩, rfl, rfl, nAN, nAP, nAT⟩
    · exact ⟨⟨"ite", [6, 9, 3], kind, .inl 0⟩, rfl, rfl, nIN, nIP, nIT⟩
  other := by
    have z : ∀ {P : Prop}, (0 : Int) = kind → P := fun e => by rcases hk with rfl | rfl <;> cases e
    exact keysT_cases (fun e => z e) (fun e => z e) (fun e => z e) (fun _ _ _ _ => by decide) (fun _ _ _ _ => by decide) (fun _ _ _ _ => by decide) (fun e => z e) (fun _ _ h _ => absurd rfl h) (fun _ _ _ _ => by decide) (fun _ _ h _ => absurd rfl h) (fun _ _ _ _ => by decide)
end
section
open PyProof.Rows.LCg
/-- the loop's state -/
structure LC (σ : Sg) (ca cb ta la thl pa : Addr) (cells : List Int) (sp : Nat) (kind : Int) (B : Bk) (L : Nat) (pool : List Nat) : Prop where
  ls : LSt σ ca ta la cells sp B
  cellb : σ cb = some (.cell (some (.int kind)))
  kd : kind = 1 ∨ kind = 2
  lin : Lin B.keys kind thingsL L
  th : σ thl = some (.list (intV thingsL))
  nth : thl ∉ B.mut
  pl : σ pa = some (.list (poolV pool))
  npl : pa ∉ B.mut
  num : ∀ t ∈ pool, NumT B kind t
  ne : pa ≠ thl ∧ pa ≠ la
section
variable {n : Nat} {σ : Sg} {Φ : Fl → Rho → Sg → Prop} {ca cb : Addr} {sa ta la : Addr} {cells : List Int} {B : Bk} {F : Fu} {kind : Int}
theorem Lin.numT {B : Bk} {things : List Nat} {L : Nat} (H : Lin B.keys kind things L) {i : Nat} (hi : i ∈ things) : NumT B kind i := by
  obtain ⟨k, e, hs, _⟩ := H.thing i hi
  obtain ⟨m, h1, h2⟩ := Bk.node e
  exact ⟨m, h1, by rw [h2]; exact hs⟩
noncomputable abbrev ρ4 (sa ta thl : Addr) : Rho := put (ρ3 sa ta) "things" (.ref thl)
noncomputable abbrev ρ5 (sa ta thl pl : Addr) : Rho := put (ρ4 sa ta thl) "pool" (.ref pl)
theorem law5 {thl : Addr} (w : LW σ ca cb ta la cells 1 kind B F) (hkd : kind = 1 ∨ kind = 2) (hk : B.keys = keysT kind) (hth : σ thl = some (.list [.int 3, .int 4, .int 5, .int 8, .int 10])) (hnt : thl ∉ B.mut)
    (h : ∀ B' σ' pl t, LC σ' ca cb ta la thl pl cells 1 kind B' 0 (thingsL ++ [t]) → B'.nodes.length ≤ 12 → wL ca cb (n + 20) 14 6 (ρ5 sa ta thl pl) σ' Φ) : wL ca cb (n + 20) 15 5 (ρ4 sa ta thl) σ Φ := by
  have big : 1000 ≤ sizeLine := Nat.le_of_ble_eq_true rfl
  have kl : B.nodes.length = 11 := by rw [← show B.keys.length = B.nodes.length from List.length_map _, hk]; rfl
  refine ⟨ca, _, rfl, w.ls.cella, .inl ⟨_, _, _, _, 529, rfl, w.ls.bank.inst, w.ls.bank.own _ (by decide +kernel), by kernel_rfl, ?_⟩⟩
  refine ⟨Nat.le_of_ble_eq_true rfl, fun tp htp => ?_⟩
  have s1 := Sub.upd (ob := .tup [.int 3, .int 1]) htp
  have et : upd σ tp (.tup [.int 3, .int 1]) tp = some (frac 3) := upd_same
  have w1 := w.sub s1
  have hth1 := s1 _ _ hth
  generalize upd σ tp (.tup [.int 3, .int 1]) = σ1 at s1 et w1 hth1
  refine ⟨cb, _, rfl, w1.cellb, ?_⟩
  have l0 : Lin B.keys kind thingsL 0 := by rw [hk]; exact lin0 hkd
  refine num_t (n := n + 18) w1.ls.bank l0 (by (first | lia | omega)) (by (first | lia | omega)) hkd et ⟨3, by decide +kernel, by decide⟩ (fun _ => rfl) fun B2 σ2 t H2 L2 x2 len2 K2 m2 => ?_
  have w2 := w1.keeps H2 x2 K2
  have hth2 := K2 _ _ hth1 hnt
  refine ⟨Nat.le_of_ble_eq_true rfl, fun a ha => ?_⟩
  have s3 := Sub.upd (ob := .list [.int (t : Int)]) ha
  refine OSpec.addL (s3 _ _ hth2) upd_same (by simp; (first | lia | omega)) fun pl hpl => ?_
  have s4 := Sub.upd (ob := .list ([.int 3, .int 4, .int 5, .int 8, .int 10] ++ [.int (t : Int)])) hpl
  have s34 := s3.trans s4
  have hth4 := s34 _ _ hth2
  have el4 := s34 _ _ w2.ls.tape.cell
  have nt2 : thl ∉ B2.mut := by rw [x2.mt]; exact hnt
  have npl : pl ∉ B2.mut := (w2.ls.bank.sub s3).fresh hpl
  have w4 := w2.sub s34
  refine h B2 _ pl t ⟨w4.ls, w4.cellb, hkd, L2, hth4, nt2, upd_same, npl, fun x hx => ?_, fun q => ?_, fun q => ?_⟩ (by (first | lia | omega))
  · rcases List.mem_append.mp hx with q | q
    · exact L2.numT q
    · rw [List.mem_singleton] at q; subst q; exact m2
  · rw [q, s3 _ _ hth2] at hpl; cases hpl
  · rw [q, s3 _ _ w2.ls.tape.cell] at hpl; cases hpl
end
end
section
open PyProof.Rows.LCg
noncomputable def ptF (kind : Int) (k : Nat) : Rat := mkRat (3 * (k : Int) - 4) (if kind = 2 then 1 + k % 2 else 1)
noncomputable def ptV (kind : Int) (i : Nat) : Rat := ptF kind (thingsL.idxOf i)
theorem ptF_sz {kind : Int} {k : Nat} (h : k < 5) : Sz 12 8 (ptF kind k) := by
  unfold ptF
  by_cases q : kind = 2
  · rw [if_pos q]
    rcases (show k = 0 ∨ k = 1 ∨ k = 2 ∨ k = 3 ∨ k = 4 by (first | lia | omega)) with rfl | rfl | rfl | rfl | rfl
    · exact Sz.mk (by decide) (by decide) (by decide)
    · exact Sz.mk (by decide) (by decide) (by decide)
    · exact Sz.mk (by decide) (by decide) (by decide)
    · exact Sz.mk (by decide) (by decide) (by decide)
    · exact Sz.mk (by decide) (by decide) (by decide)
  · rw [if_neg q]
    exact Sz.mk (by decide) (by decide) (by (first | lia | omega))
theorem ptV_at {kind : Int} {i k : Nat} (h : thingsL[i]? = some k) : ptV kind k = ptF kind i ∧ i < 5 := by
  have hi : i < 5 := (List.getElem?_eq_some_iff.mp h).1
  refine ⟨?_, hi⟩
  rcases (show i = 0 ∨ i = 1 ∨ i = 2 ∨ i = 3 ∨ i = 4 by (first | lia | omega)) with rfl | rfl | rfl | rfl | rfl <;> (cases h; rfl)
theorem ptV_sz {kind : Int} {i : Nat} (h : i ∈ thingsL) : Sz 12 8 (ptV kind i) := by
  obtain ⟨j, hj⟩ := List.mem_iff_getElem?.mp h
  rw [(ptV_at hj).1]; exact ptF_sz (ptV_at (kind := kind) hj).2
section
variable {n : Nat} {σ : Sg} {Φ : Fl → Rho → Sg → Prop} {ca cb : Addr} {sa ta la thl pl : Addr} {cells : List Int} {sp L : Nat} {B : Bk} {kind : Int} {pool : List Nat}
theorem LC.sub {σ' : Sg} (s : Sub σ σ') (w : LC σ ca cb ta la thl pl cells sp kind B L pool) : LC σ' ca cb ta la thl pl cells sp kind B L pool :=
  ⟨w.ls.sub s, s _ _ w.cellb, w.kd, w.lin, s _ _ w.th, w.nth, s _ _ w.pl, w.npl, w.num, w.ne⟩
theorem thingsL_nd : thingsL.Nodup := by decide
noncomputable abbrev ρ6 (sa ta thl pl pa : Addr) : Rho := put (ρ5 sa ta thl pl) "point" (.ref pa)
theorem law6 (w : LC σ ca cb ta la thl pl cells sp kind B L pool)
    (h : ∀ σ' pa, Sub σ σ' → PtAt σ' pa thingsL (ptV kind) → (∃ kv, σ' pa = some (.idict kv)) → wL ca cb (n + 20) 13 7 (ρ6 sa ta thl pl pa) σ' Φ) : wL ca cb (n + 20) 14 6 (ρ5 sa ta thl pl) σ Φ := by
  have big : 1000 ≤ sizeLine := Nat.le_of_ble_eq_true rfl
  refine ⟨fun c ok hcl hk' => Ev.compE ok (cl := [(("kind" : Str), cb)]) ?_ (by decide +kernel) (by kernel_rfl) (by decide +kernel) (by kernel_rfl) (by kernel_rfl) (by decide +kernel) (by intro _; rfl) ?_⟩
  · show closureFor _ (envX c.cn (fScope stL) c.L c.fa c.ccd c.cl) = _
    rw [show c.cl = [(("kind" : Str), cb), (("bank" : Str), ca)] from hcl]
    kernel_rfl
  refine (wk_ok (TL_ok ca cb) hk' 20).e c ok hcl _ _ _ _ ?_
  refine TSpec.enumL w.th fun en it oi hne hen hit oc od => ?_
  have S0 : Sub σ (upd (upd σ it (.raw oi)) en (.raw (enumO it 0 .none))) := (Sub.upd hit).trans (Sub.upd ((upd_ne hne).trans hen))
  refine ⟨en, it, oi, thl, intV thingsL, σ, rfl, upd_same, (upd_ne hne.symm).trans upd_same, oc, od, hne, S0, hen, hit, by show 5 ≤ sizeLine; (first | lia | omega), fun i ys σ' => Sub σ σ' ∧ ∃ kvs, PairsIn σ' ys kvs ∧ DR σ' kvs (tab (thingsL.take i) (ptV kind)), ⟨Sub.refl, [], ⟨rfl, fun _ _ _ h => nomatch h⟩, .nil⟩, fun i ys σ' hJ => hJ.1 _ _ w.th, ?_, ?_⟩
  · rintro i ys σ1 v ⟨s1, kvs, hpr, hd⟩ hP C oC m u1 u2 hC hx hy i1 i2
    obtain ⟨k, hk, rfl⟩ := intV_get hP
    obtain ⟨hpt, hi⟩ := ptV_at (kind := kind) hk
    have w1 := w.sub s1
    have fin : ∀ (b : Nat), b = (if kind = 2 then 1 + i % 2 else 1) → ∀ q, σ1 q = none → ∀ a2, upd σ1 q (frac (mkRat (3 * (i : Int) - 4) b)) a2 = none →
        SubQ (fun σ'' => Sub σ σ'' ∧ ∃ kvs, PairsIn σ'' (ys ++ [.ref a2]) kvs ∧ DR σ'' kvs (tab (thingsL.take (i + 1)) (ptV kind))) (upd (upd σ1 q (frac (mkRat (3 * (i : Int) - 4) b))) a2 (.tup [.int (k : Int), .ref q])) := fun b hb q hq a2 h2 => by
      have s2 := Sub.upd (ob := frac (mkRat (3 * (i : Int) - 4) b)) hq
      have s3 := Sub.upd (ob := .tup [.int (k : Int), .ref q]) h2
      refine ⟨_, Sub.refl, (s1.trans s2).trans s3, kvs ++ [((k : Int), .ref q)], (hpr.sub (s2.trans s3)).snoc upd_same, ?_⟩
      rw [tab_take hk]
      refine (hd.sub (s2.trans s3)).snoc (s3 _ _ ?_)
      rw [hpt, ptF, ← hb]; exact upd_same
    have le2 : (2 : Nat) ≤ sizeLine := Nat.le_of_ble_eq_true rfl
    refine EvC.tuple ok (EvCL.cons (EvC.own hC hy i2 ?_ (by kernel_rfl) (by kernel_rfl)))
    refine EvCL.cons (EvC.call ok hk' (TT_ok.fn "_law_lowest" 737 (by kernel_rfl)) ?_ (by kernel_rfl) (by kernel_rfl))
    refine EvCL.cons (EvC.opI (3 * (i : Int) - 4) (fun q => sub_int q) (EvC.opI (3 * (i : Int)) (fun q => mul_int q (mulOk (by decide +kernel) ?_)) (EvC.int ⟨rfl, EvC.own hC hx i1 ⟨rfl, rfl, EvC.int ⟨rfl, ?_⟩⟩ (by kernel_rfl) (by kernel_rfl)⟩)))
    · have : (5 : Nat) < 2 ^ 4000 := by decide +kernel
      (first | lia | omega)
    refine EvCL.cons (EvC.ifEq rfl (EvC.cell ok (by kernel_rfl) w1.cellb ⟨rfl, EvC.glob (v := .int 2) (u := .int 2 425) ok ⟨_, rfl⟩ (fun P => by kernel_rfl) ⟨rfl, fun e => ?_, fun e => ?_⟩ (by kernel_rfl) (by kernel_rfl)⟩ (by kernel_rfl) (by kernel_rfl)))
    · refine EvC.opI (1 + ((i % 2 : Nat) : Int)) (fun q => add_int q) (EvC.int ⟨rfl, EvC.opI ((i % 2 : Nat) : Int) (fun q => ?_) (EvC.own hC hx i1 ⟨rfl, EvC.int ⟨rfl, rfl, ?_⟩⟩ (by kernel_rfl) (by kernel_rfl))⟩)
      · refine mod_int' (by decide) ?_
        rw [show Int.fmod (i : Int) 2 = ((i % 2 : Nat) : Int) by rw [Int.fmod_eq_emod_of_nonneg _ (by decide)]; rfl]
        exact q
      · refine EvCL.nil ?_
        rw [show (1 : Int) + ((i % 2 : Nat) : Int) = ((1 + i % 2 : Nat) : Int) by (first | lia | omega)]
        refine lowestR (n := n + 19) (by (first | lia | omega)) (Nat.lt_of_le_of_lt (show 1 + i % 2 ≤ 4 by (first | lia | omega)) (by decide +kernel)) fun q hq => EvCL.nil ⟨le2, fun a2 h2 => fin _ (by rw [if_pos e]) q hq a2 h2⟩
    · refine EvC.int (EvCL.nil (lowestR (n := n + 19) (b := 1) (by decide) (by decide +kernel) fun q hq => EvCL.nil ⟨le2, fun a2 h2 => fin _ (by rw [if_neg e]) q hq a2 h2⟩))
  · rintro ys σ2 ⟨s2, kvs, hpr, hd⟩ r hr
    have e5 : (intV thingsL).length = 5 := rfl
    rw [e5, show thingsL.take 5 = thingsL from rfl] at hd
    have s3 := Sub.upd (ob := .list ys) hr
    have kl : kvs.length = 5 := by rw [hd.length]; rfl
    refine TSpec.dictL (kvs := kvs) upd_same (hpr.sub s3) (by rw [hd.keys, tab_keys]; exact keys_nodup thingsL_nd) (by (first | lia | omega)) fun pa hpa => ?_
    have s4 := Sub.upd (ob := .idict kvs) hpa
    exact h _ pa ((s2.trans s3).trans s4) (PtAt.of upd_same (hd.sub (s3.trans s4)) (by decide)) ⟨kvs, upd_same⟩
end
end
section
open PyProof.Rows.LCg
section
variable {σ σ' : Sg} {pa : Addr} {things : List Nat} {pt : Nat → Rat} {ca cb ta la thl pl : Addr} {cells : List Int} {sp sp' L L' t : Nat} {B B' : Bk} {kind : Int} {pool : List Nat}
theorem PtAt.updL {b : Addr} {vs : List V} {ob : Ob} (P : PtAt σ pa things pt) (e : σ b = some (.list vs)) : PtAt (upd σ b ob) pa things pt := by
  obtain ⟨kv, h1, h2, h3, h4⟩ := P.at_
  have ne : ∀ {a : Addr} {ob' : Ob}, σ a = some ob' → (∀ l, ob' ≠ .list l) → upd σ b ob a = some ob' := fun e' hn => (upd_ne fun q => by rw [q, e] at e'; exact hn _ (Option.some.inj e').symm).trans e'
  exact ⟨kv, ne h1 (fun _ => nofun), fun i hi => by obtain ⟨a, x, y⟩ := h2 i hi; exact ⟨a, x, ne y fun _ => nofun⟩, h3, h4⟩
theorem PtAt.nkeeps (H : BankAt σ B) (P : PtAt σ pa things pt) (K : NKeeps B σ σ') : PtAt σ' pa things pt := by
  obtain ⟨kv, h1, h2, h3, h4⟩ := P.at_
  have ne : ∀ {a : Addr} {ob' : Ob}, σ a = some ob' → (∀ l, ob' ≠ .list l) → (∀ l, ob' ≠ .kdict l) → (∀ l, ob' ≠ .tdict l) → σ' a = some ob' := fun e' n1 n2 n3 => K _ _ e' (H.notmut e' n1 n2) n3
  exact ⟨kv, ne h1 (fun _ => nofun) (fun _ => nofun) (fun _ => nofun), fun i hi => by obtain ⟨a, x, y⟩ := h2 i hi; exact ⟨a, x, ne y (fun _ => nofun) (fun _ => nofun) (fun _ => nofun)⟩, h3, h4⟩
theorem LC.more (w : LC σ ca cb ta la thl pl cells sp kind B L pool) (H' : BankAt σ' B') (hl : Lin B'.keys kind thingsL L') (x : Ext B B') (N : NKeeps B σ σ') (T : TapeAt σ' ta la cells sp') : LC σ' ca cb ta la thl pl cells sp' kind B' L' pool := by
  have ne : ∀ {a : Addr} {ob' : Ob}, σ a = some ob' → (∀ l, ob' ≠ .list l) → (∀ l, ob' ≠ .kdict l) → (∀ l, ob' ≠ .tdict l) → σ' a = some ob' := fun e' n1 n2 n3 => N _ _ e' (w.ls.bank.notmut e' n1 n2) n3
  exact ⟨⟨T, H', by rw [x.mt]; exact w.ls.nl, by rw [x.a]; exact ne w.ls.cella (fun _ => nofun) (fun _ => nofun) (fun _ => nofun), ne w.ls.z (fun _ => nofun) (fun _ => nofun) (fun _ => nofun), ne w.ls.o (fun _ => nofun) (fun _ => nofun) (fun _ => nofun)⟩,
    ne w.cellb (fun _ => nofun) (fun _ => nofun) (fun _ => nofun), w.kd, hl, N _ _ w.th w.nth (fun _ => nofun), by rw [x.mt]; exact w.nth, N _ _ w.pl w.npl (fun _ => nofun), by rw [x.mt]; exact w.npl, fun t ht => (w.num t ht).ext x, w.ne⟩
theorem LC.app (w : LC σ ca cb ta la thl pl cells sp kind B L pool) (m : NumT B kind t) : LC (upd σ pl (.list (poolV pool ++ [.int (t : Int)]))) ca cb ta la thl pl cells sp kind B L (pool ++ [t]) := by
  have ne : ∀ {a : Addr} {ob' : Ob}, σ a = some ob' → (∀ l, ob' ≠ .list l) → upd σ pl (.list (poolV pool ++ [.int (t : Int)])) a = some ob' := fun e' hn => (upd_ne fun q => by rw [q, w.pl] at e'; exact hn _ (Option.some.inj e').symm).trans e'
  have ev : poolV pool ++ [.int (t : Int)] = poolV (pool ++ [t]) := by unfold poolV; rw [List.map_append]; rfl
  refine ⟨⟨⟨ne w.ls.tape.tape fun _ => nofun, (upd_ne w.ne.2.symm).trans w.ls.tape.cell, w.ls.tape.len, w.ls.tape.small⟩, w.ls.bank.upd w.pl w.npl, w.ls.nl, ne w.ls.cella fun _ => nofun, ne w.ls.z fun _ => nofun, ne w.ls.o fun _ => nofun⟩,
    ne w.cellb fun _ => nofun, w.kd, w.lin, (upd_ne w.ne.1.symm).trans w.th, w.nth, by rw [ev]; exact upd_same, w.npl, fun x hx => ?_, w.ne⟩
  rcases List.mem_append.mp hx with q | q
  · exact w.num x q
  · rw [List.mem_singleton] at q; subst q; exact m
end
section
variable {n : Nat} {σ : Sg} {Φ : Fl → Rho → Sg → Prop} {ca cb : Addr} {sa ta la thl pl pa : Addr} {cells : List Int} {B : Bk} {kind : Int} {pool : List Nat}
noncomputable abbrev ρ7 (ta thl pl pa : Addr) : Rho := binds ["tape", "things", "pool", "point"] [.ref ta, .ref thl, .ref pl, .ref pa]
inductive LawI (ta thl pl pa ca cb la : Addr) (cells : List Int) (kind : Int) (i : Nat) (ρ : Rho) (σ' : Sg) : Prop
  | mk (B' : Bk) (sp' : Nat) (pool' : List Nat) (c0 : ρ = ρ7 ta thl pl pa) (c1 : LC σ' ca cb ta la thl pl cells sp' kind B' i pool') (c2 : pool'.length = 6 + i) (c3 : B'.nodes.length ≤ 12 + 25 * i) (c4 : PtAt σ' pa thingsL (ptV kind)) (c5 : sp' ≤ 2 + 5 * i) : LawI ta thl pl pa ca cb la cells kind i ρ σ'
theorem law7 (w : LC σ ca cb ta la thl pl cells 1 kind B 0 pool) (hp : PtAt σ pa thingsL (ptV kind)) (hpl : pool.length = 6) (hz : B.nodes.length ≤ 12)
    (h : ∀ B' σ' L' sp' pool', LC σ' ca cb ta la thl pl cells sp' kind B' L' pool' → 3 ≤ pool'.length → pool'.length ≤ 13 → B'.nodes.length ≤ 187 → L' ≤ 7 → wL ca cb (n + 20) 12 8 (ρ7 ta thl pl pa) σ' Φ) : wL ca cb (n + 20) 13 7 (ρ6 sa ta thl pl pa) σ Φ := by
  have big : 1000 ≤ sizeLine := Nat.le_of_ble_eq_true rfl
  refine draw_n (w := 5) w.ls.tape (by (first | lia | omega)) (by decide) fun r σ1 hr T1 s1 => ?_
  have w1 : LC σ1 ca cb ta la thl pl cells 2 kind B 0 pool := w.more (w.ls.bank.nsub s1) w.lin .refl s1.keeps T1
  have hp1 := hp.nkeeps w.ls.bank s1.keeps
  refine TSpec.range fun ra t u v hra => ?_
  have er : rangeObj (3 + (r : Int)) t u v = rangeObj ((3 + r : Nat) : Int) t u v := by congr 1
  have s2 := Sub.upd (ob := .raw (rangeObj (3 + (r : Int)) t u v)) hra
  have e2 : upd σ1 ra (.raw (rangeObj (3 + (r : Int)) t u v)) ra = some (.raw (rangeObj ((3 + r : Nat) : Int) t u v)) := by rw [← er]; exact upd_same
  have w2 := w1.sub s2
  have hp2 := hp1.sub s2
  generalize upd σ1 ra (.raw (rangeObj (3 + (r : Int)) t u v)) = σ2 at e2 w2 hp2
  refine ⟨σ2, 3 + r, _, _, (LawI ta thl pl pa ca cb la cells kind), SrcSpec.range e2 (by (first | lia | omega)), ⟨_, σ2, ?_, Sub.refl, B, 2, pool, rfl, w2, hpl, hz, hp2, Nat.le_refl _⟩, fun _ _ _ _ => trivial, ?_, ?_⟩
  · exact rsub_cons (rsub_cons (rsub_cons (rsub_cons rsub_nil rfl) rfl) rfl) rfl
  · rintro i ρ σ3 v hi ⟨B3, sp3, pool3, rfl, w3, l3, z3, p3, q3⟩ rfl
    have pl3 : (poolV pool3).length = pool3.length := List.length_map _
    refine .inr ⟨_, MSpec.append w3.pl, ca, _, rfl, w3.ls.cella, cb, _, rfl, w3.cellb, ?_⟩
    refine more_ok (n := n + 13) w3.ls.tape (by (first | lia | omega)) w3.ls.bank w3.ls.nl w3.npl w3.lin (by (first | lia | omega)) (by (first | lia | omega)) w3.kd w3.pl (by (first | lia | omega)) w3.num fun B4 σ4 t4 sp4 H4 L4 x4 l4 N4 m4 T4 q4 => ?_
    have w4 := w3.more H4 L4 x4 N4 T4
    have p4 := p3.nkeeps w3.ls.bank N4
    refine BSpec.append w4.pl (by (first | lia | omega)) ?_
    have w5 := w4.app m4
    have p5 := p4.updL (ob := .list (poolV pool3 ++ [.int (t4 : Int)])) w4.pl
    have e5 : upd σ4 pl (.list (poolV pool3 ++ [.int (t4 : Int)])) pl = some (.list (poolV pool3 ++ [.int (t4 : Int)])) := upd_same
    generalize upd σ4 pl (.list (poolV pool3 ++ [.int (t4 : Int)])) = σ5 at w5 p5 e5
    refine ⟨ca, _, rfl, w5.ls.cella, _, ISpec.listNeg (v := .int (t4 : Int)) e5 (by decide) (by rw [List.length_append]; simp; (first | lia | omega)) (by decide) ?_, ?_⟩
    · rw [List.length_append, List.length_singleton, show ((-1 : Int) + (((poolV pool3).length + 1 : Nat) : Int)).toNat = (poolV pool3).length by (first | lia | omega), List.getElem?_append_right (Nat.le_refl _), Nat.sub_self]; rfl
    refine told_ok (n := n + 13) (pt := ptV kind) w5.ls.bank w5.lin (by (first | lia | omega)) (by (first | lia | omega)) w5.ls.z w5.ls.o w5.th thingsL_nd (by decide) m4 p5 (fun i hi => ptV_sz hi) fun σ6 s6 => ?_
    refine ⟨fun e => (by cases e), fun _ => ?_⟩
    exact ⟨ρ7 ta thl pl pa, _, rsub_cons (rsub_cons (rsub_cons (rsub_cons rsub_nil rfl) rfl) rfl) rfl, Sub.refl, B4, sp4, pool3 ++ [t4], rfl, w5.sub s6, by rw [List.length_append, l3]; rfl, by (first | lia | omega), p5.sub s6, by (first | lia | omega)⟩
  · rintro ρ σ3 ⟨B3, sp3, pool3, rfl, w3, l3, z3, p3, q3⟩
    exact h B3 σ3 _ sp3 pool3 w3 (by (first | lia | omega)) (by (first | lia | omega)) (by (first | lia | omega)) (by (first | lia | omega))
end
end
section
/-! ## terms made, with their values -/
noncomputable def TermV (B : Bk) (σ : Sg) (kind : Int) (things : List Nat) (L d : Nat) (Q : (Nat → Rat) → Nat → Prop) (Φ : V → Sg → Prop) : Prop :=
  ∀ B' σ' (t : Nat), BankAt σ' B' → Lin B'.keys kind things L → Ext B B' → B'.nodes.length ≤ B.nodes.length + d → Keeps B σ σ' → NumT B' kind t → (∀ val, LinVal B'.keys val → Q val t) → Φ (.int t) σ'
theorem TermV.sub {B : Bk} {σ σ1 : Sg} {kind : Int} {things : List Nat} {L d : Nat} {Q : (Nat → Rat) → Nat → Prop} {Φ : V → Sg → Prop} (s : Sub σ σ1) (h : TermV B σ kind things L d Q Φ) : TermV B σ1 kind things L d Q Φ :=
  fun B' σ' t a b c e K m q => h B' σ' t a b c e (K.after s) m q
theorem Ext.keys {B B' : Bk} (x : Ext B B') : B.keys <+: B'.keys := by
  obtain ⟨l, e⟩ := x.pre
  exact ⟨l.map (·.key), by rw [← List.map_append, e]⟩
section
variable {n : Nat} {σ : Sg} {Φ : V → Sg → Prop} {B : Bk} {kind : Int} {things : List Nat} {L : Nat}
theorem plus_v (H : BankAt σ B) (hl : Lin B.keys kind things L) (hz : B.nodes.length ≤ 300) (hk : kind = 1 ∨ kind = 2) {l : Addr} {t0 : Nat} {ts : List Nat} (hs : SeqOf σ l ((t0 :: ts).map fun (t : Nat) => V.int t)) (hlen : 1 ≤ ts.length ∧ ts.length ≤ 2)
    (hn : ∀ t ∈ t0 :: ts, NumT B kind t) (h : TermV B σ kind things L 1 (fun val t => val t = ((t0 :: ts).map val).sum) Φ) : CallOk (n + 3) 543 [.ref B.a, .ref l] σ Φ := by
  refine plus_ok H (by (first | lia | omega)) hs ⟨hlen.1, by (first | lia | omega)⟩ hk hn (Got.made H fun B' σ' t HB g K => ?_)
  have lk : LinKey B.keys kind L ⟨"+", (t0 :: ts).map fun (t : Nat) => (t : Int), kind, .inl 0⟩ := by
    refine ⟨⟨by simp; (first | lia | omega), fun a ha => ?_⟩, fun e => absurd e nePN, fun _ => ⟨rfl, fun a ha => ?_⟩, fun e => absurd e nePT, .inr (.inl rfl)⟩
    · obtain ⟨t, ht, rfl⟩ := List.mem_map.mp ha
      exact ⟨t, rfl, by rw [List.length_map]; exact (hn t ht).lt⟩
    · obtain ⟨t, ht, rfl⟩ := List.mem_map.mp ha
      obtain ⟨m, h1, h2⟩ := (hn t ht).key
      exact ⟨t, m, rfl, h1, h2⟩
  obtain ⟨m, hm, hmk⟩ := g.node
  refine h B' σ' t HB (hl.grow g lk) g.ext g.len K ⟨m, hm, by rw [hmk]⟩ fun val hv => ?_
  show val t = _
  rw [hv.plus t m.key (by rw [List.getElem?_map, hm]; rfl) (by rw [hmk]), hmk]
  show (((t0 :: ts).map fun (t : Nat) => (t : Int)).map fun a => val a.toNat).sum = _
  rw [List.map_map]; rfl
theorem num_v (H : BankAt σ B) (hl : Lin B.keys kind things L) (hL : L ≤ 9) (hz : B.nodes.length ≤ 300) (hk : kind = 1 ∨ kind = 2) {x : Addr} {r : Rat} (ex : σ x = some (frac r)) (hr : Sz (12 ^ L) (4 ^ (L + 1)) r) (h1 : kind = 1 → r.den = 1)
    (h : TermV B σ kind things L 1 (fun val t => val t = r) Φ) : CallOk (n + 2) 529 [.ref B.a, .ref x, .int kind] σ Φ := by
  obtain ⟨b1, b2⟩ := num_size hr hL
  refine num_ok H (by (first | lia | omega)) ex hk (fun e => by rw [h1 e]; rfl) b1 (by (first | lia | omega)) b2 (Got.made H fun B' σ' t HB g K => ?_)
  obtain ⟨m, hm, hmk⟩ := g.node
  exact h B' σ' t HB (hl.grow g (num_key_lin hr h1)) g.ext g.len K ⟨m, hm, by rw [hmk]⟩ fun val hv => hv.num t m.key r (by rw [List.getElem?_map, hm]; rfl) (by rw [hmk]) (by rw [hmk])
theorem timesnum_v (H : BankAt σ B) (hl : Lin B.keys kind things L) (hL : L ≤ 8) (hz : B.nodes.length ≤ 290) (hk : kind = 1 ∨ kind = 2) {x : Addr} {c : Rat} {t : Nat} (ex : σ x = some (frac c)) (hc : Sz 12 4 c) (hc1 : kind = 1 → c.den = 1) (ht : NumT B kind t)
    (h : TermV B σ kind things (L + 1) 2 (fun val t' => val t' = c * val t) Φ) : CallOk (n + 4) 550 [.ref B.a, .ref x, .int t] σ Φ := by
  obtain ⟨m, hm, hms⟩ := ht
  have hkey : B.keys[t]? = some m.key := by rw [List.getElem?_map, hm]; rfl
  have sc : Small c := hc.small (by decide) (by decide +kernel) (by decide +kernel)
  have c62 : c.num.natAbs < 2 ^ 62 ∧ (c.den : Int) < 2 ^ 62 := by
    obtain ⟨a, b⟩ := hc.bounds (by decide)
    exact ⟨by (first | lia | omega), by (first | lia | omega)⟩
  refine timesnum_ok H (by (first | lia | omega)) ex hm hms hk (fun ho => ?_) (fun ho e1 e2 => ?_) (fun ho hne => ⟨fun e => by rw [hc1 e]; rfl, c62.1, by (first | lia | omega), c62.2, fun B1 σ1 ci HB1 g1 K1 => ?_⟩)
  · obtain ⟨_, _, r, hd, hr, hr1⟩ := hl.num t _ hkey ho
    have sr : Small r := small_of (i := L) (k := 4 ^ (L + 1)) (hr.mono (Nat.dvd_refl _) (Nat.le_mul_of_pos_right _ (Nat.pow_pos (by decide)))) (by (first | lia | omega)) (Nat.le_trans (Nat.pow_le_pow_right (by decide) (show L + 1 ≤ 11 by (first | lia | omega))) (by decide))
    refine ⟨_, _, hd, fun y hy => mulR ex hy sc sr fun q hq => ⟨q, rfl, ?_⟩⟩
    have s1 := Sub.upd (ob := frac (c * r)) hq
    have hcr : Sz (12 ^ (L + 1)) (4 ^ (L + 1 + 1)) (c * r) := by
      have := hc.mul hr
      rw [Nat.mul_comm 12, ← Nat.pow_succ, Nat.mul_comm 4, ← Nat.pow_succ] at this
      exact this
    refine num_v (H.sub s1) (hl.mono (Nat.le_succ L)) (by (first | lia | omega)) (by (first | lia | omega)) hk upd_same hcr (fun e => den_one_mul (hc1 e) (hr1 e)) fun B' σ' t' a b c d K m q => h B' σ' t' a b c (by (first | lia | omega)) (K.after s1) m fun val hv => ?_
    show val t' = _
    rw [q val hv, (hv.pre c.keys).num t _ r hkey ho hd]
  · refine h B σ t H (hl.mono (Nat.le_succ L)) .refl (by (first | lia | omega)) .refl ⟨m, hm, hms⟩ fun val hv => ?_
    have : c = 1 := by
      exact Rat.ext e1 (show c.den = 1 by (first | lia | omega))
    rw [this]; exact (Rat.one_mul _).symm
  · intro B2 σ2 t2 HB2 g2 K2
    have hcz : Sz (12 ^ (L + 1)) (4 ^ (L + 1 + 1)) c := hc.mono (by have := pow_dvd (show 1 ≤ L + 1 by (first | lia | omega)); simpa using this) (by have : 4 ^ 1 ≤ 4 ^ (L + 1 + 1) := Nat.pow_le_pow_right (by decide) (by (first | lia | omega)); simpa using this)
    have L1 := (hl.mono (Nat.le_succ L)).grow g1 (num_key_lin hcz hc1)
    obtain ⟨mc, hmc, hmck⟩ := g1.node
    have hmt := g1.ext.get hm
    have lk : LinKey B1.keys kind (L + 1) ⟨"*", [(ci : Int), (t : Int)], kind, .inl 0⟩ := by
      refine ⟨⟨by simp, fun a ha => ?_⟩, fun e => absurd e neTN, fun e => absurd e neTP, fun _ => ⟨rfl, ci, t, c, m.key, rfl, ?_, hc, ?_, hms⟩, .inr (.inr rfl)⟩
      · rcases List.mem_cons.mp ha with rfl | ha
        · exact ⟨ci, rfl, by rw [List.length_map]; exact (List.getElem?_eq_some_iff.mp hmc).1⟩
        · rcases List.mem_cons.mp ha with rfl | ha
          · exact ⟨t, rfl, by rw [List.length_map]; exact (List.getElem?_eq_some_iff.mp hmt).1⟩
          · cases ha
      · rw [List.getElem?_map, hmc, ← hmck]; rfl
      · rw [List.getElem?_map, hmt]; rfl
    obtain ⟨m2, hm2, hm2k⟩ := g2.node
    have l1 := g1.len
    have l2 := g2.len
    refine h B2 σ2 t2 HB2 (L1.grow g2 lk) (g1.ext.trans g2.ext) (by (first | lia | omega)) (K1.trans g1.ext K2) ⟨m2, hm2, by rw [hm2k]⟩ fun val hv => ?_
    have k2 : B2.keys[t2]? = some ⟨"*", [(ci : Int), (t : Int)], kind, .inl 0⟩ := by rw [List.getElem?_map, hm2, ← hm2k]; rfl
    have kc : B2.keys[ci]? = some ⟨"num", [], kind, .inr (c.num, (c.den : Int))⟩ := by rw [List.getElem?_map, g2.ext.get hmc, ← hmck]; rfl
    show val t2 = _
    rw [hv.times t2 _ ci t k2 rfl rfl, hv.num ci _ c kc rfl rfl]
theorem negative_v (H : BankAt σ B) (hl : Lin B.keys kind things L) (hL : L ≤ 8) (hz : B.nodes.length ≤ 290) (hk : kind = 1 ∨ kind = 2) {t : Nat} (ht : NumT B kind t)
    (h : TermV B σ kind things (L + 1) 2 (fun val t' => val t' = -1 * val t) Φ) : CallOk (n + 5) 571 [.ref B.a, .int t] σ Φ := by
  refine negative_ok H fun x σ0 s0 ex => ?_
  have e : frac (-1) = .tup [.int (-1), .int 1] := rfl
  exact timesnum_v (c := -1) (H.sub s0) hl hL hz hk (by rw [e]; exact ex) ⟨-12, by decide +kernel, by decide⟩ (fun _ => rfl) ht (h.sub s0)
theorem minus_v (H : BankAt σ B) (hl : Lin B.keys kind things L) (hL : L ≤ 8) (hz : B.nodes.length ≤ 290) (hk : kind = 1 ∨ kind = 2) {a b : Nat} (ha : NumT B kind a) (hb : NumT B kind b)
    (h : TermV B σ kind things (L + 1) 3 (fun val t' => val t' = val a - val b) Φ) : CallOk (n + 6) 578 [.ref B.a, .int a, .int b] σ Φ := by
  obtain ⟨ma, hma, hmas⟩ := ha
  obtain ⟨mb, hmb, hmbs⟩ := hb
  refine minus_ok H (by (first | lia | omega)) hma hmb hmas hmbs hk (negative_v H hl hL hz hk ⟨mb, hmb, hmbs⟩ fun B1 σ1 t HB1 L1 x1 l1 K1 m1 q1 l hl' => ?_)
  have s1 := Sub.upd (ob := .list [.int a, .int t]) hl'
  have := plus_v (n := n + 2) (t0 := a) (ts := [t]) (Φ := Φ) (HB1.sub s1) L1 (by (first | lia | omega)) hk (.inl upd_same) (by simp) (fun u hu => by
    rcases List.mem_cons.mp hu with rfl | hu
    · exact ⟨ma, x1.get hma, hmas⟩
    · rw [List.mem_singleton] at hu; subst hu; exact m1) fun B2 σ2 t2 HB2 L2 x2 l2 K2 m2 q2 => h B2 σ2 t2 HB2 L2 (x1.trans x2) (by (first | lia | omega)) (K1.trans x1 (K2.after s1)) m2 fun val hv => by
      show val t2 = _
      rw [q2 val hv]
      simp only [List.map_cons, List.map_nil, List.sum_cons, List.sum_nil]
      rw [q1 val (hv.pre x2.keys)]
      grind
  rw [x1.a] at this
  exact this
end
end
section
/-! ## the law's last lines, plainly -/
section
variable {ks ks' : List Nd} {kind : Int} {things : List Nat} {L L0 t N : Nat} {P : RL} {C : Rat}
theorem FormRes.valX (p : ks <+: ks') (H : Lin ks' kind things L) (F : FormRes ks things L0 t N P C) (pt : Nat → Rat) : valOf ks' things pt t = C + S P pt := by
  rw [F.id _ ((valOf_lin H).pre p)]
  congr 1
  refine S_congr fun x hx => ?_
  obtain ⟨j, e, _, hj⟩ := F.pk.at_ x hx
  rw [e, Int.toNat_natCast]
  exact valOf_thing hj
theorem PK.ind {b : Nat} (F : PK things b P) (k : Nat) : S P (Mine.ind k) = coef P k := S_ind F.nd fun x hx => by obtain ⟨j, e, _⟩ := F.at_ x hx; exact ⟨j, e⟩
theorem both_law {P1 P2 : RL} {C1 C2 : Rat} {L1 L2 t1 t2 N1 N2 : Nat} {ks1 : List Nd} (p : ks1 <+: ks) (H : Lin ks kind things L) (F1 : FormRes ks1 things L1 t1 N1 P1 C1) (F2 : FormRes ks1 things L2 t2 N2 P2 C2) (F : FormRes ks things L0 t N P C)
    (q : ∀ val, LinVal ks val → val t = val t1 + val t2) (k : Nat) : coef P k = coef P1 k + coef P2 k := by
  have key : ∀ pt : Nat → Rat, C + S P pt = (C1 + S P1 pt) + (C2 + S P2 pt) := fun pt => by
    rw [← F.valX (List.prefix_refl _) H pt, ← F1.valX p H pt, ← F2.valX p H pt]
    exact q _ (valOf_lin H)
  have k0 := key fun _ => 0
  have k1 := key (Mine.ind k)
  rw [S_zero, S_zero, S_zero] at k0
  rw [F.pk.ind, F1.pk.ind, F2.pk.ind] at k1
  grind
theorem none_law {a : Nat} (H : Lin ks kind things L) (F : FormRes ks things L0 t N P C) (q : ∀ val, LinVal ks val → val t = val a - val a) : C = 0 ∧ P = [] := by
  have key : ∀ pt : Nat → Rat, C + S P pt = 0 := fun pt => by
    rw [← F.valX (List.prefix_refl _) H pt, q _ (valOf_lin H)]
    grind
  have k0 := key fun _ => 0
  rw [S_zero] at k0
  refine ⟨by grind, ?_⟩
  cases hP : P with
  | nil => rfl
  | cons x r =>
    exfalso
    have hx : x ∈ P := by rw [hP]; exact .head _
    obtain ⟨j, e, _, hj⟩ := F.pk.at_ x hx
    have k1 := key (Mine.ind j)
    rw [F.pk.ind] at k1
    have g := rget_of F.pk.nd hx
    have : coef P j = x.2 := by unfold coef; rw [← e, g]; rfl
    have := F.pk.nz x hx
    grind
end
end
section
open PyProof.Rows.LCg
/-- a form, as it lies in the state -/
structure FormIs (σ : Sg) (f : Addr) (P : RL) (C : Rat) (dx pd ca : Addr) (kvs : List (Int × V)) : Prop where
  at_ : FormAt σ f dx pd kvs ca C.num C.den
  dr : DR σ kvs P
section
variable {σ σ' : Sg} {f dx pd fc : Addr} {fk : List (Int × V)} {P : RL} {C : Rat} {ca cb ta la thl pl : Addr} {cells : List Int} {sp L t : Nat} {B : Bk} {kind : Int} {pool : List Nat}
theorem FormIs.firm (F : FormIs σ f P C dx pd fc fk) (s : Firm σ σ') : FormIs σ' f P C dx pd fc fk :=
  ⟨⟨⟨s _ _ F.at_.inst.obj (fun _ => nofun) fun _ => nofun, s _ _ F.at_.inst.dict (fun _ => nofun) fun _ => nofun⟩, s _ _ F.at_.parts (fun _ => nofun) fun _ => nofun, s _ _ F.at_.const (fun _ => nofun) fun _ => nofun⟩,
    F.dr.tsub fun a vs e => s _ _ e (fun _ => nofun) fun _ => nofun⟩
theorem FormIs.sub (F : FormIs σ f P C dx pd fc fk) (s : Sub σ σ') : FormIs σ' f P C dx pd fc fk := F.firm s.firm
theorem item_last {j : Nat} {k : Int} (e : σ pl = some (.list (poolV pool))) (hj : 0 < j) (hl : j ≤ pool.length) (hp : pool.length ≤ 100) (ht : pool[pool.length - j]? = some t) (hk : k = -(j : Int)) : ISpec σ (.ref pl) (.int k) (.int (t : Int)) := by
  subst hk
  have e1 : (poolV pool).length = pool.length := List.length_map _
  refine ISpec.listNeg e (by (first | lia | omega)) (by (first | lia | omega)) (by (first | lia | omega)) ?_
  rw [e1, show (-(j : Int) + (pool.length : Int)).toNat = pool.length - j by (first | lia | omega)]
  unfold poolV
  rw [List.getElem?_map, ht]; rfl
end
section
variable {n : Nat} {σ : Sg} {Φ : Fl → Rho → Sg → Prop} {ca cb : Addr} {sa ta la thl pl pa : Addr} {cells : List Int} {sp L t1 t2 : Nat} {B : Bk} {kind : Int} {pool : List Nat}
noncomputable abbrev ρ8 (ta thl pl pa f1 f2 : Addr) : Rho := put (put (ρ7 ta thl pl pa) "other" (.ref f2)) "one" (.ref f1)
theorem law8 (w : LC σ ca cb ta la thl pl cells sp kind B L pool) (h1 : pool[pool.length - 1]? = some t1) (h2 : pool[pool.length - 2]? = some t2) (hp : 3 ≤ pool.length ∧ pool.length ≤ 13) (hz : B.nodes.length ≤ 187) (hL : L ≤ 7)
    (h : ∀ σ' f1 P1 C1 dx1 pd1 c1 fk1 f2 P2 C2 dx2 pd2 c2 fk2, LC σ' ca cb ta la thl pl cells sp kind B L pool → FormIs σ' f1 P1 C1 dx1 pd1 c1 fk1 → FormIs σ' f2 P2 C2 dx2 pd2 c2 fk2 → FormRes B.keys thingsL L t1 B.nodes.length P1 C1 → FormRes B.keys thingsL L t2 B.nodes.length P2 C2 →
      wL ca cb (n + 20) 11 9 (ρ8 ta thl pl pa f1 f2) σ' Φ) : wL ca cb (n + 20) 12 8 (ρ7 ta thl pl pa) σ Φ := by
  obtain ⟨m1, hm1, hs1⟩ := w.num t1 (List.mem_of_getElem? h1)
  obtain ⟨m2, hm2, hs2⟩ := w.num t2 (List.mem_of_getElem? h2)
  refine ⟨ca, _, rfl, w.ls.cella, _, item_last (j := 1) w.pl (by decide) (by (first | lia | omega)) (by (first | lia | omega)) h1 rfl, ?_⟩
  refine form_ok (n := n + 14) w.ls.bank w.lin (by (first | lia | omega)) (by (first | lia | omega)) w.ls.z w.ls.o hm1 hs1 fun f1 dx1 pd1 c1 fk1 P1 C1 σ1 s1 _ _ _ FA1 D1 R1 => ?_
  have w1 := w.sub s1
  refine ⟨ca, _, rfl, w1.ls.cella, _, item_last (j := 2) w1.pl (by decide) (by (first | lia | omega)) (by (first | lia | omega)) h2 rfl, ?_⟩
  refine form_ok (n := n + 14) w1.ls.bank w1.lin (by (first | lia | omega)) (by (first | lia | omega)) w1.ls.z w1.ls.o hm2 hs2 fun f2 dx2 pd2 c2 fk2 P2 C2 σ2 s2 _ _ _ FA2 D2 R2 => ?_
  intro a ha
  have s3 := Sub.upd (ob := .tup [.ref f1, .ref f2]) ha
  exact h _ f1 P1 C1 dx1 pd1 c1 fk1 f2 P2 C2 dx2 pd2 c2 fk2 (w1.sub (s2.trans s3)) ((FormIs.mk FA1 D1).sub (s2.trans s3)) ((FormIs.mk FA2 D2).sub s3) R1 R2
noncomputable abbrev ρ9 (ta thl pl pa f1 f2 f3 f4 : Addr) : Rho := put (put (ρ8 ta thl pl pa f1 f2) "none" (.ref f4)) "both" (.ref f3)
/-- a bank grown, the state kept -/
theorem LC.keeps {σ' : Sg} {B' : Bk} {L' : Nat} (w : LC σ ca cb ta la thl pl cells sp kind B L pool) (H' : BankAt σ' B') (hl : Lin B'.keys kind thingsL L') (x : Ext B B') (K : Keeps B σ σ') : LC σ' ca cb ta la thl pl cells sp kind B' L' pool :=
  w.more H' hl x K.nkeeps (w.ls.tape.keeps w.ls.bank w.ls.nl K)
theorem law9 {f1 f2 dx1 pd1 c1 dx2 pd2 c2 : Addr} {P1 P2 : RL} {C1 C2 : Rat} {fk1 fk2 : List (Int × V)} (w : LC σ ca cb ta la thl pl cells sp kind B L pool) (F1 : FormIs σ f1 P1 C1 dx1 pd1 c1 fk1) (F2 : FormIs σ f2 P2 C2 dx2 pd2 c2 fk2) (R1 : FormRes B.keys thingsL L t1 B.nodes.length P1 C1) (R2 : FormRes B.keys thingsL L t2 B.nodes.length P2 C2)
    (h1 : pool[pool.length - 1]? = some t1) (h2 : pool[pool.length - 2]? = some t2) (hp : 3 ≤ pool.length ∧ pool.length ≤ 13) (hz : B.nodes.length ≤ 187) (hL : L ≤ 7)
    (h : ∀ σ' f3 P3 C3 dx3 pd3 c3 fk3 f4 dx4 pd4 c4, FormIs σ' f1 P1 C1 dx1 pd1 c1 fk1 → FormIs σ' f2 P2 C2 dx2 pd2 c2 fk2 → FormIs σ' f3 P3 C3 dx3 pd3 c3 fk3 → FormIs σ' f4 [] 0 dx4 pd4 c4 [] → (∀ k, coef P3 k = coef P1 k + coef P2 k) → σ' thl = some (.list (intV thingsL)) →
      wL ca cb (n + 20) 10 10 (ρ9 ta thl pl pa f1 f2 f3 f4) σ' Φ) : wL ca cb (n + 20) 11 9 (ρ8 ta thl pl pa f1 f2) σ Φ := by
  have n1 := w.num t1 (List.mem_of_getElem? h1)
  have n2 := w.num t2 (List.mem_of_getElem? h2)
  refine ⟨ca, _, rfl, w.ls.cella, ca, _, rfl, w.ls.cella, .inl ⟨_, _, _, _, 543, rfl, w.ls.bank.inst, w.ls.bank.own _ (by decide +kernel), by kernel_rfl, ?_⟩⟩
  refine ⟨_, item_last (j := 1) w.pl (by decide) (by (first | lia | omega)) (by (first | lia | omega)) h1 rfl, _, item_last (j := 2) w.pl (by decide) (by (first | lia | omega)) (by (first | lia | omega)) h2 rfl, Nat.le_of_ble_eq_true rfl, fun tp htp => ?_⟩
  have s1 := Sub.upd (ob := .tup [.int (t1 : Int), .int (t2 : Int)]) htp
  have et : upd σ tp (.tup [.int (t1 : Int), .int (t2 : Int)]) tp = some (.tup [.int (t1 : Int), .int (t2 : Int)]) := upd_same
  have w1 := w.sub s1
  have F1' := F1.sub s1
  have F2' := F2.sub s1
  generalize upd σ tp (.tup [.int (t1 : Int), .int (t2 : Int)]) = σ1 at s1 et w1 F1' F2'
  refine plus_v (n := n + 17) (t0 := t1) (ts := [t2]) w1.ls.bank w1.lin (by (first | lia | omega)) w1.kd (.inr et) (by simp) (fun x hx => ?_) fun B2 σ2 tb H2 L2 x2 l2 K2 m2 q2 => ?_
  · rcases List.mem_cons.mp hx with rfl | hx
    · exact n1
    · rw [List.mem_singleton] at hx; subst hx; exact n2
  have w2 := w1.keeps H2 L2 x2 K2
  have F1'' := F1'.firm (K2.firm w1.ls.bank)
  have F2'' := F2'.firm (K2.firm w1.ls.bank)
  obtain ⟨mb, hmb, hsb⟩ := m2
  rw [← x2.a]
  refine form_ok (n := n + 14) w2.ls.bank w2.lin (by (first | lia | omega)) (by (first | lia | omega)) w2.ls.z w2.ls.o hmb hsb fun f3 dx3 pd3 c3 fk3 P3 C3 σ3 s3 _ _ _ FA3 D3 R3 => ?_
  have w3 := w2.sub s3
  have G1 := F1''.sub s3
  have G2 := F2''.sub s3
  have G3 : FormIs σ3 f3 P3 C3 dx3 pd3 c3 fk3 := ⟨FA3, D3⟩
  clear F1 F2 F1' F2' F1'' F2''
  refine ⟨ca, _, rfl, w3.ls.cella, ca, _, rfl, w3.ls.cella, .inl ⟨_, _, _, _, 578, rfl, w3.ls.bank.inst, w3.ls.bank.own _ (by decide +kernel), by kernel_rfl, ?_⟩⟩
  refine ⟨_, item_last (j := 1) w3.pl (by decide) (by (first | lia | omega)) (by (first | lia | omega)) h1 rfl, _, item_last (j := 1) w3.pl (by decide) (by (first | lia | omega)) (by (first | lia | omega)) h1 rfl, ?_⟩
  have n1' : NumT B2 kind t1 := n1.ext x2
  refine minus_v (n := n + 14) w3.ls.bank w3.lin (by (first | lia | omega)) (by (first | lia | omega)) w3.kd n1' n1' fun B4 σ4 tn H4 L4 x4 l4 K4 m4 q4 => ?_
  have w4 := w3.keeps H4 L4 x4 K4
  have E1 := G1.firm (K4.firm w3.ls.bank)
  have E2 := G2.firm (K4.firm w3.ls.bank)
  have E3 := G3.firm (K4.firm w3.ls.bank)
  obtain ⟨mn, hmn, hsn⟩ := m4
  rw [← x4.a]
  refine form_ok (n := n + 14) w4.ls.bank w4.lin (by (first | lia | omega)) (by (first | lia | omega)) w4.ls.z w4.ls.o hmn hsn fun f4 dx4 pd4 c4 fk4 P4 C4 σ5 s5 _ _ _ FA4 D4 R4 => ?_
  obtain ⟨rfl, rfl⟩ := none_law w4.lin R4 q4
  cases D4
  intro a ha
  have s6 := Sub.upd (ob := .tup [.ref f3, .ref f4]) ha
  refine h _ f3 P3 C3 dx3 pd3 c3 fk3 f4 dx4 pd4 c4 (E1.sub (s5.trans s6)) (E2.sub (s5.trans s6)) (E3.sub (s5.trans s6)) ((FormIs.mk FA4 .nil).sub s6) (fun k => ?_) ((s5.trans s6) _ _ w4.th)
  refine both_law x2.keys w2.lin R1 R2 R3 (fun val hv => ?_) k
  have := q2 val hv
  simp only [List.map_cons, List.map_nil, List.sum_cons, List.sum_nil] at this
  rw [this]; grind
end
end
section
open PyProof.Rows.LCg
section
variable {σ : Sg} {kvs : List (Int × V)} {W P : RL} {C : Rat} {ks : List Nd} {things : List Nat} {L t N : Nat}
theorem DR.getc (h : DR σ kvs W) {a0 : Addr} (h0 : σ a0 = Option.some (frac 0)) (k : Nat) : ∃ a, (dget kvs (k : Int)).getD (.ref a0) = .ref a ∧ σ a = Option.some (frac (coef W k)) := by
  unfold coef
  cases e : rget W (k : Int) with
  | none => rw [h.none e]; exact ⟨a0, rfl, h0⟩
  | some r => obtain ⟨a, h1, h2⟩ := h.some e; rw [h1]; exact ⟨a, rfl, h2⟩
theorem FormRes.small (F : FormRes ks things L t N P C) (hN : N ≤ 300) (k : Nat) : Small (coef P k) := by
  have := rget_sz (W := P) (k := (k : Int)) (D := 12 ^ N) (M := 5 ^ N) F.ps
  exact small_of (i := N) (k := 1) (by rw [Nat.one_mul]; exact this) (by (first | lia | omega)) (Nat.one_le_two_pow)
end
section
variable {n : Nat} {σ : Sg} {Φ : Fl → Rho → Sg → Prop} {ca cb : Addr} {ta thl pl pa f1 f2 f3 f4 : Addr}
theorem law10 {dx1 pd1 c1 dx2 pd2 c2 dx3 pd3 c3 dx4 pd4 c4 : Addr} {P1 P2 P3 : RL} {C1 C2 C3 : Rat} {fk1 fk2 fk3 : List (Int × V)} (F1 : FormIs σ f1 P1 C1 dx1 pd1 c1 fk1) (F2 : FormIs σ f2 P2 C2 dx2 pd2 c2 fk2) (F3 : FormIs σ f3 P3 C3 dx3 pd3 c3 fk3) (F4 : FormIs σ f4 [] 0 dx4 pd4 c4 [])
    (hc : ∀ k, coef P3 k = coef P1 k + coef P2 k) (hth : σ thl = some (.list (intV thingsL))) (sm1 : ∀ k, Small (coef P1 k)) (sm2 : ∀ k, Small (coef P2 k))
    (h : ∀ ρ σ', Φ (.ret (.bool true)) ρ σ') : wL ca cb (n + 20) 10 10 (ρ9 ta thl pl pa f1 f2 f3 f4) σ Φ := by
  refine ⟨σ, _, _, _, fun i ρ σ' => ρ = binds ["things", "one", "other", "both", "none"] [.ref thl, .ref f1, .ref f2, .ref f3, .ref f4] ∧ Sub σ σ', SrcSpec.list hth, ⟨_, σ, ?_, Sub.refl, rfl, Sub.refl⟩, fun i ρ σ' hJ => hJ.2 _ _ hth, ?_, ?_⟩
  · exact rsub_cons (rsub_cons (rsub_cons (rsub_cons (rsub_cons rsub_nil rfl) rfl) rfl) rfl) rfl
  · rintro i ρ σ0 v hi ⟨rfl, s0⟩ hP
    obtain ⟨k, hk, rfl⟩ := intV_get hP
    have E1 := F1.sub s0
    have E2 := F2.sub s0
    have E3 := F3.sub s0
    refine ⟨_, _, _, _, _, rfl, E3.at_.inst, rfl, by kernel_rfl, .inr ⟨_, MSpec.get E3.at_.parts, Nat.le_of_ble_eq_true rfl, fun a0 h0 => ?_⟩⟩
    have s1 := Sub.upd (ob := .tup [.int 0, .int 1]) h0
    have e0 : upd σ0 a0 (.tup [.int 0, .int 1]) a0 = some (frac 0) := upd_same
    generalize upd σ0 a0 (.tup [.int 0, .int 1]) = σ1 at s1 e0
    refine BSpec.get (E3.sub s1).at_.parts ?_
    obtain ⟨x3, ex3, hx3⟩ := (E3.sub s1).dr.getc e0 k
    rw [ex3]
    refine ⟨_, _, _, _, _, rfl, (E1.sub s1).at_.inst, rfl, by kernel_rfl, .inr ⟨_, MSpec.get (E1.sub s1).at_.parts, Nat.le_of_ble_eq_true rfl, fun a2 h2 => ?_⟩⟩
    have s2 := Sub.upd (ob := .tup [.int 0, .int 1]) h2
    have e2 : upd σ1 a2 (.tup [.int 0, .int 1]) a2 = some (frac 0) := upd_same
    generalize upd σ1 a2 (.tup [.int 0, .int 1]) = σ2 at s2 e2
    refine BSpec.get (E1.sub (s1.trans s2)).at_.parts ?_
    obtain ⟨x1, ex1, hx1⟩ := (E1.sub (s1.trans s2)).dr.getc e2 k
    rw [ex1]
    refine ⟨_, _, _, _, _, rfl, (E2.sub (s1.trans s2)).at_.inst, rfl, by kernel_rfl, .inr ⟨_, MSpec.get (E2.sub (s1.trans s2)).at_.parts, Nat.le_of_ble_eq_true rfl, fun a3 h3 => ?_⟩⟩
    have s3 := Sub.upd (ob := .tup [.int 0, .int 1]) h3
    have e3 : upd σ2 a3 (.tup [.int 0, .int 1]) a3 = some (frac 0) := upd_same
    generalize upd σ2 a3 (.tup [.int 0, .int 1]) = σ3 at s3 e3
    refine BSpec.get (E2.sub (s1.trans (s2.trans s3))).at_.parts ?_
    obtain ⟨x2, ex2, hx2⟩ := (E2.sub (s1.trans (s2.trans s3))).dr.getc e3 k
    rw [ex2]
    refine lplusR (n := n + 18) (s3 _ _ hx1) hx2 (sm1 k) (sm2 k) fun q hq => ?_
    have s4 := Sub.upd (ob := frac (coef P1 k + coef P2 k)) hq
    have e4 : upd σ3 q (frac (coef P1 k + coef P2 k)) q = some (frac (coef P1 k + coef P2 k)) := upd_same
    have hx3' := (s2.trans (s3.trans s4)) _ _ hx3
    rw [hc k] at hx3'
    refine ⟨_, CSpec.neP hx3' e4, fun e => ?_, fun _ => ?_⟩
    · simp at e
    · exact ⟨_, _, rsub_cons (rsub_cons (rsub_cons (rsub_cons (rsub_cons rsub_nil rfl) rfl) rfl) rfl) rfl, Sub.refl, rfl, s0.trans (s1.trans (s2.trans (s3.trans s4)))⟩
  · rintro ρ σ0 ⟨rfl, s0⟩
    have E4 := F4.sub s0
    refine ⟨_, _, _, _, _, rfl, E4.at_.inst, rfl, by kernel_rfl, .idict [], .inl rfl, fun d hd => ?_⟩
    have s1 := Sub.upd (ob := .idict []) hd
    have e1 : upd σ0 d (.idict []) d = some (.idict []) := upd_same
    generalize upd σ0 d (.idict []) = σ1 at s1 e1
    have E5 := E4.sub s1
    refine ⟨_, CSpec.eqD (bo := true) E5.at_.parts e1 fun _ => Hits.nil, fun _ => ?_, fun hb => by simp at hb⟩
    refine ⟨_, _, _, _, _, rfl, E5.at_.inst, rfl, by kernel_rfl, Nat.le_of_ble_eq_true rfl, fun a2 h2 => ?_⟩
    have s2 := Sub.upd (ob := .tup [.int 0, .int 1]) h2
    refine ⟨_, CSpec.eqP (E5.sub s2).at_.const upd_same, ?_⟩
    exact h _ _
end
end
section
open PyProof.Rows.LCg
theorem law_w1 {n : Nat} {σ : Sg} {Φ : Fl → Rho → Sg → Prop} {sa d la ca cb : Addr} {cells : List Int} {B : Bk} {F : Fu} (T : TapeAt σ d la cells 0) (H : BankAt σ B) (G : FunAt σ B F) (n1 : F.names = []) (n2 : F.args = []) (n3 : F.res = []) (hk : B.keys = [k0, k1, k2]) (hm : la ∉ F.fn :: F.fa :: F.fr :: B.mut)
    (hca1 : σ ca = some (.cell (some (.ref B.a)))) (hcb1 : σ cb = some (.cell none)) (hab : ca ≠ cb) (h89' : σ 89 = some (frac 0)) (h90' : σ 90 = some (frac 1)) (h : ∀ ρ σ', Φ (.ret (.bool true)) ρ σ') : wL ca cb (n + 20) 19 1 (put (binds ["script"] [.ref sa]) "tape" (.ref d)) σ Φ := by
  have nl : la ∉ B.mut := fun q => hm (.tail _ (.tail _ (.tail _ q)))
  have nf : la ∉ [F.fn, F.fa, F.fr] := fun q => hm (by
    simp only [List.mem_cons, List.not_mem_nil, or_false] at q ⊢
    rcases q with q | q | q
    · exact .inl q
    · exact .inr (.inl q)
    · exact .inr (.inr (.inl q)))
  refine law1 ⟨T, H, nl, hca1, h89', h90'⟩ G hcb1 hab fun kind σ2 hkd LS2 G2 hcb2 => ?_
  refine law2 ⟨LS2, G2, nf, hcb2⟩ n1 n2 n3 hk fun B3 F3 σ3 w3 l1 l2 l3 hk3 => ?_
  refine law3 w3 l1 l2 l3 hk3 fun B4 F4 σ4 t w4 f1 f2 f3 ht hk4 => ?_
  refine law4 w4 hkd f1 f2 f3 ht hk4 fun B5 σ5 l w5 hk5 hl hm5 => ?_
  refine law5 w5 hkd hk5 hl hm5 fun B6 σ6 pl t w6 hz6 => ?_
  refine law6 w6 fun σ7 pa s7 hp hkv => ?_
  refine law7 (w6.sub s7) hp rfl hz6 fun B8 σ8 L sp pool w8 p1 p2 z8 hL8 => ?_
  have g1 : pool[pool.length - 1]? = some pool[pool.length - 1] := List.getElem?_eq_getElem (by (first | lia | omega))
  have g2 : pool[pool.length - 2]? = some pool[pool.length - 2] := List.getElem?_eq_getElem (by (first | lia | omega))
  refine law8 w8 g1 g2 ⟨p1, p2⟩ z8 hL8 fun σ9 f1 P1 C1 dx1 pd1 c1 fk1 f2 P2 C2 dx2 pd2 c2 fk2 w9 F1 F2 R1 R2 => ?_
  refine law9 w9 F1 F2 R1 R2 g1 g2 ⟨p1, p2⟩ z8 hL8 fun σ10 f3 P3 C3 dx3 pd3 c3 fk3 f4 dx4 pd4 c4 E1 E2 E3 E4 hc hth => ?_
  exact law10 E1 E2 E3 E4 hc hth (R1.small (by (first | lia | omega))) (R2.small (by (first | lia | omega))) h
end
section
open PyProof.Rows.LCg
/-- what the elaborator shall not unfold -/
structure Box (p : Prop) : Prop where
  unbox : p
theorem Box.run {c : Cx} {S : Scope} {body : List Stmt} {ρ : Rho} {σ : Sg} {Φ : Fl → Rho → Sg → Prop} {h : Heap} {tk : Nat} {Q : Flow → Shared → Prop} (x : Box (Exs c S body ρ σ Φ)) (R : Rel c ρ σ [] h)
    (k : ∀ f u ρ' σ' h' tk', Rel c ρ' σ' [] h' → f.Is u → Φ f ρ' σ' → Q u (c.sh h' tk')) : Box (wpAny (model PW c.w) (c.A S) (execs body (c.env S)) Q c.E (c.sh h tk)) :=
  ⟨wpAny_mono (x.unbox [] h tk R) (fun u _ ⟨f, ρ', σ', h', tk', e, R', i, q⟩ => e ▸ k f u ρ' σ' h' tk' R' i q) fun _ _ e => e⟩
/-! ## law's first statement, the script being an old object -/
section
variable {c : Cx} {S : Scope} {ρ : Rho} {σ : Sg} {n : Nat} {Φ : V → Sg → Prop} {pos px p1 p2 p3 p4 : Pos} {x : Str} {k k1 k2 : Nat}
theorem Ev.sliceTo0 (ok : c.Ok n) {i : Nat} (h : EvV c S (eval (.Name x px) (c.env S)) ρ σ fun v σ' => ∃ a us vs, v = .ref a ∧ c.h₀.IsList a us.toArray ∧ VIs vs us ∧ vs.length ≤ sizeLine ∧ ∀ r, σ' r = none → Φ (.ref r) (upd σ' r (.list (vs.take i)))) :
    EvV c S (eval (.Subscript (.Name x px) (.Slice none (some (.Constant (.int (i : Int)) k p1)) none p2) pos) (c.env S)) ρ σ Φ := by
  intro fr h' tk R
  refine Subscript_ (wpAny_mono (h fr h' tk R) (fun u s₁ q => ?_) fun _ _ e => e)
  obtain ⟨v, σ', h1, tk1, rfl, R1, iv, a, us, vs, rfl, ea, hvs, hz, q⟩ := q
  obtain rfl : u = .ref a := iv
  obtain ⟨mp, news, F, N, m', G, Dj⟩ := R1
  obtain ⟨o, hg, r⟩ := ea
  have hl : h1.IsList a us.toArray := ⟨o, F.keep _ _ hg, r⟩
  refine wpAny_Slice (evalPart_none_step (evalPart_some_step (wpAny_Constant_int (evalPart_none_step ?_))))
  refine slice_list (s := c.sh h1 (tk1 + 1)) F N hl .none (.int _ _) (fun h2 F2 N2 => ?_) (hsz := by rw [List.size_toArray, hvs.length]; exact hz)
  have lt : ∀ p ∈ news ++ fr, p.1 ≠ h1.objs.size + 1 := fun p hp => Nat.ne_of_lt (Nat.lt_succ_of_lt (Heap.lt_size (N p hp).1))
  rw [slicePick_upto'] at N2
  obtain ⟨hno, R2⟩ := Rel.newLed (ρ := ρ) (ob := .list (vs.take i)) ok m' G Dj F2 N2 ⟨us.take i, 0, by simp [PySem.W.listOf], hvs.take i⟩ lt
  exact ⟨.ref (h1.objs.size + 1), _, h2, _, rfl, R2, rfl, q _ hno⟩
end
section
variable {n : Nat} {c : Cx} {σ : Sg} {Φ : Fl → Rho → Sg → Prop} {ca cb : Addr}
theorem law0c {sa : Addr} {cells : List Int} {us : List Value} (ok : c.Ok (n + 20)) (hcl : c.cl = (TL ca cb).cl) (hS : c.S₀ = fScope stL) (hs : c.h₀.IsList sa us.toArray) (hus : VIs (cells.map .int) us) (hz : cells.length ≤ 100) (hca : σ ca = some (.cell none)) (hcb : σ cb = some (.cell none)) (hab : ca ≠ cb) (h89 : σ 89 = some (frac 0)) (h90 : σ 90 = some (frac 1))
    (h : ∀ ρ σ', Φ (.ret (.bool true)) ρ σ') : Box (Exs c (fScope stL) (fBody stL) (binds ["script"] [.ref sa]) σ Φ) := by
  have big : 1000 ≤ sizeLine := Nat.le_of_ble_eq_true rfl
  have hk : (fScope stL).kind = .function := by kernel_rfl
  refine ⟨Exs.cons (rest := bodyL 1) ?_⟩
  refine Ex.unpack (T := TL ca cb) (xs := ["tape", "bank"]) ok hcl hk ?_ ?_ ?_
  · rfl
  · kernel_rfl
  refine Ev.tuple ok (El.cons (Ev.dictT ok (by decide +kernel) fun d hd => ?_))
  refine Ev.tcall ok (TT_ok.ty "list" "list" (by kernel_rfl)) hk (El.cons (Ev.sliceTo0 (i := 60) ok (Ev.name (v := .ref sa) rfl ⟨sa, us, _, rfl, hs, hus, by rw [List.length_map]; (first | lia | omega), fun sl hsl => El.nil ?_⟩ (by kernel_rfl) hk (by decide +kernel)))) (by kernel_rfl) (by decide +kernel) (by rfl)
  have s1 := Sub.upd (ob := .tdict []) hd
  have ed : upd σ d (.tdict []) d = some (.tdict []) := upd_same
  generalize upd σ d (.tdict []) = σ1 at s1 ed hsl
  have s2 := Sub.upd (ob := .list ((cells.map V.int).take 60)) hsl
  refine TSpec.listL upd_same (by rw [List.length_take]; (first | lia | omega)) fun la hla => ?_
  have s3 := Sub.upd (ob := .list ((cells.map V.int).take 60)) hla
  have S3 := s1.trans (s2.trans s3)
  have ed3 := (s2.trans s3) _ _ ed
  have el3 : upd (upd σ1 sl (.list ((cells.map V.int).take 60))) la (.list ((cells.map V.int).take 60)) la = _ := upd_same
  generalize upd (upd σ1 sl (.list ((cells.map V.int).take 60))) la (.list ((cells.map V.int).take 60)) = σ3 at S3 ed3 el3
  refine Ev.int ⟨ed3, El.cons ((wk_ok (TL_ok ca cb) hk 20).e c ok hcl _ _ _ _ ?_)⟩
  have nod : ∀ a ob, σ a = some ob → a ≠ d := fun a ob e q => by rw [q, hd] at e; cases e
  have S4 : Sub σ (upd σ3 d (.tdict [("cells", .ref la), ("spot", .int 0)])) := fun a ob e => (upd_ne (nod a ob e)).trans (S3 _ _ e)
  have nl : la ≠ d := fun q => by rw [q, ed3] at el3; cases el3
  have el4 : upd σ3 d (.tdict [("cells", .ref la), ("spot", .int 0)]) la = some (.list ((cells.take 60).map .int)) := (upd_ne nl).trans (by rw [el3, List.map_take])
  have T4 : TapeAt (upd σ3 d (.tdict [("cells", .ref la), ("spot", .int 0)])) d la (cells.take 60) 0 := ⟨upd_same, el4, by rw [List.length_take]; (first | lia | omega), by (first | lia | omega)⟩
  generalize upd σ3 d (.tdict [("cells", .ref la), ("spot", .int 0)]) = σ4 at S4 el4 T4
  refine tb_ok (n := n + 14) fun B F σ5 H G n1 n2 n3 hk5 s5 hnew => ?_
  refine El.nil ⟨Nat.le_of_ble_eq_true rfl, fun tp htp => ⟨_, _, rfl, .inl upd_same, rfl, ?_⟩⟩
  have s6 := Sub.upd (ob := .tup [.ref d, .ref B.a]) htp
  have S6 := S4.trans (s5.trans s6)
  have T6 := T4.sub (s5.trans s6)
  have H6 := H.sub s6
  have G6 := G.sub s6
  generalize upd σ5 tp (.tup [.ref d, .ref B.a]) = σ6 at s6 S6 T6 H6 G6
  refine ⟨ca, none, rfl, S6 _ _ hca, ?_⟩
  have N7 : NCell σ6 (upd σ6 ca (.cell (some (.ref B.a)))) := NCell.upd (S6 _ _ hca)
  have ne89 : ∀ {x : Addr} {ob : Ob}, σ x = some ob → (∀ v, ob ≠ .cell v) → upd σ6 ca (.cell (some (.ref B.a))) x = some ob := fun e hn => N7 _ _ (S6 _ _ e) hn
  refine wS_ok (TL_ok ca cb) hk (wk_ok (TL_ok ca cb) hk 20) ok hcl hS 19 _ _ _ _ ?_
  refine law_w1 (d := d) (la := la) (B := B) (F := F) (T6.ncell N7) (H6.ncell N7) (G6.ncell N7) n1 n2 n3 hk5 (fun hm => ?_) upd_same ((upd_ne hab.symm).trans (S6 _ _ hcb)) hab (ne89 h89 fun _ => nofun) (ne89 h90 fun _ => nofun) h
  have := hnew la hm
  rw [el4] at this; cases this
end
end
section
set_option maxRecDepth 100000
noncomputable def NG : Nat := 9900
noncomputable def looseG : List PySem.Str := ["__name__", "_wall", "SmtError", "SortFault", "LimitFault", "ZERO", "ONE", "gcd_of", "ratio", "add", "mul", "is_whole", "LinearForm", "form_of", "BOOL", "INT", "REAL", "MOST_BITS", "Bank", "BoolBank", "want_small", "NumberBank", "TermBank", "_law_draw", "_law_lowest", "_law_plus", "_law_times", "_law_value", "_law_is_told", "_law_more"]
noncomputable def qG : Program := { PG with main := { PG.main with body := PG.main.body.drop 34 } }
noncomputable def H0 (P : Params) : Heap := boot_heap P
theorem open_G : ∀ w : World, (fencedOpening treeTable PG w NG).map (fun s => (s.heap, s.gens, s.drawn, s.toks)) = some (boot_heap w.params, Array.mk [], boot_drawn, boot_toks) :=
  boot_open (by kernel_rfl) (by decide) fun s => by kernel_rfl
theorem size_G (w : World) : ((boot_heap w.params).isNs mainGlobals && (Array.mk [] : Array GenState).size == 0, (boot_heap w.params).objs.size, (boot_heap w.params).nsMap mainGlobals "__annotations__") = (true, 11, some (.ref 6)) := by kernel_rfl
end
section
set_option maxRecDepth 100000
noncomputable def H1 (P : Params) : Heap := absHeap (braun 12 (heapG (baseG P) (gAt P 35))) 776 {}
noncomputable abbrev bodyG : List Stmt := behindTheImports PG
theorem te_segRunT : @segRunT = @PySem.W.Fast.tw10110043849684766642 := PySem.W.Fast.te10110043849684766642
theorem te_tree : treeTable = PySem.W.Fast.tw14364793385576792824 := PySem.W.Fast.te14364793385576792824
theorem te_execs : @execs = @PySem.W.Fast.tw12563942051412417395 := PySem.W.Fast.te12563942051412417395
theorem segs_tw (w : World) (os : OsState) : PySem.W.Fast.tw10110043849684766642 PySem.W.Fast.tw14364793385576792824 PG w 11 (some (.ref 6)) 1 5300 (stG w.params os 0 15 187) ⟨(PySem.W.Fast.tw12563942051412417395 bodyG envG).wrap doneF deadEnd id id, codeG, q0, [topFrame q0]⟩ = some (.next, stG w.params os 35 776 1203, codeG, ⟨446, 0, 463, 55⟩) := by kernel_rfl
theorem segs (w : World) (os : OsState) : segRun treeTable PG w 11 (some (.ref 6)) 1 5300 (stG w.params os 0 15 187).abs (piecesOf bodyG envG codeG q0 [topFrame q0]) = some (.next, (stG w.params os 35 776 1203).abs, codeG, ⟨446, 0, 463, 55⟩) := by
  refine segRun_of ?_
  rw [te_segRunT, te_tree]
  unfold piecesOf
  rw [te_execs]
  exact segs_tw w os
theorem pre_G (w : World) (os : OsState) : topGo treeTable PG w 11 (some (.ref 6)) 12 ⟨boot_heap w.params, Array.mk [], boot_drawn, boot_toks, os⟩ (topStub PG) = some ((stG w.params os 0 15 187).abs, ⟨denote treeTable (.body bodyG envG), codeG, q0, [topFrame q0]⟩) := by kernel_rfl
theorem block_G (w : World) (os : OsState) : segRun treeTable PG w 11 (some (.ref 6)) 1 2 (stG w.params os 0 15 187).abs (blockOf bodyG envG codeG q0 [topFrame q0]) = some (.next, (stG w.params os 0 15 187).abs, codeG, q0) := by kernel_rfl
theorem fin_G (w : World) (os : OsState) : topRun treeTable PG w 11 (some (.ref 6)) 5 (stG w.params os 35 776 1203).abs (restOf [] envG codeG ⟨446, 0, 463, 55⟩ [topFrame q0]) = some ⟨H1 w.params, #[], {}, 1203, os⟩ := by kernel_rfl
theorem run_G (w : World) (os : OsState) : topRun treeTable PG w 11 (some (.ref 6)) (12 + (2 + (5300 + 5))) ⟨boot_heap w.params, Array.mk [], boot_drawn, boot_toks, os⟩ (topStub PG) = some ⟨H1 w.params, #[], {}, 1203, os⟩ := by
  refine go_top (pre_G w os) (piece_block (block_G w os) ?_)
  have k := piece_app (rest := []) (segs w os) (fin_G w os)
  rwa [List.append_nil] at k
end
section
set_option maxRecDepth 100000
noncomputable abbrev rowG : OpenRow := PySem.Challenge.rw_qz0018_01.row
noncomputable abbrev XtG : Shared → Bool := fun s => xlAt qG [] s && recOk (RowW.records rowG.toRowW) s
theorem te_seen : @openSeen = @PySem.W.Fast.tw4187177175401517315 := PySem.W.Fast.te4187177175401517315
noncomputable abbrev endG (w : World) (os : OsState) : Shared := ⟨H1 w.params, #[], {}, 1203, os⟩
theorem look1 (w : World) (os : OsState) : (staticsOk (importedModules PG.main.body) (boot_heap w.params) (H1 w.params) && namesBound PG (H1 w.params) && gensDone (endG w os) && laidKept (boot_heap w.params) (H1 w.params)) = true := by kernel_rfl
theorem look2 (w : World) (os : OsState) : openSeen qG looseG (importedModules PG.main.body) XtG true (endG w os) = openGood qG looseG := by
  rw [te_seen]
  kernel_rfl
theorem evens_get : ∀ (l : List Obj) (i : Nat), (evens l)[i]? = l[2 * i]?
  | [], i => by unfold evens; simp
  | [a], i => by
    unfold evens
    cases i with
    | zero => rfl
    | succ i => rw [show 2 * (i + 1) = 2 * i + 1 + 1 by omega]; simp
  | a :: b :: r, i => by
    unfold evens
    cases i with
    | zero => rfl
    | succ i => rw [show 2 * (i + 1) = 2 * i + 1 + 1 by omega, List.getElem?_cons_succ, List.getElem?_cons_succ, List.getElem?_cons_succ]; exact evens_get r i
theorem evens_len : ∀ (l : List Obj), (evens l).length ≤ (l.length + 1) / 2
  | [] => by unfold evens; simp
  | [a] => by unfold evens; simp
  | a :: b :: r => by
    unfold evens
    have := evens_len r
    simp only [List.length_cons]
    omega
theorem braun_get : ∀ (k : Nat) (l : List Obj) (i : Nat), l.length < 2 ^ k → (braun k l).get i = l[i]?
  | 0, l, i, h => by
    have : l = [] := List.length_eq_zero_iff.mp (by simpa using h)
    subst this; unfold braun; simp [BT.get]
  | k + 1, [], i, _ => by unfold braun; simp [BT.get]
  | k + 1, o :: r, i, h => by
    have h1 : r.length + 1 < 2 * 2 ^ k := by rw [List.length_cons, Nat.pow_succ] at h; omega
    have e1 := evens_len r
    have e2 := evens_len (r.drop 1)
    have e3 : (r.drop 1).length = r.length - 1 := List.length_drop
    unfold braun
    rw [BT.get_node]
    by_cases q : i = 0
    · subst q; rfl
    rw [if_neg q]
    by_cases q1 : i % 2 = 1
    · rw [if_pos q1, braun_get k (evens r) (i / 2) (by omega), evens_get, show i = 2 * (i / 2) + 1 by omega, List.getElem?_cons_succ, show (2 * (i / 2) + 1) / 2 = i / 2 by omega]
    · rw [if_neg q1, braun_get k (evens (r.drop 1)) (i / 2 - 1) (by omega), evens_get, List.getElem?_drop]
      obtain ⟨j, rfl⟩ : ∃ j, i = 2 * j + 1 + 1 := ⟨i / 2 - 1, by omega⟩
      rw [List.getElem?_cons_succ, show 1 + 2 * ((2 * j + 1 + 1) / 2 - 1) = 2 * j + 1 by omega]
noncomputable def lives (o : Obj) : Bool := match o.data with | .freed => false | _ => true
theorem alive_of {o : Obj} (h : lives o = true) : alive o = some o := by
  obtain ⟨c, d, dt, sl⟩ := o
  cases dt <;> first | rfl | cases h
theorem facts_G (P : Params) : (Nat.beq (heapG (baseG P) (gAt P 35)).length 776 && (heapG (baseG P) (gAt P 35)).all lives) = true := by kernel_rfl
theorem look3 (w : World) (os : OsState) : ((List.range 776).map (endG w os).heap.get?) = (KG w.params).map fun p => some p.2 := by
  obtain ⟨hl, ha⟩ := Bool.and_eq_true_iff.mp (facts_G w.params)
  have hl := Nat.eq_of_beq_eq_true hl
  rw [List.all_eq_true] at ha
  show (List.range 776).map (absHeap (braun 12 (heapG (baseG w.params) (gAt w.params 35))) 776 {}).get? = _
  unfold KG
  generalize heapG (baseG w.params) (gAt w.params 35) = l at hl ha
  have e : ((List.range 776).zip l).map (fun p => some p.2) = l.map some := by
    rw [show (fun p : Nat × Obj => some p.2) = some ∘ Prod.snd from rfl, ← List.map_map, List.map_snd_zip (by simp [hl])]
  rw [e]
  refine List.ext_getElem (by simp [hl]) fun i h1 h2 => ?_
  have hi : i < 776 := by simpa using h1
  have hil : i < l.length := by omega
  rw [List.getElem_map, List.getElem_map, List.getElem_range]
  refine (abs_get hi (o := l[i]) ?_).trans (alive_of (ha _ (List.getElem_mem _)))
  rw [braun_get 12 l i (by omega), List.getElem?_eq_getElem hil]
theorem keysG (P : Params) : List.range 776 = (KG P).map (·.1) := by kernel_rfl
theorem left_G : LeftO PG qG looseG XtG (fun s => (List.range 776).map s.heap.get?) (fun w => (KG w.params).map fun p => some p.2) NG true :=
  LeftO.of_pieces open_G size_G run_G (by kernel_rfl) fun w => funext fun os => by
    rw [look1 w os, look2 w os, look3 w os]
end
section
open PyProof.Rows.LCg
set_option maxRecDepth 100000
noncomputable def posOf : Stmt → Pos
  | .FunctionDef _ _ _ _ _ _ _ _ _ p => p
  | _ => default
noncomputable def dL : DefRec := ⟨"law", fArgs stL, fBody stL, fScope stL, posOf stL⟩
theorem def_L : defOf qG rowG.name = some (dL, []) := by kernel_rfl
theorem cells_L (L : Addr) : cellsFrom (L + 1) (fScope stL).names [] = [(("kind" : Str), L + 1 + 1), (("bank" : Str), L + 1)] := by kernel_rfl
theorem has90 : ∀ P, ((KK P).lookup 90).isSome = true := fun P => by kernel_rfl
theorem ints_vis {us : List Value} {cells : List Int} (h : IntsAre us cells) : VIs (cells.map .int) us := by
  induction h with
  | nil => exact .nil
  | cons n t _ ih => exact .cons ⟨_, rfl⟩ ih
/-- the frame of law's call -/
noncomputable def cxL (w : World) (s₀ s₁ : Shared) (mg mb : Str → Option Value) (fa : Addr) (cd : Value) : Cx where
  w := w
  p := qG
  loose := looseW qG looseG
  mean := ExcName.means s₀.heap
  mg := mg
  mb := mb
  dp := callerA.depth + 1
  un := callerA.units + 3
  gd := some []
  cn := "law"
  fa := fa
  ccd := cd
  cl := cellsFrom (s₁.heap.objs.size + 1) (fScope stL).names []
  outer := []
  A₀ := callerA
  base := s₁.heap
  h₀ := s₁.heap
  L := s₁.heap.objs.size
  E := fun _ _ => False
  S₀ := fScope stL
  gens := s₁.gens
  drawn := s₁.drawn
  os := s₁.os
theorem post_L (args : List WData) : rowG.toRowW.claim.post args (.bool true) args = true := by
  refine postW_of (r := rowG.toRowW) (X := true) (by kernel_rfl) ?_ rfl
  kernel_rfl
set_option maxHeartbeats 8000000 in
theorem walk : WalkO qG looseG (XL qG []) (InK KG) rowG.toRowW dL [] fun f vs => PySem.call f vs := by
  intro w s₀ s₁ mg mb G Y fa o pm cd doc dV kV ho hd hcd hD hmg hg args vals as hpre hlay hrd hwl hlo
  have T := G.T
  have he := Dflts.none hD rfl
  subst he
  have he := Dflts.noKw hD
  subst he
  clear hD
  have hd' : o.data = .func (docDef "law" (fArgs stL) (fBody stL) (fScope stL) pm cd doc) := by
    have := fd_plain hd
    dsimp only [dL] at this
    exact this
  have hcd' : s₁.heap.CodeRec cd "law" := by dsimp only [dL] at hcd; exact hcd
  clear hd hcd hmg
  wrow_args hpre hlay hrd hwl hlo
  rename_i cells _ _ _ _ _ _ _ sa us _ hL _ _ _ hI _ hc _
  have hz : cells.length ≤ 100 := by (first | lia | omega)
  refine enter_call (call_cellsN_ret (name := "law") (params := fArgs stL) (body := fBody stL) (scope := fScope stL) (binds := [("script", .ref sa)]) (by decide) ho hd' T.nolimit hcd' ?_ ?_ ?_ (fun h₁ tk cls F N X => ?_) ?_ ?_ ?_)
  · kernel_rfl
  · intro x hx
    rw [List.mem_singleton] at hx
    subst hx
    exact .inl (by kernel_rfl)
  · decide +kernel
  · have ok : (cxL w s₀ s₁ mg mb fa cd).Ok (0 + 20) := ⟨below_caller s₁.heap, Y, T, by show 1 + claimMargin + 1 + (0 + 20) < recursionLimit; decide, by show 4 + 3 + 8 * (0 + 20) + 200 < cLine; decide, PassesOwn.never⟩
    have hcl := cells_L s₁.heap.objs.size
    have X' : CellsAre (bindC (envOfC "law" (fScope stL) s₁.heap.objs.size fa cd).kindOf [("script", .ref sa)] fun _ => none) [(("kind" : Str), s₁.heap.objs.size + 1 + 1), (("bank" : Str), s₁.heap.objs.size + 1)] cls := by rw [← hcl]; exact X
    obtain ⟨o1, o2, rfl, e1, e2⟩ := X'.two
    let σ : Sg := fun a => if a = s₁.heap.objs.size + 1 then some (.cell none) else if a = s₁.heap.objs.size + 1 + 1 then some (.cell none) else kTup a
    have n1 := (N _ (.head _)).2.2
    have n2 := (N _ (.tail _ (.head _))).2.2
    obtain ⟨o90, h90⟩ := Option.isSome_iff_exists.mp (has90 w.params)
    have lt90 : 90 < s₁.heap.objs.size := Heap.lt_size (Y _ _ h90)
    have k89 : σ 89 = some (frac 0) := by
      show (if _ then _ else if _ then _ else _) = _
      rw [if_neg (show ¬ 89 = s₁.heap.objs.size + 1 by (first | lia | omega)), if_neg (show ¬ 89 = s₁.heap.objs.size + 1 + 1 by (first | lia | omega))]; rfl
    have k90 : σ 90 = some (frac 1) := by
      show (if _ then _ else if _ then _ else _) = _
      rw [if_neg (show ¬ 90 = s₁.heap.objs.size + 1 by (first | lia | omega)), if_neg (show ¬ 90 = s₁.heap.objs.size + 1 + 1 by (first | lia | omega))]; rfl
    have kcb : σ (s₁.heap.objs.size + 1 + 1) = some (.cell none) := by
      show (if _ then _ else if _ then _ else _) = _
      rw [if_neg (show ¬ s₁.heap.objs.size + 1 + 1 = s₁.heap.objs.size + 1 by (first | lia | omega)), if_pos rfl]
    have R : Rel (cxL w s₀ s₁ mg mb fa cd) (binds ["script"] [.ref sa]) σ [] h₁ := by
      refine ⟨_, _, F, by rw [List.append_nil]; exact N, fun x v e => ?_, ⟨fun a ob e => ?_⟩, fun p hp => nomatch hp⟩
      · by_cases q : x = "script"
        · subst q
          refine ⟨.ref sa, by kernel_rfl, ?_⟩
          have : v = .ref sa := (Option.some.inj e).symm
          subst this; rfl
        · exfalso
          have e' : (if x = "script" then some (V.ref sa) else none) = some v := e
          rw [if_neg q] at e'; cases e'
      · show (∃ o, (a, o) ∈ _ ∧ _) ∨ _
        by_cases q1 : a = s₁.heap.objs.size + 1
        · subst q1
          have e' : σ (s₁.heap.objs.size + 1) = some (.cell none) := if_pos rfl
          rw [e'] at e
          obtain rfl := Option.some.inj e
          exact .inl ⟨o2, .tail _ (.head _), ⟨_, e2, trivial⟩, ok.noSys n2⟩
        · by_cases q2 : a = s₁.heap.objs.size + 1 + 1
          · subst q2
            rw [kcb] at e
            obtain rfl := Option.some.inj e
            exact .inl ⟨o1, .head _, ⟨_, e1, trivial⟩, ok.noSys n1⟩
          · have e' : (if a = s₁.heap.objs.size + 1 then some (Ob.cell none) else if a = s₁.heap.objs.size + 1 + 1 then some (.cell none) else kTup a) = some ob := e
            rw [if_neg q1, if_neg q2] at e'
            exact .inr e'
    have hcl' : (cxL w s₀ s₁ mg mb fa cd).cl = (TL (s₁.heap.objs.size + 1) (s₁.heap.objs.size + 1 + 1)).cl := hcl
    have kca : σ (s₁.heap.objs.size + 1) = some (.cell none) := if_pos rfl
    have hab : s₁.heap.objs.size + 1 ≠ s₁.heap.objs.size + 1 + 1 := Nat.ne_of_lt (Nat.lt_succ_self _)
    have hL' : (cxL w s₀ s₁ mg mb fa cd).h₀.IsList sa us.toArray := hL
    have hI' := ints_vis hI
    have ex : Box (Exs (cxL w s₀ s₁ mg mb fa cd) (fScope stL) (fBody stL) (binds ["script"] [.ref sa]) σ (fun f _ _ => f = .ret (.bool true))) :=
      law0c (n := 0) ok hcl' rfl hL' hI' hz kca kcb hab k89 k90 (fun _ _ => rfl)
    apply Box.unbox
    refine ex.run (tk := tk) R fun f u ρ' σ' h' tk' R' hf e => ?_
    subst e
    obtain ⟨u', rfl, hu⟩ := hf
    obtain rfl : u' = .bool true := hu
    obtain ⟨mp, F', _⟩ := R'.frame
    exact ⟨.inl ⟨_, .bool true, [], rfl, fun _ => rfl, .bool true, post_L _, fun _ => ⟨.nil, fun _ h => nomatch h⟩⟩, .of_keep F'.keep, rfl, .of_eq hg⟩
  · kernel_rfl
  · kernel_rfl
  · kernel_rfl
end
section
set_option maxRecDepth 100000
theorem said_names : namesResolve PG = true := by kernel_rfl
set_option maxHeartbeats 8000000 in
theorem said_looks : looksOpen PG = true := by
  unfold looksOpen
  simp only [Bool.and_eq_true]
  repeat' (apply And.intro)
  · kernel_rfl
  · kernel_rfl
  · exact said_names
  all_goals kernel_rfl
set_option maxHeartbeats 8000000 in
theorem said : (PySem.Challenge.rw_qz0018_01).wellSaid = true := by
  unfold OpenLaw.wellSaid OpenRow.wellSaid OpenRow.partSaid
  simp only [Bool.and_eq_true]
  repeat' (apply And.intro)
  · exact said_looks
  all_goals kernel_rfl
end
section
set_option maxRecDepth 100000
theorem bare_G : rowG.prog.bare := ⟨rfl, rfl, rfl, rfl, rfl, by decide +kernel⟩
theorem prom_G : rowG.toRowW.promised := ⟨[.list [.int 3, .int 1]], by decide +kernel, by decide +kernel⟩
set_option maxHeartbeats 8000000 in
theorem row_holds (hs : rowG.wellSaid = true) : rowG.Holds :=
  holds_open (q := qG) (loose := looseG) (Xt := XtG) (XP := XL qG []) (YP := InK KG) left_G (InK.of keysG) InK.keeps (fun s e => xl_of s (Bool.and_eq_true_iff.mp e).1) XL.keeps def_L (by kernel_rfl) (by kernel_rfl) (fun s e => recFacts_of (Bool.and_eq_true_iff.mp e).2) (by kernel_rfl) hs (by kernel_rfl) bare_G prom_G walk
end
end Mine
theorem PySem.Challenge.cw_qz0018_01_holds : PySem.Challenge.rw_qz0018_01.Holds :=
  holds_law Mine.said fun hs => Mine.row_holds hs
