import PyProof.Rows.All
import Wide.All
import OpenK.AllK
import Wide.FinOn
import PySem.Challenge.RW_sq0042_01
set_option Elab.async false
set_option maxRecDepth 100000
set_option linter.unusedVariables false
set_option genSizeOf false
set_option genInjectivity false
set_option exponentiation.threshold 3000
/-! ## H1 -/
namespace Mine
open PySem PySem.W PySem.Calls PyProof.Rows
noncomputable abbrev PG : Program := PySem.Challenge.pw_sq0042_01
noncomputable def p0 : Pos := ⟨0, 0, 0, 0⟩
noncomputable def envT : Env := { scope := PG.main.scope, locals := mainNs, globals := mainNs, cells := [], code := .ref 13, frame := some 14 }
noncomputable def bodyT : List Stmt := behindTheImports PG
noncomputable def codeT : Code := .body bodyT envT
noncomputable def obA : Obj := { cls := .type "tuple", data := .seq #[] }
noncomputable def obB : Obj := { cls := .none, data := .fields #[] }
noncomputable def obC : Obj := { cls := .type "code", data := .fields #[.str "<module>" 182, .str "<module>" 183, .str "/claim/cut.py" 184, .int 1 0, .int 0 0, .int 0 0, .int 0 0, .int 0 0, .ref 11, .bool false, .int 181 0, .ref 12, .none, .none, .none, .none, .int 185 0, .int 1 0, .str "/claim/cut.py" 186] }
noncomputable def obD : Obj := { cls := .type "frame", slots := #[some (.ref 13), some (.ref 3), some (.ref 3), none, some (.str "__main__" 164), none, some (.ref 0)] }
noncomputable def heapT (P : Params) : Heap := ⟨⟨[boot_o_0 P, boot_o_1 P, boot_o_2 P, boot_o_3 P, boot_o_4 P, boot_o_5 P, boot_o_6 P, boot_o_7 P, boot_o_8 P, boot_o_9 P, boot_o_10 P, obA, obB, obC, obD]⟩, {}⟩
noncomputable def treeT (P : Params) : BT :=
  .node (boot_o_0 P)
    (.node (boot_o_1 P) (.node (boot_o_3 P) (.node (boot_o_7 P) .nil .nil) (.node obA .nil .nil)) (.node (boot_o_5 P) (.node (boot_o_9 P) .nil .nil) (.node obC .nil .nil)))
    (.node (boot_o_2 P) (.node (boot_o_4 P) (.node (boot_o_8 P) .nil .nil) (.node obB .nil .nil)) (.node (boot_o_6 P) (.node (boot_o_10 P) .nil .nil) (.node obD .nil .nil)))
open PySem.W.Fast in
theorem preT (w : World) : (fun os => topGo treeTable PG w 11 (some (.ref 6)) 12 ⟨boot_heap w.params, #[], boot_drawn, boot_toks, os⟩ (topStub PG)) =
    fun os => some (⟨heapT w.params, #[], {}, 187, os⟩, ⟨denote treeTable codeT, codeT, p0, [topFrame p0]⟩) := by
  rw [te15667345088766844465, te14364793385576792824, te11892475500146522536]
  kernel_rfl
open PySem.W.Fast in
theorem blockT (w : World) : (fun os => segRun treeTable PG w 11 (some (.ref 6)) 1 1 ⟨heapT w.params, #[], {}, 187, os⟩ (blockOf bodyT envT codeT p0 [topFrame p0])) =
    fun os => some (.next, SharedT.abs ⟨treeT w.params, 15, {}, #[], {}, 187, os⟩, codeT, p0) := by
  rw [te14374325043358763698, te14364793385576792824]
  kernel_rfl
/-! ## what the text left -/
inductive B where
  | len | abs | ord | min | sum | int | isBool | isInt | isTup
noncomputable def tk2 (a b : Int) : PyData := .tuple [.int a, .int b]
noncomputable def gdat : List (Str × PyData) := [("RELAX", .int 0), ("LEFT_BRACE", .int 1), ("SPACER", .int 10), ("NAMED_REGISTER", .int 77), ("RELAX_VALUE", .int 256), ("END_OF_INPUT", .int 99),
  ("MAX_NUMBER", .int 2147483647), ("OTHER", .int 12), ("LETTER_tokens", .int 11), ("BEGIN", .int 1), ("END", .int 2), ("CONTROL", .int 0), ("ACTIVE", .int 13), ("OUT", .int 5), ("MATCH", .int 9), ("FROZEN", .int 14), ("NOT_EXPANDED", .int 15),
  ("NUMBER_SORT", .int 0), ("GLUE_SORT", .int 2), ("MUGLUE_SORT", .int 3), ("PLUS", tk2 12 43), ("MINUS", tk2 12 45), ("EQUALS", tk2 12 61), ("BACK_QUOTE", tk2 12 96), ("OCTAL_MARK", tk2 12 39), ("HEXADECIMAL_MARK", tk2 12 34),
  ("LEAST_CODES", .tuple ([0, 0, 0, 0, 0, 1, 0, 0, 0, 1, 0, 0, 0, 0, 0, 0].map .int)), ("GREATEST_CODES", .tuple ([1048575, 255, 255, 255, 255, 9, 255, 255, 255, 9, 255, 255, 255, 255, 255, 0].map .int)), ("FONT_SORT", .int 5), ("DIMEN_SORT", .int 1), ("MAX_DIMEN", .int 1073741823)]
noncomputable def gfun : List (Str × Addr) := [(("is_whole" : Str), (133 : Addr)), (("is_token" : Str), (282 : Addr)), (("unread" : Str), (309 : Addr)), (("skip_blanks" : Str), (316 : Addr)), (("skip_filler" : Str), (323 : Addr)), (("optional_blank" : Str), (330 : Addr)), (("optional_equals" : Str), (337 : Addr)), (("left_brace" : Str), (344 : Addr)), (("spells" : Str), (351 : Addr)), (("keyword" : Str), (358 : Addr)), (("signs" : Str), (365 : Addr)), (("lowered" : Str), (372 : Addr)), (("digit_of" : Str), (379 : Addr)), (("written_number" : Str), (393 : Addr)), (("number_parts" : Str), (400 : Addr)), (("number" : Str), (407 : Addr)), (("small" : Str), (414 : Addr)), (("_law_stock" : Str), (492 : Addr)), (("_law_words" : Str), (499 : Addr)), (("_law_pool" : Str), (506 : Addr)), (("_law_take" : Str), (513 : Addr)), (("_law_row" : Str), (518 : Addr)), (("_law_triple" : Str), (525 : Addr)), (("_law_past" : Str), (532 : Addr)), (("_law_signed" : Str), (539 : Addr)), (("_law_stands" : Str), (544 : Addr)), (("_law_small_due" : Str), (549 : Addr)), (("_law_due" : Str), (556 : Addr)), (("_law_met" : Str), (563 : Addr)), (("_law_braces" : Str), (568 : Addr)), (("check_whole" : Str), (140 : Addr)), (("check_number" : Str), (147 : Addr)), (("check_dimen" : Str), (154 : Addr)), (("check_inner" : Str), (421 : Addr))]
noncomputable def gblt : List (Str × B) := [("len", .len), ("abs", .abs), ("ord", .ord), ("min", .min), ("sum", .sum)]
noncomputable def biId : B → String
  | .len => "len" | .abs => "abs" | .ord => "ord" | .min => "min" | .sum => "sum" | .int => "" | .isBool => "" | .isInt => "" | .isTup => ""
noncomputable def gmeth : List (Str × Addr) := [("read", 443), ("read_expanded", 450), ("back", 457), ("left", 464), ("quantity", 471)]
noncomputable def gnone : List Str := ["len", "abs", "ord", "min", "sum", "isinstance", "bool", "int", "range", "enumerate", "tuple", "list", "dict"]
structure Sig where
  params : Arguments
  body : List Stmt
  scope : Scope
noncomputable def sigOf : Stmt → Option Sig
  | .FunctionDef _ ps b _ _ _ sc _ _ _ => some ⟨ps, b, sc⟩
  | _ => none
noncomputable def inCls : Stmt → List Stmt
  | .ClassDef _ _ _ b _ _ _ _ _ _ _ => b
  | _ => []
/-- the functions: where they lie, their names, the statement that made them -/
noncomputable def fnT : List (Addr × Str × Nat × Option Nat) := [((133 : Addr), ("is_whole" : Str), (18 : Nat), (none : Option Nat)), ((282 : Addr), ("is_token" : Str), (35 : Nat), (none : Option Nat)), ((309 : Addr), ("unread" : Str), (40 : Nat), (none : Option Nat)), ((316 : Addr), ("skip_blanks" : Str), (41 : Nat), (none : Option Nat)), ((323 : Addr), ("skip_filler" : Str), (42 : Nat), (none : Option Nat)), ((330 : Addr), ("optional_blank" : Str), (43 : Nat), (none : Option Nat)),
  ((337 : Addr), ("optional_equals" : Str), (44 : Nat), (none : Option Nat)), ((344 : Addr), ("left_brace" : Str), (45 : Nat), (none : Option Nat)), ((351 : Addr), ("spells" : Str), (46 : Nat), (none : Option Nat)), ((358 : Addr), ("keyword" : Str), (47 : Nat), (none : Option Nat)), ((365 : Addr), ("signs" : Str), (48 : Nat), (none : Option Nat)), ((372 : Addr), ("lowered" : Str), (49 : Nat), (none : Option Nat)),
  ((379 : Addr), ("digit_of" : Str), (50 : Nat), (none : Option Nat)), ((393 : Addr), ("written_number" : Str), (52 : Nat), (none : Option Nat)), ((400 : Addr), ("number_parts" : Str), (53 : Nat), (none : Option Nat)), ((407 : Addr), ("number" : Str), (54 : Nat), (none : Option Nat)), ((414 : Addr), ("small" : Str), (55 : Nat), (none : Option Nat)), ((492 : Addr), ("_law_stock" : Str), (59 : Nat), (none : Option Nat)),
  ((499 : Addr), ("_law_words" : Str), (60 : Nat), (none : Option Nat)), ((506 : Addr), ("_law_pool" : Str), (61 : Nat), (none : Option Nat)), ((513 : Addr), ("_law_take" : Str), (62 : Nat), (none : Option Nat)), ((518 : Addr), ("_law_row" : Str), (63 : Nat), (none : Option Nat)), ((525 : Addr), ("_law_triple" : Str), (64 : Nat), (none : Option Nat)), ((532 : Addr), ("_law_past" : Str), (65 : Nat), (none : Option Nat)),
  ((539 : Addr), ("_law_signed" : Str), (66 : Nat), (none : Option Nat)), ((544 : Addr), ("_law_stands" : Str), (67 : Nat), (none : Option Nat)), ((549 : Addr), ("_law_small_due" : Str), (68 : Nat), (none : Option Nat)), ((556 : Addr), ("_law_due" : Str), (69 : Nat), (none : Option Nat)), ((563 : Addr), ("_law_met" : Str), (70 : Nat), (none : Option Nat)), ((568 : Addr), ("_law_braces" : Str), (71 : Nat), (none : Option Nat)),
  ((140 : Addr), ("check_whole" : Str), (19 : Nat), (none : Option Nat)), ((147 : Addr), ("check_number" : Str), (20 : Nat), (none : Option Nat)), ((154 : Addr), ("check_dimen" : Str), (21 : Nat), (none : Option Nat)), ((421 : Addr), ("check_inner" : Str), (56 : Nat), (none : Option Nat)), ((443 : Addr), ("PlainSource.read" : Str), (57 : Nat), (some 1 : Option Nat)), ((450 : Addr), ("PlainSource.read_expanded" : Str), (57 : Nat), (some 2 : Option Nat)),
  ((457 : Addr), ("PlainSource.back" : Str), (57 : Nat), (some 3 : Option Nat)), ((464 : Addr), ("PlainSource.left" : Str), (57 : Nat), (some 4 : Option Nat)), ((471 : Addr), ("PlainSource.quantity" : Str), (57 : Nat), (some 5 : Option Nat)), ((436 : Addr), ("PlainSource.__init__" : Str), (57 : Nat), (some 0 : Option Nat)), ((56 : Addr), ("PageError.__init__" : Str), (7 : Nat), (some 0 : Option Nat)), ((575 : Addr), ("law" : Str), (72 : Nat), (none : Option Nat))]
noncomputable def sigAt (i : Nat) (j : Option Nat) : Option Sig := (PG.main.body[i]?).bind fun st => match j with
  | none => sigOf st
  | some j => ((inCls st)[j]?).bind sigOf
noncomputable def fragGo : Nat → List Obj → Frag
  | _, [] => []
  | i, o :: r => match o.isFreed with
    | true => fragGo (i + 1) r
    | false => (i, o) :: fragGo (i + 1) r
theorem fragGo_get : ∀ {l : List Obj} {i a : Nat} {o : Obj}, (fragGo i l).lookup a = some o → i ≤ a ∧ l[a - i]? = some o ∧ o.isFreed = false
  | [], _, _, _, e => nomatch e
  | x :: r, i, a, o, e => by
    have more : (fragGo (i + 1) r).lookup a = some o → i ≤ a ∧ (x :: r : List Obj)[a - i]? = some o ∧ o.isFreed = false := fun e =>
      let ⟨h1, h2, h3⟩ := fragGo_get e
      ⟨Nat.le_of_succ_le h1, by rw [show a - i = a - (i + 1) + 1 by omega]; exact h2, h3⟩
    unfold fragGo at e
    split at e
    · exact more e
    · rename_i hf
      rw [List.lookup] at e
      cases h : a == i with
      | true =>
        rw [h] at e; cases e
        obtain rfl := beq_iff_eq.mp h
        exact ⟨Nat.le_refl _, by rw [Nat.sub_self]; rfl, hf⟩
      | false => rw [h] at e; exact more e
noncomputable def frag (h : Heap) : Frag := fragGo 0 h.objs.toList
theorem frag_in (h : Heap) : (frag h).In h := fun a o e =>
  let ⟨_, h2, h3⟩ := fragGo_get e
  Heap.get?_some_iff.mpr ⟨by rwa [Nat.sub_zero, Array.getElem?_toList] at h2, h3⟩
noncomputable def funcOf (x : Data) : Option FuncData := match x with | .func fd => some fd | _ => none
noncomputable def stmtsOf (b : FuncBody) : Option (List Stmt) := match b with | .stmts b => some b | _ => none
noncomputable def seqOf (x : Data) : Option (List Value) := match x with | .seq vs _ => some vs.toList | _ => none
noncomputable def refOf (v : Value) : Option Addr := match v with | .ref a => some a | _ => none
noncomputable def noDef (f : Addr) (v : Value) : Bool := match v with | .none => true | _ => f == 436 || f == 56
noncomputable def fnSeen (K : Frag) (f : Addr) : Option (Str × Sig) := (K.lookup f).bind fun o => (funcOf o.data).bind fun fd => (stmtsOf fd.body).bind fun b =>
  cond (fd.closure.isEmpty && (fd.globals == mainGlobals && (fd.builtins == builtinsNs && (codeIn K fd.code fd.qualname && noDef f fd.defaults)))) (some (fd.qualname, ⟨fd.params, b, fd.scope⟩)) none
noncomputable def defaultsSeen (K : Frag) (f : Addr) : Option (Addr × List Value) := (K.lookup f).bind fun o => (funcOf o.data).bind fun fd => (refOf fd.defaults).bind fun T => (K.lookup T).bind fun t => (seqOf t.data).map fun vs => (T, vs)
noncomputable def intV (i : Int) (v : Value) : Bool := match v with | .int j _ => i == j | _ => false
noncomputable def intP (v : Value) (d : PyData) : Bool := match d with | .int i => intV i v | _ => false
noncomputable def tupK (K : Frag) (ds : List PyData) (v : Value) : Bool := (refOf v).any fun a => (K.lookup a).any fun o => o.cls == .type "tuple" && (seqOf o.data).any fun vs => vs.length == ds.length && (vs.zip ds).all fun p => intP p.1 p.2
noncomputable def datK (K : Frag) (v : Value) (d : PyData) : Bool := match d with
  | .int i => intV i v
  | .tuple ds => tupK K ds v
  | _ => false
noncomputable def gloK (K : Frag) (n : Str) (v : Value) : Bool := nsIn K mainGlobals n == some (some v)
noncomputable def attrs1 : List Str := ["rest", "inner", "balance"]
noncomputable def attrs2 : List Str := ["rest", "inner", "names", "sizes", "balance"]
noncomputable def okK (K : Frag) : List Bool := [
  gdat.all fun p => (nsIn K mainGlobals p.1).join.any fun v => datK K v p.2,
  gfun.all fun p => gloK K p.1 (.ref p.2) && keepIn K (.ref p.2),
  gnone.all fun n => nsIn K mainGlobals n == some none,
  gmeth.all fun p => findIn K (.ref 481) p.1 == some (some (.ref p.2)) && isFn K (.ref p.2) && plainGet K 481 p.1 && keepIn K (.ref p.2),
  attrs1.all fun n => plainGet K 481 n && findIn K (.ref 481) n == some none,
  findIn K (.ref 481) "__setattr__" == some (some (.builtin "object.__setattr__")) && plainOver K 481 && hasDictIn K 481,
  attrs2.all fun n => takerIn K 481 n == some none,
  makesIn K 481 && findIn K (.ref 481) "__init__" == some (some (.ref 436)) && typeIn K (.ref 436) == some (.type "function") && typeIn K (.ref 56) == some (.type "function"),
  gloK K "PlainSource" (.ref 481) && keepIn K (.ref 481) && gloK K "law" (.ref 575) && gloK K "BadNumber" (.ref 84) && gloK K "BadGroup" (.ref 120),
  ([84, 120] : List Addr).all fun C => findIn K (.ref C) "__init__" == some (some (.ref 56)) && findIn K (.ref C) "reason" == some none && findIn K (.ref C) "__setattr__" == some (some (.builtin "object.__setattr__"))]
noncomputable def badObj (C : Addr) (N' : Addr) (M : Addr) (nm : Str) (t u : Nat) : Obj :=
  ⟨.type "type", none, .cls { name := nm, bases := [.ref 59], mro := [.ref C, .ref 59, .type "ValueError", .type "Exception", .type "BaseException", .type "object"], ns := N', qualname := nm },
    #[some (.ref M), none, some (.str nm t), some (.str nm u), some (.builtin "ValueError.__new__"), some (.bool true)]⟩
/-- all that is asked of the heap -/
structure Left (K : Frag) : Prop where
  ok : okK K = List.replicate 10 true
  fn : fnT.map (fun p => fnSeen K p.1) = fnT.map fun p => (sigAt p.2.2.1 p.2.2.2).map fun s => (p.2.1, s)
  ini : defaultsSeen K 436 = some (429, [.none, .none, .int 0 859, .int 0 860])
  pge : defaultsSeen K 56 = some (49, [.str "" 276])
  num : K.lookup 84 = some (badObj 84 83 75 "BadNumber" 308 316)
  grp : K.lookup 120 = some (badObj 120 119 111 "BadGroup" 356 364)
noncomputable def obs (h : Heap) := (okK (frag h), fnT.map (fun p => fnSeen (frag h) p.1), defaultsSeen (frag h) 436, defaultsSeen (frag h) 56, (frag h).lookup 84, (frag h).lookup 120)
noncomputable def val := (List.replicate 10 true, fnT.map (fun p => (sigAt p.2.2.1 p.2.2.2).map fun s => (p.2.1, s)), some ((429 : Addr), ([.none, .none, .int 0 859, .int 0 860] : List Value)), some ((49 : Addr), ([.str "" 276] : List Value)),
  some (badObj 84 83 75 "BadNumber" 308 316), some (badObj 120 119 111 "BadGroup" 356 364))
noncomputable def qT : Program := { PG with main := { PG.main with body := PG.main.body.drop 72 } }
noncomputable def looseT : List Str := (PG.main.scope.names.map (·.1)).filter fun n => !(n == ("law" : Str))
/-- a heap that holds what the top left -/
noncomputable def YT (w : World) (h : Heap) : Prop := ∃ K : Frag, K.In h ∧ Left K
end Mine
/-! ## N1 -/
namespace Mine
open PySem PySem.W PySem.Calls PyProof.Rows
/-! ## The ground: what the top left -/
structure Gd (w : World) (hb : Heap) (F : Frag) : Prop where
  K : F.In hb
  L : Left F
  g : ∃ mg, hb.Ns mainGlobals mg
  b : ∃ mb, hb.Ns builtinsNs mb ∧ ∀ x : Str, x ≠ "__name__" → mb x = bootBuiltins x
  nl : hb.NoLimit
/-! ## Cold maps: what does not change any more -/
noncomputable abbrev CM := Addr → Option Obj
noncomputable def CM.le (c c' : CM) : Prop := ∀ b o, c b = some o → c' b = some o
noncomputable def CM.inH (c : CM) (h : Heap) : Prop := ∀ b o, c b = some o → h.get? b = some o
noncomputable def CM.put (c : CM) (a : Addr) (o : Obj) : CM := fun b => if b = a then some o else c b
theorem CM.le.refl (c : CM) : c.le c := fun _ _ e => e
theorem CM.le.trans {c₁ c₂ c₃ : CM} (h : c₁.le c₂) (k : c₂.le c₃) : c₁.le c₃ := fun b o e => k b o (h b o e)
theorem CM.le_put {c : CM} {a : Addr} {o : Obj} (e : c a = none) : c.le (c.put a o) := fun b x q => (if_neg fun h => nomatch (h ▸ q).symm.trans e).trans q
theorem CM.put_at {c : CM} {a : Addr} {o : Obj} : c.put a o a = some o := by unfold CM.put; rw [if_pos rfl]
/-! ## Two lists, item by item -/
inductive All2 {α β : Type} (R : α → β → Prop) : List α → List β → Prop
  | nil : All2 R [] []
  | cons {v vs d ds} : R v d → All2 R vs ds → All2 R (v :: vs) (d :: ds)
section
variable {α β : Type} {R R' : α → β → Prop} {vs ws : List α} {ds es : List β}
theorem All2.imp (k : ∀ v d, R v d → R' v d) (h : All2 R vs ds) : All2 R' vs ds := by
  induction h with
  | nil => exact .nil
  | cons a _ ih => exact .cons (k _ _ a) ih
theorem All2.length (h : All2 R vs ds) : vs.length = ds.length := by
  induction h with
  | nil => rfl
  | cons _ _ ih => exact congrArg (· + 1) ih
theorem All2.append (h : All2 R vs ds) (k : All2 R ws es) : All2 R (vs ++ ws) (ds ++ es) := by
  induction h with
  | nil => exact k
  | cons a _ ih => exact .cons a ih
theorem All2.get (h : All2 R vs ds) : ∀ {i : Nat} {d : β}, ds[i]? = some d → ∃ v, vs[i]? = some v ∧ R v d := by
  induction h with
  | nil => exact fun e => nomatch e
  | cons a _ ih =>
    intro i d e
    cases i with
    | zero => cases e; exact ⟨_, rfl, a⟩
    | succ i => rw [List.getElem?_cons_succ] at e ⊢; exact ih e
theorem All2.reverse (h : All2 R vs ds) : All2 R vs.reverse ds.reverse := by
  induction h with
  | nil => exact .nil
  | cons a _ ih => rw [List.reverse_cons, List.reverse_cons]; exact ih.append (.cons a .nil)
theorem All2.drop (n : Nat) (h : All2 R vs ds) : All2 R (vs.drop n) (ds.drop n) := by
  induction h generalizing n with
  | nil => cases n <;> exact .nil
  | cons a r ih => cases n with
    | zero => exact .cons a r
    | succ n => exact ih n
theorem All2.take (n : Nat) (h : All2 R vs ds) : All2 R (vs.take n) (ds.take n) := by
  induction h generalizing n with
  | nil => cases n <;> exact .nil
  | cons a r ih => cases n with
    | zero => exact .nil
    | succ n => exact .cons a (ih n)
theorem All2.zip (h : All2 R vs ds) : ∀ p ∈ vs.zip ds, R p.1 p.2 := by
  induction h with
  | nil => exact fun _ q => nomatch q
  | cons a _ ih => exact List.forall_mem_cons.mpr ⟨a, ih⟩
theorem All2.of_zip : ∀ {vs : List α} {ds : List β}, vs.length = ds.length → (∀ p ∈ vs.zip ds, R p.1 p.2) → All2 R vs ds
  | [], [], _, _ => .nil
  | _ :: _, _ :: _, e, h => .cons (List.forall_mem_cons.mp h).1 (of_zip (Nat.succ.inj e) (List.forall_mem_cons.mp h).2)
theorem All2.snoc {es : List β} {d : β} (h : All2 R vs (es ++ [d])) : ∃ us v, vs = us ++ [v] ∧ All2 R us es ∧ R v d := by
  have h := h.reverse
  rw [List.reverse_append] at h
  generalize hw : vs.reverse = w at h
  cases h with
  | cons a r => exact ⟨_, _, by rw [← List.reverse_reverse vs, hw, List.reverse_cons], by simpa using r.reverse, a⟩
end
/-- the datum that a value reads as, by cold objects alone -/
inductive Rd (c : CM) : Value → PyData → Prop
  | none : Rd c .none .none
  | bool (b) : Rd c (.bool b) (.bool b)
  | int (i t) : Rd c (.int i t) (.int i)
  | str (x t) : Rd c (.str x t) (.str x)
  | list' {a : Addr} {o : Obj} {vs : List Value} {n ds} : c a = some o → o.cls = .type "list" → o.data = .seq vs.toArray n → vs.length = ds.length → (∀ p ∈ vs.zip ds, Rd c p.1 p.2) → Rd c (.ref a) (.list ds)
  | tuple' {a : Addr} {o : Obj} {vs : List Value} {n ds} : c a = some o → o.cls = .type "tuple" → o.data = .seq vs.toArray n → vs.length = ds.length → (∀ p ∈ vs.zip ds, Rd c p.1 p.2) → Rd c (.ref a) (.tuple ds)
noncomputable abbrev RdL (c : CM) : List Value → List PyData → Prop := All2 (Rd c)
section
variable {c c' : CM} {v : Value} {d : PyData} {vs : List Value} {ds : List PyData}
theorem Rd.list {a : Addr} {o : Obj} {n} (h1 : c a = some o) (h2 : o.cls = .type "list") (h3 : o.data = .seq vs.toArray n) (h : RdL c vs ds) : Rd c (.ref a) (.list ds) := .list' h1 h2 h3 h.length h.zip
theorem Rd.tuple {a : Addr} {o : Obj} {n} (h1 : c a = some o) (h2 : o.cls = .type "tuple") (h3 : o.data = .seq vs.toArray n) (h : RdL c vs ds) : Rd c (.ref a) (.tuple ds) := .tuple' h1 h2 h3 h.length h.zip
theorem Rd.mono (k : c.le c') (h : Rd c v d) : Rd c' v d := by
  induction h with
  | none => exact .none
  | bool b => exact .bool b
  | int i t => exact .int i t
  | str x t => exact .str x t
  | list' h1 h2 h3 h4 _ ih => exact .list' (k _ _ h1) h2 h3 h4 ih
  | tuple' h1 h2 h3 h4 _ ih => exact .tuple' (k _ _ h1) h2 h3 h4 ih
theorem RdL.mono (k : c.le c') (h : RdL c vs ds) : RdL c' vs ds := h.imp fun _ _ => Rd.mono k
theorem readsAll_of {h : Heap} : ∀ {vs : List Value} {ds : List PyData}, vs.length = ds.length → (∀ p ∈ vs.zip ds, ∃ as, Reads h p.1 p.2 as) → ∃ as, ReadsAll h vs ds as
  | [], [], _, _ => ⟨_, .nil⟩
  | _ :: _, _ :: _, e, k => let ⟨_, p⟩ := (List.forall_mem_cons.mp k).1; let ⟨_, q⟩ := readsAll_of (Nat.succ.inj e) (List.forall_mem_cons.mp k).2; ⟨_, .cons p q⟩
theorem Rd.reads {h : Heap} (k : c.inH h) (r : Rd c v d) : ∃ as, Reads h v d as := by
  induction r with
  | none => exact ⟨_, .none⟩
  | bool b => exact ⟨_, .bool b⟩
  | int i t => exact ⟨_, .int i t⟩
  | str x t => exact ⟨_, .str x t⟩
  | list' h1 h2 h3 h4 _ ih => obtain ⟨as, q⟩ := readsAll_of h4 ih; exact ⟨_, .list (k _ _ h1) h2 h3 q⟩
  | tuple' h1 h2 h3 h4 _ ih => obtain ⟨as, q⟩ := readsAll_of h4 ih; exact ⟨_, .tuple (k _ _ h1) h2 h3 q⟩
theorem RdL.reads {h : Heap} (k : c.inH h) (r : RdL c vs ds) : ∃ as, ReadsAll h vs ds as := readsAll_of r.length fun p q => (r.zip p q).reads k
/-- a sequence, as an object -/
inductive SeqC (c : CM) (T : String) (v : Value) (ds : List PyData) : Prop
  | mk {a : Addr} {o : Obj} {vs : List Value} {n} : v = .ref a → c a = some o → o.cls = .type T → o.data = .seq vs.toArray n → RdL c vs ds → SeqC c T v ds
/-- what a datum's shape tells of the value -/
noncomputable def RdI (c : CM) (v : Value) : PyData → Prop
  | .none => v = .none
  | .bool b => v = .bool b
  | .int i => ∃ t, v = .int i t
  | .str x => ∃ t, v = .str x t
  | .list ds => SeqC c "list" v ds
  | .tuple ds => SeqC c "tuple" v ds
  | _ => True
theorem Rd.inv (h : Rd c v d) : RdI c v d := by
  cases h with
  | int i t => exact ⟨t, rfl⟩
  | str x t => exact ⟨t, rfl⟩
  | list' a b d e f => exact ⟨rfl, a, b, d, .of_zip e f⟩
  | tuple' a b d e f => exact ⟨rfl, a, b, d, .of_zip e f⟩
  | _ => rfl
theorem Rd.int_inv {i} (h : Rd c v (.int i)) : ∃ t, v = .int i t := h.inv
theorem Rd.str_inv {x} (h : Rd c v (.str x)) : ∃ t, v = .str x t := h.inv
theorem Rd.list_inv (h : Rd c v (.list ds)) : SeqC c "list" v ds := h.inv
theorem Rd.tuple_inv (h : Rd c v (.tuple ds)) : SeqC c "tuple" v ds := h.inv
theorem Rd.none_inv (h : Rd c v .none) : v = .none := h.inv
theorem Rd.bool_inv {b} (h : Rd c v (.bool b)) : v = .bool b := h.inv
end
/-! ## A frame's state -/
structure Hp (hb : Heap) (c : CM) (mu : List (Addr × Obj)) (h : Heap) : Prop where
  base : ∀ b o, hb.get? b = some o → c b = some o
  sub : c.inH h
  own : ∀ p ∈ mu, h.get? p.1 = some p.2 ∧ c p.1 = none
  nd : (mu.map (·.1)).Nodup
  size : hb.objs.size ≤ h.objs.size
structure Out (s₀ : Heap) (c₀ : CM) (mod : List Addr) (mu' : List (Addr × Obj)) (c : CM) (h : Heap) : Prop where
  grow : c₀.le c
  sub : c.inH h
  new : ∀ b o, c b = some o → c₀ b = some o ∨ s₀.get? b = none
  kept : ∀ b o, s₀.get? b = some o → b ∉ mod → h.get? b = some o
  own : ∀ p ∈ mu', h.get? p.1 = some p.2 ∧ c p.1 = none ∧ (p.1 ∈ mod ∨ s₀.get? p.1 = none)
  nd : (mu'.map (·.1)).Nodup
  alive : ∀ b o, s₀.get? b = some o → ∃ o', h.get? b = some o'
structure Sx (hb s₀ : Heap) (c₀ : CM) (mod : List Addr) (c : CM) (L : Addr) (m : Str → Option Value) (mu : List (Addr × Obj)) (h : Heap) : Prop where
  ns : h.Ns L m
  base : ∀ b o, hb.get? b = some o → c₀ b = some o
  grow : c₀.le c
  sub : c.inH h
  new : ∀ b o, c b = some o → c₀ b = some o ∨ s₀.get? b = none
  kept : ∀ b o, s₀.get? b = some o → b ∉ mod → h.get? b = some o
  noL : c L = none
  own : ∀ p ∈ mu, h.get? p.1 = some p.2 ∧ p.1 ≠ L ∧ c p.1 = none ∧ (p.1 ∈ mod ∨ s₀.get? p.1 = none)
  nd : (mu.map (·.1)).Nodup
  sizeb : hb.objs.size ≤ L
  sizeL : L ∈ mod ∨ s₀.get? L = none
  alive : ∀ b o, s₀.get? b = some o → ∃ o', h.get? b = some o'
theorem get_none_of_size {h : Heap} {a : Addr} (k : h.objs.size ≤ a) : h.get? a = none := by
  cases e : h.get? a with
  | none => rfl
  | some o => exact absurd (Heap.lt_size e) (Nat.not_lt.mpr k)
section
variable {hb s₀ h h' : Heap} {c₀ c : CM} {mod : List Addr} {L : Addr} {m m' : Str → Option Value} {mu : List (Addr × Obj)}
theorem Sx.fr (S : Sx hb s₀ c₀ mod c L m mu h) : Fr hb L h m := ⟨S.ns, fun b o e => S.sub _ _ (S.grow _ _ (S.base _ _ e)), S.sizeb⟩
theorem Sx.keep (S : Sx hb s₀ c₀ mod c L m mu h) : ∀ b o, hb.get? b = some o → h.get? b = some o := S.fr.keep
theorem Sx.news (S : Sx hb s₀ c₀ mod c L m mu h) : News hb L h mu := fun p hp => ⟨(S.own p hp).1, (S.own p hp).2.1, by
  cases e : hb.get? p.1 with
  | none => rfl
  | some o => have := S.grow _ _ (S.base _ _ e); rw [(S.own p hp).2.2.1] at this; cases this⟩
theorem Sx.lt (S : Sx hb s₀ c₀ mod c L m mu h) : L < h.objs.size := S.ns.lt
theorem Sx.fresh (S : Sx hb s₀ c₀ mod c L m mu h) {a : Addr} (k : h.objs.size ≤ a) : c a = none := by
  cases e : c a with
  | none => rfl
  | some o => exact absurd (Heap.lt_size (S.sub _ _ e)) (Nat.not_lt.mpr k)
theorem Sx.ofNone (S : Sx hb s₀ c₀ mod c L m mu h) {b : Addr} (e : h.get? b = none) : s₀.get? b = none := by
  cases q : s₀.get? b with
  | none => rfl
  | some o => obtain ⟨o', z⟩ := S.alive _ _ q; rw [e] at z; cases z
theorem sameBut_alive {h h' : Heap} {a : Addr} {o o' : Obj} (hs : Heap.SameBut a h h') (ha : h'.get? a = some o') : ∀ b o, h.get? b = some o → ∃ o', h'.get? b = some o' := fun b o e => by
  by_cases q : b = a
  · exact ⟨_, q ▸ ha⟩
  · exact ⟨o, (hs.2 b q).trans e⟩
/-- the frame's own dict changes -/
theorem Sx.set (S : Sx hb s₀ c₀ mod c L m mu h) (hn : h'.Ns L m') (hs : Heap.SameBut L h h') : Sx hb s₀ c₀ mod c L m' mu h' where
  ns := hn
  base := S.base
  grow := S.grow
  sub := fun b o e => (hs.2 b (fun q => by rw [q, S.noL] at e; cases e)).trans (S.sub _ _ e)
  new := S.new
  kept := fun b o e k => (hs.2 b (fun q => by
    rcases S.sizeL with z | z
    · exact k (q ▸ z)
    · rw [q, z] at e; cases e)).trans (S.kept _ _ e k)
  noL := S.noL
  own := fun p hp => ⟨(hs.2 _ (S.own p hp).2.1).trans (S.own p hp).1, (S.own p hp).2⟩
  nd := S.nd
  sizeb := S.sizeb
  sizeL := S.sizeL
  alive := fun b o e => by
    obtain ⟨oL, _, _, hL, _⟩ := hn
    obtain ⟨o', z⟩ := S.alive _ _ e
    exact sameBut_alive (o := oL) hs hL b o' z
/-- everything stays -/
theorem Sx.keeps (S : Sx hb s₀ c₀ mod c L m mu h) (hk : ∀ b o, h.get? b = some o → h'.get? b = some o) : Sx hb s₀ c₀ mod c L m mu h' where
  ns := S.ns.keeps hk
  base := S.base
  grow := S.grow
  sub := fun b o e => hk _ _ (S.sub _ _ e)
  new := S.new
  kept := fun b o e k => hk _ _ (S.kept _ _ e k)
  noL := S.noL
  own := fun p hp => ⟨hk _ _ (S.own p hp).1, (S.own p hp).2⟩
  nd := S.nd
  sizeb := S.sizeb
  sizeL := S.sizeL
  alive := fun b o e => let ⟨o', z⟩ := S.alive _ _ e; ⟨o', hk _ _ z⟩
/-- a new object, cold -/
theorem Sx.cold (S : Sx hb s₀ c₀ mod c L m mu h) {a : Addr} {o : Obj} (ha : h'.get? a = some o) (hf : h.objs.size ≤ a)
    (hk : ∀ b o, h.get? b = some o → h'.get? b = some o) : Sx hb s₀ c₀ mod (c.put a o) L m mu h' := by
  have hc : c a = none := S.fresh hf
  have hL : a ≠ L := fun q => absurd S.lt (Nat.not_lt.mpr (q ▸ hf))
  have S' := S.keeps hk
  refine ⟨S'.ns, S.base, S.grow.trans (CM.le_put hc), ?_, ?_, S'.kept, ?_, ?_, S.nd, S.sizeb, S.sizeL, S'.alive⟩
  · intro b x e
    unfold CM.put at e
    by_cases q : b = a
    · rw [if_pos q] at e; cases e; rw [q]; exact ha
    · rw [if_neg q] at e; exact S'.sub _ _ e
  · intro b x e
    unfold CM.put at e
    by_cases q : b = a
    · rw [q]; exact .inr (S.ofNone (get_none_of_size hf))
    · rw [if_neg q] at e; exact S.new _ _ e
  · unfold CM.put; rw [if_neg (Ne.symm hL)]; exact S.noL
  · intro p hp
    obtain ⟨q1, q2, q3, q4⟩ := S'.own p hp
    refine ⟨q1, q2, ?_, q4⟩
    unfold CM.put
    rw [if_neg fun q => absurd (Heap.lt_size (S.own p hp).1) (Nat.not_lt.mpr (by rw [q]; exact hf))]; exact q3
theorem Sx.push (S : Sx hb s₀ c₀ mod c L m mu h) (o : Obj) (hf : o.isFreed = false := by rfl) : Sx hb s₀ c₀ mod (c.put h.objs.size o) L m mu (h.push o) :=
  S.cold (Heap.get?_push_size h hf) (Nat.le_refl _) fun b o' e => Heap.get?_push_of_some _ e
/-- a new object, mutable -/
theorem Sx.pushMu (S : Sx hb s₀ c₀ mod c L m mu h) {a : Addr} {o : Obj} (ha : h'.get? a = some o) (hf : h.objs.size ≤ a)
    (hk : ∀ b o, h.get? b = some o → h'.get? b = some o) : Sx hb s₀ c₀ mod c L m ((a, o) :: mu) h' := by
  have S' := S.keeps hk
  refine ⟨S'.ns, S.base, S.grow, S'.sub, S.new, S'.kept, S.noL, ?_, ?_, S.sizeb, S.sizeL, S'.alive⟩
  · intro p hp
    rcases List.mem_cons.mp hp with rfl | hp
    · exact ⟨ha, Nat.ne_of_gt (Nat.lt_of_lt_of_le S.lt hf), S.fresh hf, .inr (S.ofNone (get_none_of_size hf))⟩
    · exact S'.own p hp
  · refine List.nodup_cons.mpr ⟨fun q => ?_, S.nd⟩
    obtain ⟨p, hp, e⟩ := List.mem_map.mp q
    have := Heap.lt_size (S.own p hp).1
    rw [e] at this; exact absurd this (Nat.not_lt.mpr hf)
/-- a mutable object turns cold -/
theorem Sx.freeze {a : Addr} {o : Obj} (S : Sx hb s₀ c₀ mod c L m ((a, o) :: mu) h) (hf : s₀.get? a = none) : Sx hb s₀ c₀ mod (c.put a o) L m mu h := by
  obtain ⟨q1, q2, q3, q4⟩ := S.own _ (.head _)
  have nd := List.nodup_cons.mp S.nd
  refine ⟨S.ns, S.base, S.grow.trans (CM.le_put q3), ?_, ?_, S.kept, ?_, ?_, nd.2, S.sizeb, S.sizeL, S.alive⟩
  · intro b x e
    unfold CM.put at e
    by_cases q : b = a
    · rw [if_pos q] at e; cases e; rw [q]; exact q1
    · rw [if_neg q] at e; exact S.sub _ _ e
  · intro b x e
    unfold CM.put at e
    by_cases q : b = a
    · rw [q]; exact .inr hf
    · rw [if_neg q] at e; exact S.new _ _ e
  · unfold CM.put; rw [if_neg (Ne.symm q2)]; exact S.noL
  · intro p hp
    obtain ⟨r1, r2, r3, r4⟩ := S.own p (.tail _ hp)
    refine ⟨r1, r2, ?_, r4⟩
    unfold CM.put
    rw [if_neg fun q => nd.1 (List.mem_map.mpr ⟨p, hp, q⟩)]; exact r3
/-- a mutable object changes -/
theorem Sx.upd {a : Addr} {o o' : Obj} {pre post : List (Addr × Obj)} (S : Sx hb s₀ c₀ mod c L m (pre ++ (a, o) :: post) h) (hs : Heap.SameBut a h h') (ha : h'.get? a = some o') :
    Sx hb s₀ c₀ mod c L m (pre ++ (a, o') :: post) h' := by
  obtain ⟨q1, q2, q3, q4⟩ := S.own (a, o) (List.mem_append_right _ (.head _))
  have e1 : (pre ++ (a, o) :: post).map (·.1) = (pre ++ (a, o') :: post).map (·.1) := by simp
  have nd := S.nd
  simp only [List.map_append, List.map_cons, List.nodup_append, List.nodup_cons] at nd
  refine ⟨S.ns.sameBut hs (Ne.symm q2), S.base, S.grow, ?_, S.new, ?_, S.noL, ?_, e1 ▸ S.nd, S.sizeb, S.sizeL, fun b x e => let ⟨o', z⟩ := S.alive _ _ e; sameBut_alive (o := o) hs ha b o' z⟩
  · exact fun b x e => (hs.2 b fun q => by rw [q, q3] at e; cases e).trans (S.sub _ _ e)
  · exact fun b x e k => (hs.2 b fun q => by
      rcases q4 with z | z
      · exact k (q ▸ z)
      · rw [q, z] at e; cases e).trans (S.kept _ _ e k)
  · intro p hp
    rcases List.mem_append.mp hp with hp | hp
    · obtain ⟨r1, r2⟩ := S.own p (List.mem_append_left _ hp)
      exact ⟨(hs.2 _ fun q => nd.2.2 p.1 (List.mem_map_of_mem hp) a (.head _) q).trans r1, r2⟩
    · rcases List.mem_cons.mp hp with rfl | hp
      · exact ⟨ha, q2, q3, q4⟩
      · obtain ⟨r1, r2⟩ := S.own p (List.mem_append_right _ (.tail _ hp))
        exact ⟨(hs.2 _ fun q => nd.2.1.1 (List.mem_map.mpr ⟨p, hp, q⟩)).trans r1, r2⟩
/-- some of the mutable objects are forgotten -/
theorem Sx.less {mu' : List (Addr × Obj)} (S : Sx hb s₀ c₀ mod c L m mu h) (hs : mu'.Sublist mu) : Sx hb s₀ c₀ mod c L m mu' h :=
  ⟨S.ns, S.base, S.grow, S.sub, S.new, S.kept, S.noL, fun p hp => S.own p (hs.subset hp), S.nd.sublist (hs.map _), S.sizeb, S.sizeL, S.alive⟩
theorem Sx.perm {mu' : List (Addr × Obj)} (S : Sx hb s₀ c₀ mod c L m mu h) (hs : mu'.Perm mu) : Sx hb s₀ c₀ mod c L m mu' h :=
  ⟨S.ns, S.base, S.grow, S.sub, S.new, S.kept, S.noL, fun p hp => S.own p (hs.mem_iff.mp hp), (hs.map (·.1)).nodup_iff.mpr S.nd, S.sizeb, S.sizeL, S.alive⟩
/-- what a frame hands on to a call -/
theorem Sx.hp {pass rest : List (Addr × Obj)} (S : Sx hb s₀ c₀ mod c L m (pass ++ rest) h) : Hp hb c pass h where
  base := fun b o e => S.grow _ _ (S.base _ _ e)
  sub := S.sub
  own := fun p hp => ⟨(S.own p (List.mem_append_left _ hp)).1, (S.own p (List.mem_append_left _ hp)).2.2.1⟩
  nd := S.nd.sublist ((List.sublist_append_left pass rest).map _)
  size := Nat.le_trans S.sizeb (Nat.le_of_lt S.lt)
/-- and what it has behind the call -/
theorem Sx.back {pass rest mu' : List (Addr × Obj)} {c' : CM} (S : Sx hb s₀ c₀ mod c L m (pass ++ rest) h) (O : Out h c (pass.map (·.1)) mu' c' h') : Sx hb s₀ c₀ mod c' L m (mu' ++ rest) h' := by
  have nd := S.nd
  rw [List.map_append, List.nodup_append] at nd
  have restOut : ∀ p ∈ rest, p.1 ∉ pass.map (·.1) := fun p hp q => nd.2.2 p.1 q p.1 (List.mem_map_of_mem hp) rfl
  have LOut : L ∉ pass.map (·.1) := fun q => by
    obtain ⟨p, hp, e⟩ := List.mem_map.mp q
    exact (S.own p (List.mem_append_left _ hp)).2.1 e
  obtain ⟨oL, es, ep, hL, hr⟩ := id S.ns
  have hL' := O.kept _ _ hL LOut
  refine ⟨⟨oL, es, ep, hL', hr⟩, S.base, S.grow.trans O.grow, O.sub, ?_, ?_, ?_, ?_, ?_, S.sizeb, S.sizeL, fun b x e => let ⟨o', z⟩ := S.alive _ _ e; O.alive _ _ z⟩
  · intro b o e
    rcases O.new b o e with q | q
    · exact S.new _ _ q
    · exact .inr (S.ofNone q)
  · intro b o e k
    by_cases q : b ∈ pass.map (·.1)
    · obtain ⟨p, hp, rfl⟩ := List.mem_map.mp q
      rcases (S.own p (List.mem_append_left _ hp)).2.2.2 with z | z
      · exact absurd z k
      · rw [z] at e; cases e
    · exact O.kept _ _ (S.kept _ _ e k) q
  · cases e : c' L with
    | none => rfl
    | some x =>
      rcases O.new _ _ e with q | q
      · rw [S.noL] at q; cases q
      · rw [hL] at q; cases q
  · intro p hp
    rcases List.mem_append.mp hp with hp | hp
    · obtain ⟨r1, r2, r3⟩ := O.own p hp
      refine ⟨r1, fun q => ?_, r2, ?_⟩
      · rcases r3 with z | z
        · exact LOut (q ▸ z)
        · rw [q, hL] at z; cases z
      · rcases r3 with z | z
        · obtain ⟨p', hp', e⟩ := List.mem_map.mp z
          rw [← e]; exact (S.own p' (List.mem_append_left _ hp')).2.2.2
        · exact .inr (S.ofNone z)
    · obtain ⟨r1, r2, r3, r4⟩ := S.own p (List.mem_append_right _ hp)
      refine ⟨O.kept _ _ r1 (restOut p hp), r2, ?_, r4⟩
      cases e : c' p.1 with
      | none => rfl
      | some x =>
        rcases O.new _ _ e with q | q
        · rw [r3] at q; cases q
        · rw [r1] at q; cases q
  · rw [List.map_append, List.nodup_append]
    refine ⟨O.nd, nd.2.1, ?_⟩
    intro a ha b hb' e
    subst e
    obtain ⟨p, hp, rfl⟩ := List.mem_map.mp ha
    obtain ⟨p', hp', e⟩ := List.mem_map.mp hb'
    rcases (O.own p hp).2.2 with z | z
    · exact restOut p' hp' (e ▸ z)
    · have := (S.own p' (List.mem_append_right _ hp')).1
      rw [e, z] at this; cases this
/-- what a frame gives back -/
theorem Sx.out {mu' : List (Addr × Obj)} (S : Sx hb s₀ c₀ mod c L m mu h) (hs : mu'.Sublist mu) : Out s₀ c₀ mod mu' c h where
  grow := S.grow
  sub := S.sub
  new := S.new
  kept := S.kept
  own := fun p hp => ⟨(S.own p (hs.subset hp)).1, (S.own p (hs.subset hp)).2.2⟩
  nd := S.nd.sublist (hs.map _)
  alive := S.alive
/-- a frame begins -/
theorem Sx.enter {mu : List (Addr × Obj)} (H : Hp hb c mu h) {L : Addr} (hL : h.objs.size ≤ L) (hn : h'.Ns L m) (hk : ∀ b o, h.get? b = some o → h'.get? b = some o) : Sx hb h c (mu.map (·.1)) c L m mu h' where
  ns := hn
  base := H.base
  grow := CM.le.refl c
  sub := fun b o e => hk _ _ (H.sub _ _ e)
  new := fun b o e => .inl e
  kept := fun b o e _ => hk _ _ e
  noL := by
    cases e : c L with
    | none => rfl
    | some o => exact absurd (Heap.lt_size (H.sub _ _ e)) (Nat.not_lt.mpr hL)
  own := fun p hp => ⟨hk _ _ (H.own p hp).1, Nat.ne_of_lt (Nat.lt_of_lt_of_le (Heap.lt_size (H.own p hp).1) hL), (H.own p hp).2, .inl (List.mem_map_of_mem hp)⟩
  nd := H.nd
  sizeb := Nat.le_trans H.size hL
  sizeL := .inr (get_none_of_size hL)
  alive := fun b o e => ⟨o, hk _ _ e⟩
/-- the same frame, seen from here on -/
theorem Sx.root (S : Sx hb s₀ c₀ mod c L m mu h) : Sx hb h c (L :: mu.map (·.1)) c L m mu h where
  ns := S.ns
  base := fun b o e => S.grow _ _ (S.base _ _ e)
  grow := CM.le.refl c
  sub := S.sub
  new := fun b o e => .inl e
  kept := fun b o e _ => e
  noL := S.noL
  own := fun p hp => ⟨(S.own p hp).1, (S.own p hp).2.1, (S.own p hp).2.2.1, .inl (.tail _ (List.mem_map_of_mem hp))⟩
  nd := S.nd
  sizeb := S.sizeb
  sizeL := .inl (.head _)
  alive := fun b o e => ⟨o, e⟩
theorem Sx.then {m₁ : Str → Option Value} {mu₁ : List (Addr × Obj)} {c₁ : CM} (S : Sx hb s₀ c₀ mod c L m mu h) (T : Sx hb h c (L :: mu.map (·.1)) c₁ L m₁ mu₁ h') : Sx hb s₀ c₀ mod c₁ L m₁ mu₁ h' where
  ns := T.ns
  base := S.base
  grow := S.grow.trans T.grow
  sub := T.sub
  new := fun b o e => (T.new b o e).elim (S.new b o) fun q => .inr (S.ofNone q)
  kept := fun b o e k => T.kept _ _ (S.kept _ _ e k) fun q => by
    rcases List.mem_cons.mp q with rfl | q
    · rcases S.sizeL with z | z
      · exact k z
      · rw [z] at e; cases e
    · obtain ⟨p, hp, rfl⟩ := List.mem_map.mp q
      rcases (S.own p hp).2.2.2 with z | z
      · exact k z
      · rw [z] at e; cases e
  noL := T.noL
  own := fun p hp => by
    obtain ⟨q1, q2, q3, q4⟩ := T.own p hp
    refine ⟨q1, q2, q3, ?_⟩
    rcases q4 with z | z
    · rcases List.mem_cons.mp z with z | z
      · exact absurd z q2
      · obtain ⟨p', hp', e⟩ := List.mem_map.mp z
        rw [← e]; exact (S.own p' hp').2.2.2
    · exact .inr (S.ofNone z)
  nd := T.nd
  sizeb := S.sizeb
  sizeL := S.sizeL
  alive := fun b o e => let ⟨o', z⟩ := S.alive _ _ e; T.alive _ _ z
end
noncomputable abbrev Tk := Int × Int
noncomputable def tkd (t : Tk) : PyData := .tuple [.int t.1, .int t.2]
set_option genInjectivity true in
/-- abstract values: data, and the three mutable things -/
inductive AV where
  | d (x : PyData)
  | held
  | pool
  | src
structure Gs where
  pool : Option (Int × Int) := none
  src : Option (List Tk × Int) := none
structure Sto where
  g : Gs := {}
  held : Option (List PyData) := none
/-- where they lie -/
structure Ad where
  lp : Addr
  x : Addr
  dx : Addr
  lr : Addr
  di : Addr
  sz : Addr
noncomputable def upd (m : Str → Option Value) (x : Str) (v : Value) : Str → Option Value := fun y => if y = x then some v else m y
theorem upd_same {m : Str → Option Value} {x : Str} {v : Value} : upd m x v x = some v := if_pos rfl
theorem upd_ne {m : Str → Option Value} {x y : Str} {v : Value} {r : Option Value} (h : y ≠ x) (e : m y = r) : upd m x v y = r := (if_neg h).trans e
/-- room for n more calls within -/
structure Rm (A : Around) (n : Nat) : Prop where
  depth : A.depth + n < recursionLimit
  units : A.units + 8 * n + 128 < cLine
  handled : A.handled = none
theorem Rm.less {A : Around} {n k : Nat} (R : Rm A n) (h : k ≤ n) : Rm A k := ⟨by have := R.depth; omega, by have := R.units; omega, R.handled⟩
theorem Rm.deeper {A : Around} {n : Nat} {env : Env} (R : Rm A (n + 1)) : Rm (A.deeper env) n :=
  ⟨by have := R.depth; show A.depth + 1 + n < _; omega, by have := R.units; show A.units + 3 + 8 * n + 128 < _; omega, R.handled⟩
theorem Rm.u64 {A : Around} {n : Nat} (R : Rm A n) : A.units + 64 < cLine := by have := R.units; omega
noncomputable def VR (ad : Ad) (lh : Addr) (c : CM) (v : Value) : AV → Prop
  | .d x => Rd c v x
  | .held => v = .ref lh
  | .pool => v = .ref ad.lp
  | .src => v = .ref ad.x
theorem VR.mono {ad : Ad} {lh : Addr} {c c' : CM} (k : c.le c') {v : Value} {a : AV} (h : VR ad lh c v a) : VR ad lh c' v a := by
  cases a with
  | d x => exact Rd.mono k h
  | _ => exact h
noncomputable abbrev VRL (ad : Ad) (lh : Addr) (c : CM) : List Value → List AV → Prop := All2 (VR ad lh c)
theorem VRL.mono {ad : Ad} {lh : Addr} {c c' : CM} (k : c.le c') {vs as} (h : VRL ad lh c vs as) : VRL ad lh c' vs as := h.imp fun _ _ => VR.mono k
/-- the source's table of inner quantities -/
inductive InnerD (di : Addr) (c : CM) : Prop
  | mk {o v0 v1} : (di == sysModules) = false → c di = some o → Rd c v0 (.tuple [.int 0, .int 7]) → Rd c v1 (.tuple [.int 1, .int 300]) →
    (∀ (w : World) (h : Heap), h.get? di = some o → h.MapOf (intKind PG w) di (fun k => if k = 0 then some v0 else if k = 1 then some v1 else none)) → InnerD di c
theorem InnerD.mono {di : Addr} {c c' : CM} (k : c.le c') (h : InnerD di c) : InnerD di c' := by
  cases h with | mk z a b d e => exact ⟨z, k _ _ a, b.mono k, d.mono k, e⟩
noncomputable def srcDict (w : World) (ad : Ad) (b : Int) (t1 t2 t3 t4 t5 tb n : Nat) : Obj :=
  dictOf [⟨PyData.keyHash w.params "rest", .str "rest" t1, .ref ad.lr⟩, ⟨PyData.keyHash w.params "inner", .str "inner" t2, .ref ad.di⟩, ⟨PyData.keyHash w.params "names", .str "names" t3, .none⟩,
    ⟨PyData.keyHash w.params "sizes", .str "sizes" t4, .ref ad.sz⟩, ⟨PyData.keyHash w.params "balance", .str "balance" t5, .int b tb⟩] n
/-- a list, as an object -/
noncomputable def LObj (o : Obj) (ws : List Value) : Prop := ∃ n, o = { cls := .type "list", data := .seq ws.toArray n }
theorem LObj.at {h : Heap} {a : Addr} {o : Obj} {ws : List Value} (k : LObj o ws) (e : h.get? a = some o) : h.IsList a ws.toArray := let ⟨n, d⟩ := k; ⟨o, e, by rw [d], n, by rw [d]⟩
theorem LObj.plain {h : Heap} {a : Addr} {o : Obj} {ws : List Value} (k : LObj o ws) (e : h.get? a = some o) : h.PlainList a ws.toArray := let ⟨n, d⟩ := k; ⟨n, by rw [e, d]⟩
/-- the ledger's parts -/
inductive HeldM (lh : Addr) (c : CM) : Option (List PyData) → List (Addr × Obj) → Prop
  | none : HeldM lh c none []
  | some {o ds ws} : LObj o ws → RdL c ws ds → HeldM lh c (some ds) [(lh, o)]
inductive PoolM (ad : Ad) (c : CM) : Option (Int × Int) → List (Addr × Obj) → Prop
  | none : PoolM ad c none []
  | some {o a b t u n} : o.cls = .type "list" → o.data = .seq #[.int a t, .int b u] n → PoolM ad c (some (a, b)) [(ad.lp, o)]
inductive SrcM (w : World) (ad : Ad) (c : CM) : Option (List Tk × Int) → List (Addr × Obj) → Prop
  | none : SrcM w ad c none []
  | some {r b t1 t2 t3 t4 t5 tb n o ws} : c ad.x = some (instObj 481 ad.dx) → InnerD ad.di c → LObj o ws → RdL c ws (r.map tkd).reverse →
      SrcM w ad c (some (r, b)) [(ad.dx, srcDict w ad b t1 t2 t3 t4 t5 tb n), (ad.lr, o)]
theorem HeldM.mono {lh : Addr} {c c' : CM} (k : c.le c') {x mu} (h : HeldM lh c x mu) : HeldM lh c' x mu := by
  cases h with
  | none => exact .none
  | some l h => exact .some l (h.mono k)
theorem PoolM.mono {ad : Ad} {c c' : CM} {x mu} (h : PoolM ad c x mu) : PoolM ad c' x mu := by
  cases h with
  | none => exact .none
  | some a b => exact .some a b
theorem SrcM.mono {w : World} {ad : Ad} {c c' : CM} (k : c.le c') {x mu} (h : SrcM w ad c x mu) : SrcM w ad c' x mu := by
  cases h with
  | none => exact .none
  | some a b l d => exact .some (k _ _ a) (b.mono k) l (d.mono k)
/-- the ledger of the global state -/
inductive GM (w : World) (ad : Ad) (c : CM) (g : Gs) (mu : List (Addr × Obj)) : Prop
  | mk (mp ms) : mu = mp ++ ms → PoolM ad c g.pool mp → SrcM w ad c g.src ms → GM w ad c g mu
theorem GM.mono {w : World} {ad : Ad} {c c' : CM} (k : c.le c') {g mu} (h : GM w ad c g mu) : GM w ad c' g mu := by
  cases h with | mk mp ms e a b => exact ⟨mp, ms, e, a.mono, b.mono k⟩
noncomputable abbrev Fr' := List (Option AV)
inductive NmR (ad : Ad) (lh : Addr) (c : CM) (cl : List (Str × Addr)) (m : Str → Option Value) (x : Str) (av : AV) : NameKind → Prop
  | loc {v} : m x = some v → VR ad lh c v av → NmR ad lh c cl m x av .local
  | cel {v ca o} : cl.lookup x = some ca → c ca = some o → o.data = .cell (some v) → VR ad lh c v av → NmR ad lh c cl m x av .cell
theorem NmR.mono {ad : Ad} {lh : Addr} {c c' : CM} (le : c.le c') {cl m x av k} (h : NmR ad lh c cl m x av k) : NmR ad lh c' cl m x av k := by
  cases h with
  | loc a b => exact .loc a (b.mono le)
  | cel a b d e => exact .cel a (le _ _ b) d (e.mono le)
noncomputable def FrR (ad : Ad) (lh : Addr) (c : CM) (ks : List (Str × NameKind)) (cl : List (Str × Addr)) (fr : Fr') (m : Str → Option Value) : Prop :=
  ∀ (i : Nat) (x : Str) (k : NameKind) (av : AV), ks[i]? = some (x, k) → fr[i]? = some (some av) → NmR ad lh c cl m x av k
theorem FrR.mono {ad : Ad} {lh : Addr} {c c' : CM} (le : c.le c') {ks cl fr m} (h : FrR ad lh c ks cl fr m) : FrR ad lh c' ks cl fr m := fun i x k av a b => (h i x k av a b).mono le
/-- where a call stands: the world, what the top left, room for k more calls -/
structure Stat where
  w : World
  hb : Heap
  ad : Ad
  k : Nat
  K : Frag
  G : Gd w hb K
noncomputable abbrev Stat.lv (S : Stat) (n : Nat) : Stat := { S with k := n }
/-- a call's contract over the global state -/
inductive SC (S : Stat) (f : Addr) (args : List AV) (g : Gs) (Q : AV → Gs → Prop) : Prop
  | mk : (∀ (A : Around) (s : Shared) (c : CM) (mu : List (Addr × Obj)) (vs : List Value) (lh : Addr), Rm A S.k → Hp S.hb c mu s.heap → GM S.w S.ad c g mu → VRL S.ad lh c vs args →
    ∀ (QQ E : Value → Shared → Prop), (∀ v h' tk' c' mu' av g', Out s.heap c (mu.map (·.1)) mu' c' h' → GM S.w S.ad c' g' mu' → VR S.ad lh c' v av → Q av g' → QQ v { s with heap := h', toks := tk' }) →
      wpAny (model PG S.w) A (call (.ref f) vs) QQ E s) → SC S f args g Q
theorem SC.mono {S : Stat} {k k' : Nat} {f args g} {Q Q' : AV → Gs → Prop} (h : SC (S.lv k) f args g Q) (hk : k ≤ k') (q : ∀ a g, Q a g → Q' a g) : SC (S.lv k') f args g Q' := by
  obtain ⟨h⟩ := h
  exact ⟨fun A s c mu vs lh hA H M hv QQ E ret => h A s c mu vs lh (hA.less hk) H M hv QQ E fun v h' tk' c' mu' av g' O M' V z => ret v h' tk' c' mu' av g' O M' V (q _ _ z)⟩
/-! ## a text's meaning, as it computes -/
@[reducible] noncomputable def X := Fr' → Sto → (AV → Sto → Prop) → Prop
@[reducible] noncomputable def XL := Fr' → Sto → (List AV → Sto → Prop) → Prop
/-- a statement's: what is behind it, what a return gives -/
@[reducible] noncomputable def SX := Fr' → Sto → (Fr' → Sto → Prop) → (AV → Fr' → Sto → Prop) → Prop
@[reducible] noncomputable def SL := Fr' → Sto → (Fr' → Sto → Prop) → (AV → Fr' → Sto → Prop) → Prop
noncomputable def br (c : Bool) (P Q : Prop) : Prop := match c with | true => P | false => Q
theorem br_of {c : Bool} {P Q : Prop} (h1 : c = true → P) (h2 : c = false → Q) : br c P Q := match c, h1, h2 with
  | true, h1, _ => h1 rfl
  | false, _, h2 => h2 rfl
noncomputable def grd (c : Bool) (P : Prop) : Prop := match c with | true => P | false => False
theorem grd_inv {c : Bool} {P : Prop} (h : grd c P) : c = true ∧ P := match c, h with | true, h => ⟨rfl, h⟩
noncomputable def need {α : Type} (o : Option α) (K : α → Prop) : Prop := match o with | some r => K r | none => False
theorem need_of {α : Type} {o : Option α} {K : α → Prop} {r : α} (h : o = some r) (q : K r) : need o K := by subst h; exact q
theorem need_inv {α : Type} {o : Option α} {K : α → Prop} (h : need o K) : ∃ r, o = some r ∧ K r := match o, h with | some r, h => ⟨r, rfl, h⟩
noncomputable def nth {α : Type} : List (Option α) → Nat → Option α
  | [], _ => none
  | a :: _, 0 => a
  | _ :: r, i + 1 => nth r i
theorem nth_eq {α : Type} : ∀ {l : List (Option α)} {i : Nat} {a : α}, nth l i = some a → l[i]? = some (some a)
  | _ :: _, 0, _, h => congrArg some h
  | _ :: _, _ + 1, _, h => by rw [List.getElem?_cons_succ]; exact nth_eq h
noncomputable def isD (a : AV) (K : PyData → Prop) : Prop := match a with | .d p => K p | _ => False
theorem isD_inv {a : AV} {K : PyData → Prop} (h : isD a K) : ∃ p, a = .d p ∧ K p := match a, h with | .d p, h => ⟨p, rfl, h⟩
noncomputable def onI (p : PyData) (K : Int → Prop) : Prop := match p with | .int i => K i | _ => False
theorem onI_inv {p : PyData} {K : Int → Prop} (h : onI p K) : ∃ i, p = .int i ∧ K i := by
  cases p with
  | int i => exact ⟨i, rfl, h⟩
  | _ => exact False.elim h
noncomputable def onB (p : PyData) (K : Bool → Prop) : Prop := match p with | .bool i => K i | _ => False
theorem onB_inv {p : PyData} {K : Bool → Prop} (h : onB p K) : ∃ i, p = .bool i ∧ K i := by
  cases p with
  | bool i => exact ⟨i, rfl, h⟩
  | _ => exact False.elim h
noncomputable def onL (p : PyData) (K : List PyData → Prop) : Prop := match p with | .list i => K i | _ => False
theorem onL_inv {p : PyData} {K : List PyData → Prop} (h : onL p K) : ∃ i, p = .list i ∧ K i := by
  cases p with
  | list i => exact ⟨i, rfl, h⟩
  | _ => exact False.elim h
noncomputable def onT (p : PyData) (K : List PyData → Prop) : Prop := match p with | .tuple i => K i | _ => False
theorem onT_inv {p : PyData} {K : List PyData → Prop} (h : onT p K) : ∃ i, p = .tuple i ∧ K i := by
  cases p with
  | tuple i => exact ⟨i, rfl, h⟩
  | _ => exact False.elim h
noncomputable def onS (p : PyData) (K : Str → Prop) : Prop := match p with | .str i => K i | _ => False
theorem onS_inv {p : PyData} {K : Str → Prop} (h : onS p K) : ∃ i, p = .str i ∧ K i := by
  cases p with
  | str i => exact ⟨i, rfl, h⟩
  | _ => exact False.elim h
noncomputable abbrev isI (a : AV) (K : Int → Prop) : Prop := isD a fun p => onI p K
noncomputable abbrev isB (a : AV) (K : Bool → Prop) : Prop := isD a fun p => onB p K
noncomputable abbrev isL (a : AV) (K : List PyData → Prop) : Prop := isD a fun p => onL p K
theorem isI_inv {a : AV} {K : Int → Prop} (h : isI a K) : ∃ i, a = .d (.int i) ∧ K i := let ⟨p, e, h⟩ := isD_inv h; let ⟨i, e', h⟩ := onI_inv h; ⟨i, e' ▸ e, h⟩
theorem isB_inv {a : AV} {K : Bool → Prop} (h : isB a K) : ∃ i, a = .d (.bool i) ∧ K i := let ⟨p, e, h⟩ := isD_inv h; let ⟨i, e', h⟩ := onB_inv h; ⟨i, e' ▸ e, h⟩
theorem isL_inv {a : AV} {K : List PyData → Prop} (h : isL a K) : ∃ i, a = .d (.list i) ∧ K i := let ⟨p, e, h⟩ := isD_inv h; let ⟨i, e', h⟩ := onL_inv h; ⟨i, e' ▸ e, h⟩
/-- the source there -/
noncomputable def isSrc (a : AV) (σ : Sto) (K : List Tk → Int → Prop) : Prop := match a with | .src => (match σ with | ⟨⟨_, some (r, b)⟩, _⟩ => K r b | _ => False) | _ => False
theorem isSrc_inv {a : AV} {σ : Sto} {K : List Tk → Int → Prop} (h : isSrc a σ K) : a = .src ∧ ∃ r b, σ.g.src = some (r, b) ∧ K r b := by
  obtain ⟨⟨p, x⟩, y⟩ := σ
  cases a with
  | src => cases x with
    | some p => exact ⟨rfl, p.1, p.2, rfl, h⟩
    | none => exact False.elim h
  | _ => exact False.elim h
/-- the held list there -/
noncomputable def isHeld (o : Option AV) (σ : Sto) (K : List PyData → Prop) : Prop := match o with | some .held => (match σ with | ⟨_, some ds⟩ => K ds | _ => False) | _ => False
theorem isHeld_inv {o : Option AV} {σ : Sto} {K : List PyData → Prop} (h : isHeld o σ K) : o = some .held ∧ ∃ ds, σ.held = some ds ∧ K ds := by
  obtain ⟨g, y⟩ := σ
  cases o with
  | none => exact False.elim h
  | some a => cases a with
    | held => cases y with
      | some ds => exact ⟨rfl, ds, rfl, h⟩
      | none => exact False.elim h
    | _ => exact False.elim h
noncomputable def dats : List AV → (List PyData → Prop) → Prop
  | [], K => K []
  | a :: r, K => isD a fun d => dats r fun ds => K (d :: ds)
noncomputable def X.c (d : PyData) : X := fun _ σ Q => Q (.d d) σ
noncomputable def X.loc (i : Nat) : X := fun fr σ Q => need (nth fr i) fun a => Q a σ
noncomputable def XL.nil : XL := fun _ σ Q => Q [] σ
noncomputable def XL.cons (x : X) (xs : XL) : XL := fun fr σ Q => x fr σ fun a σ => xs fr σ fun as σ => Q (a :: as) σ
noncomputable def SL.nil : SL := fun fr σ N _ => N fr σ
noncomputable def SL.cons (s : SX) (r : SL) : SL := fun fr σ N R => s fr σ (fun fr σ => r fr σ N R) R
noncomputable def callS (S : Stat) (f : Addr) (as : List AV) (σ : Sto) (Q : AV → Sto → Prop) : Prop := match σ with | ⟨g0, h⟩ => SC S f as g0 fun r g => Q r ⟨g, h⟩
theorem callS_inv {S : Stat} {f : Addr} {as : List AV} {σ : Sto} {Q : AV → Sto → Prop} (h : callS S f as σ Q) : SC S f as σ.g fun r g => Q r { σ with g := g } := h
end Mine
/-! ## N2 -/
namespace Mine
open PySem PySem.W PySem.Calls PyProof.Rows
/-! ## what the top left, looked up -/
theorem Left.at {K : Frag} (L : Left K) (i : Nat) {b : Bool} (h : (okK K)[i]? = some b) : b = true := by
  rw [L.ok] at h
  exact List.eq_of_mem_replicate (List.mem_of_getElem? h)
theorem beq_true {α : Type} [BEq α] [LawfulBEq α] {a b : α} (h : (a == b) = true) : a = b := beq_iff_eq.mp h
theorem and2 {a b : Bool} (h : (a && b) = true) : a = true ∧ b = true := Bool.and_eq_true_iff.mp h
section
variable (S : Stat)
theorem Stat.gf {p} (hp : p ∈ gfun) : nsIn S.K mainGlobals p.1 = some (some (.ref p.2)) ∧ keepIn S.K (.ref p.2) = true := (and2 (List.all_eq_true.mp (S.G.L.at 1 rfl) p hp)).imp_left beq_true
theorem Stat.gn {n} (hn : n ∈ gnone) : nsIn S.K mainGlobals n = some none := beq_true (List.all_eq_true.mp (S.G.L.at 2 rfl) n hn)
theorem Stat.gm {p} (hp : p ∈ gmeth) : findIn S.K (.ref 481) p.1 = some (some (.ref p.2)) ∧ isFn S.K (.ref p.2) = true ∧ plainGet S.K 481 p.1 = true ∧ keepIn S.K (.ref p.2) = true :=
  let h := and2 (List.all_eq_true.mp (S.G.L.at 3 rfl) p hp); let h1 := and2 h.1; let h2 := and2 h1.1; ⟨beq_true h2.1, h2.2, h1.2, h.2⟩
theorem Stat.at1 {n} (hn : n ∈ attrs1) : plainGet S.K 481 n = true ∧ findIn S.K (.ref 481) n = some none := (and2 (List.all_eq_true.mp (S.G.L.at 4 rfl) n hn)).imp_right beq_true
theorem Stat.set : findIn S.K (.ref 481) "__setattr__" = some (some (.builtin "object.__setattr__")) ∧ plainOver S.K 481 = true ∧ hasDictIn S.K 481 = true :=
  let h := and2 (S.G.L.at 5 rfl); let h1 := and2 h.1; ⟨beq_true h1.1, h1.2, h.2⟩
theorem Stat.tk {n} (hn : n ∈ attrs2) : takerIn S.K 481 n = some none := beq_true (List.all_eq_true.mp (S.G.L.at 6 rfl) n hn)
theorem intV_inv {i : Int} {v : Value} (h : intV i v = true) : ∃ t, v = .int i t := by
  cases v with
  | int j t => exact ⟨t, by rw [beq_true (show (i == j) = true from h)]⟩
  | _ => exact nomatch h
theorem intP_rd {c : CM} {v : Value} {d : PyData} (h : intP v d = true) : Rd c v d := by
  cases d with
  | int i => obtain ⟨t, rfl⟩ := intV_inv h; exact .int _ _
  | _ => exact nomatch h
theorem refOf_inv {v : Value} {a : Addr} (h : refOf v = some a) : v = .ref a := by
  cases v with
  | ref b => exact congrArg Value.ref (Option.some.inj h)
  | _ => exact nomatch h
theorem seqOf_inv {x : Data} {l : List Value} (h : seqOf x = some l) : ∃ n, x = .seq l.toArray n := by
  cases x with
  | seq vs n => exact ⟨n, by rw [← Option.some.inj h]⟩
  | _ => exact nomatch h
theorem any_inv {α : Type} {o : Option α} {p : α → Bool} (h : o.any p = true) : ∃ x, o = some x ∧ p x = true := by
  cases o with
  | some x => exact ⟨x, rfl, h⟩
  | none => exact nomatch h
theorem datK_rd {K : Frag} {h : Heap} (I : K.In h) {d : PyData} {v : Value} (e : datK K v d = true) : Rd (fun a => h.get? a) v d := by
  cases d with
  | int i => obtain ⟨t, rfl⟩ := intV_inv e; exact .int _ _
  | tuple ds =>
    obtain ⟨a, ha, e⟩ := any_inv e
    obtain ⟨o, ho, e⟩ := any_inv e
    obtain ⟨vs, hv, z⟩ := any_inv (and2 e).2
    obtain ⟨n, hv⟩ := seqOf_inv hv
    rw [refOf_inv ha]
    exact .tuple (I _ _ ho) (beq_true (and2 e).1) hv (.of_zip (beq_true (and2 z).1) fun p hp => intP_rd (List.all_eq_true.mp (and2 z).2 p hp))
  | _ => exact nomatch e
theorem join_inv {α : Type} {o : Option (Option α)} {x : α} (h : o.join = some x) : o = some (some x) := by
  cases o with
  | some y => exact congrArg some h
  | none => exact nomatch h
theorem Stat.gd {p} (hp : p ∈ gdat) : ∃ v, nsIn S.K mainGlobals p.1 = some (some v) ∧ Rd (fun a => S.hb.get? a) v p.2 := by
  obtain ⟨v, hv, h⟩ := any_inv (List.all_eq_true.mp (S.G.L.at 0 rfl) p hp)
  exact ⟨v, join_inv hv, datK_rd S.G.K h⟩
theorem blt_ok : ∀ p ∈ gblt, p.1 ∈ gnone ∧ bootBuiltins p.1 = some (.builtin (biId p.2)) ∧ p.1 ≠ "__name__" := by decide +kernel
theorem Stat.fn (j : Nat) {f q i m sg} (hj : fnT[j]? = some (f, q, i, m)) (hs : sigAt i m = some sg) : fnSeen S.K f = some (q, sg) := by
  have h := congrArg (·[j]?) S.G.L.fn
  simp only [List.getElem?_map, hj, Option.map_some, hs, Option.some.injEq] at h
  exact h
end
theorem cond_inv {α : Type} {c : Bool} {x y : α} (h : cond c (some x) none = some y) : c = true ∧ x = y := by
  cases c with
  | true => exact ⟨rfl, Option.some.inj h⟩
  | false => exact nomatch h
/-- a function as the text left it -/
inductive FnAt (K : Frag) (f : Addr) (q : Str) (ps : Arguments) (b : List Stmt) (sc : Scope) : Prop
  | mk {oc od osl nm dV kV doc pm an cdv ct} : K.lookup f = some ⟨oc, od, .func (fnOf nm q ps b sc dV kV doc pm an cdv ct), osl⟩ → codeIn K cdv q = true → noDef f dV = true → FnAt K f q ps b sc
theorem funcOf_inv {x : Data} {fd : FuncData} (h : funcOf x = some fd) : x = .func fd := by
  cases x with
  | func f => exact congrArg Data.func (Option.some.inj h)
  | _ => exact nomatch h
theorem stmtsOf_inv {x : FuncBody} {b : List Stmt} (h : stmtsOf x = some b) : x = .stmts b := by
  cases x with
  | stmts f => exact congrArg FuncBody.stmts (Option.some.inj h)
  | _ => exact nomatch h
theorem obj_eq {o : Obj} {fd : FuncData} {b : List Stmt} (h : o.data = .func fd) (h1 : fd.body = .stmts b) (h2 : fd.closure = []) (h3 : fd.globals = mainGlobals) (h4 : fd.builtins = builtinsNs) :
    o = ⟨o.cls, o.dict, .func (fnOf fd.name fd.qualname fd.params b fd.scope fd.defaults fd.kwdefaults fd.doc fd.pyModule fd.annotations fd.code fd.closureTuple), o.slots⟩ := by
  unfold fnOf
  rw [← h1, ← h2, ← h3, ← h4, ← h]
theorem FnAt.of {K : Frag} {f : Addr} {q : Str} {sg : Sig} (h : fnSeen K f = some (q, sg)) : FnAt K f q sg.params sg.body sg.scope := by
  obtain ⟨o, ho, h⟩ := Option.bind_eq_some_iff.mp h
  obtain ⟨fd, hf, h⟩ := Option.bind_eq_some_iff.mp h
  obtain ⟨b, hb, h⟩ := Option.bind_eq_some_iff.mp h
  obtain ⟨hc, h⟩ := cond_inv h
  cases h
  have h1 := and2 hc
  have h2 := and2 h1.2
  have h3 := and2 h2.2
  exact ⟨ho.trans (congrArg some (obj_eq (funcOf_inv hf) (stmtsOf_inv hb) (List.isEmpty_iff.mp h1.1) (beq_true h2.1) (beq_true h3.1))), (and2 h3.2).1, (and2 h3.2).2⟩
structure Dy where
  s₀ : Heap
  c₀ : CM
  mod : List Addr
  L : Addr
  cl : List (Str × Addr)
  ex : List (Addr × Obj)
/-- what is held meanwhile -/
structure Tm where
  on : CM → Addr → Prop
  mono : ∀ {c c' : CM} {lh : Addr}, c.le c' → on c lh → on c' lh
noncomputable def Tm.nil : Tm := ⟨fun _ _ => True, fun _ _ => True.intro⟩
noncomputable def Tm.v (ad : Ad) (v : Value) (a : AV) (T : Tm) : Tm := ⟨fun c lh => VR ad lh c v a ∧ T.on c lh, fun k h => ⟨h.1.mono k, T.mono k h.2⟩⟩
noncomputable def Tm.l (ad : Ad) (vs : List Value) (as : List AV) (T : Tm) : Tm := ⟨fun c lh => VRL ad lh c vs as ∧ T.on c lh, fun k h => ⟨h.1.mono k, T.mono k h.2⟩⟩
noncomputable def Tm.dl (vs : List Value) (ds : List PyData) (T : Tm) : Tm := ⟨fun c lh => RdL c vs ds ∧ T.on c lh, fun k h => ⟨h.1.mono k, T.mono k h.2⟩⟩
/-- the state, seen abstractly -/
inductive Rl (S : Stat) (ks : List (Str × NameKind)) (d : Dy) (T : Tm) (fr : Fr') (σ : Sto) (h : Heap) : Prop
  | mk (c m mg mh lh) : Sx S.hb d.s₀ d.c₀ d.mod c d.L m (mg ++ (mh ++ d.ex)) h → GM S.w S.ad c σ.g mg → HeldM lh c σ.held mh → FrR S.ad lh c ks d.cl fr m → T.on c lh → Rl S ks d T fr σ h
section
variable {S : Stat} {ks : List (Str × NameKind)} {d : Dy} {T T' : Tm} {fr : Fr'} {σ : Sto} {h h' : Heap}
theorem Rl.imp (R : Rl S ks d T fr σ h) (k : ∀ c lh, T.on c lh → T'.on c lh) : Rl S ks d T' fr σ h := by
  cases R with | mk c m mg mh lh X G H F t => exact ⟨c, m, mg, mh, lh, X, G, H, F, k _ _ t⟩
theorem Rl.drop {ad v a} (R : Rl S ks d (Tm.v ad v a T) fr σ h) : Rl S ks d T fr σ h := R.imp fun _ _ t => t.2
theorem Rl.keep (R : Rl S ks d T fr σ h) : ∀ b o, S.hb.get? b = some o → h.get? b = some o := by
  cases R with | mk c m mg mh lh X => exact X.keep
theorem Rl.frx (R : Rl S ks d T fr σ h) : ∃ m, Fr S.hb d.L h m := by
  cases R with | mk c m mg mh lh X => exact ⟨m, X.fr⟩
/-- a value without an object -/
theorem Rl.val {v x} (R : Rl S ks d T fr σ h) (k : ∀ c, Rd c v x) : Rl S ks d (Tm.v S.ad v (.d x) T) fr σ h := R.imp fun c lh t => ⟨k c, t⟩
/-- a new cold object -/
theorem Rl.cold {a : Addr} {o : Obj} (R : Rl S ks d T fr σ h) (ha : h'.get? a = some o) (hf : h.objs.size ≤ a) (hk : ∀ b o, h.get? b = some o → h'.get? b = some o)
    (t : ∀ c lh, c a = some o → T.on c lh → T'.on c lh) : Rl S ks d T' fr σ h' := by
  cases R with | mk c m mg mh lh X G H F tt =>
  have le : c.le (c.put a o) := CM.le_put (X.fresh hf)
  exact ⟨_, m, mg, mh, lh, X.cold ha hf hk, G.mono le, H.mono le, F.mono le, t _ _ CM.put_at (T.mono le tt)⟩
theorem Rl.keeps (R : Rl S ks d T fr σ h) (hk : ∀ b o, h.get? b = some o → h'.get? b = some o) : Rl S ks d T fr σ h' := by
  cases R with | mk c m mg mh lh X G H F t => exact ⟨c, m, mg, mh, lh, X.keeps hk, G, H, F, t⟩
theorem push_keeps (h : Heap) (o : Obj) : ∀ b x, h.get? b = some x → (h.push o).get? b = some x := fun _ _ e => Heap.get?_push_of_some _ e
theorem Rl.pushed {o : Obj} (R : Rl S ks d T fr σ h) (t : ∀ c lh, c h.objs.size = some o → T.on c lh → T'.on c lh) (hf : o.isFreed = false := by rfl) : Rl S ks d T' fr σ (h.push o) :=
  R.cold (Heap.get?_push_size h hf) (Nat.le_refl _) (push_keeps h o) t
theorem Rl.K (R : Rl S ks d T fr σ h) : S.K.In h := S.G.K.keeps R.keep
theorem Rl.rd {v x} (R : Rl S ks d (Tm.v S.ad v (.d x) T) fr σ h) : ∃ c : CM, c.inH h ∧ Rd c v x := by
  cases R with | mk c m mg mh lh X G H F t => exact ⟨c, X.sub, t.1⟩
theorem Rl.bool {v b} (R : Rl S ks d (Tm.v S.ad v (.d (.bool b)) T) fr σ h) : v = .bool b := let ⟨_, _, t⟩ := R.rd; t.bool_inv
theorem Rl.int {v i} (R : Rl S ks d (Tm.v S.ad v (.d (.int i)) T) fr σ h) : ∃ t, v = .int i t := let ⟨_, _, t⟩ := R.rd; t.int_inv
theorem Rl.nul {v} (R : Rl S ks d (Tm.v S.ad v (.d .none) T) fr σ h) : v = .none := let ⟨_, _, t⟩ := R.rd; t.none_inv
theorem Rl.reads {v x} (R : Rl S ks d (Tm.v S.ad v (.d x) T) fr σ h) : ∃ as, Reads h v x as := let ⟨_, i, t⟩ := R.rd; t.reads i
/-- a list that lies there -/
inductive ListAt (S : Stat) (ks : List (Str × NameKind)) (d : Dy) (T : Tm) (fr : Fr') (σ : Sto) (h : Heap) (v : Value) (ds : List PyData) : Prop
  | mk {a vs} : v = .ref a → h.IsList a vs.toArray → vs.length = ds.length → Rl S ks d (Tm.dl vs ds T) fr σ h → ListAt S ks d T fr σ h v ds
theorem list_at {v ds} (R : Rl S ks d (Tm.v S.ad v (.d (.list ds)) T) fr σ h) : ListAt S ks d T fr σ h v ds := by
  cases R with | mk c m mg mh lh X G H F t =>
  cases (show Rd c v _ from t.1).list_inv with | mk e ha hac had r =>
  exact ⟨e, ⟨_, X.sub _ _ ha, hac, _, had⟩, r.length, c, m, mg, mh, lh, X, G, H, F, r, t.2⟩
inductive TupAt (S : Stat) (ks : List (Str × NameKind)) (d : Dy) (T : Tm) (fr : Fr') (σ : Sto) (h : Heap) (v : Value) (ds : List PyData) : Prop
  | mk {a vs} : v = .ref a → IsTup h a vs.toArray → vs.length = ds.length → Rl S ks d (Tm.dl vs ds T) fr σ h → TupAt S ks d T fr σ h v ds
theorem tup_at {v ds} (R : Rl S ks d (Tm.v S.ad v (.d (.tuple ds)) T) fr σ h) : TupAt S ks d T fr σ h v ds := by
  cases R with | mk c m mg mh lh X G H F t =>
  cases (show Rd c v _ from t.1).tuple_inv with | mk e ha hac had r =>
  exact ⟨e, ⟨_, X.sub _ _ ha, hac, _, had⟩, r.length, c, m, mg, mh, lh, X, G, H, F, r, t.2⟩
theorem held_at {v ds} (R : Rl S ks d (Tm.v S.ad v .held T) fr σ h) (e : σ.held = some ds) : ListAt S ks d T fr σ h v ds := by
  cases R with | mk c m mg mh lh X G H F t =>
  rw [e] at H
  cases H with | @some o _ ws lo r =>
  exact ⟨t.1, lo.at (X.own _ (List.mem_append_right _ (List.mem_append_left _ (.head _)))).1, r.length, c, m, mg, _, lh, X, G, e ▸ .some lo r, F, r, t.2⟩
theorem dl_get {vs ds} {i : Nat} {x : PyData} (R : Rl S ks d (Tm.dl vs ds T) fr σ h) (e : ds[i]? = some x) : ∃ v, vs[i]? = some v ∧ Rl S ks d (Tm.v S.ad v (.d x) T) fr σ h := by
  cases R with | mk c m mg mh lh X G H F t =>
  obtain ⟨v, hv, r⟩ := t.1.get e
  exact ⟨v, hv, c, m, mg, mh, lh, X, G, H, F, r, t.2⟩
theorem dl_nil {vs ds} (R : Rl S ks d (Tm.dl vs ds T) fr σ h) : Rl S ks d T fr σ h := R.imp fun _ _ t => t.2
end
end Mine
/-! ## N3 -/
namespace Mine
open PySem PySem.W PySem.Calls PyProof.Rows
/-! ## the operators, as they compute -/
noncomputable def int2 (p q : PyData) (K : Int → Int → Prop) : Prop := onI p fun a => onI q fun b => K a b
theorem int2_inv {p q : PyData} {K : Int → Int → Prop} (h : int2 p q K) : ∃ a b, p = .int a ∧ q = .int b ∧ K a b := let ⟨a, e, h⟩ := onI_inv h; let ⟨b, e', h⟩ := onI_inv h; ⟨a, b, e, e', h⟩
noncomputable def addD (p q : PyData) (K : PyData → Prop) : Prop := match p with
  | .list xs => onL q fun ys => xs.length + ys.length ≤ 100000 ∧ K (.list (xs ++ ys))
  | p => int2 p q fun a b => K (.int (a + b))
noncomputable def binD (o : Operator) (p q : PyData) (K : PyData → Prop) : Prop := match o with
  | .Add => addD p q K
  | .Sub => int2 p q fun a b => K (.int (a - b))
  | .Mult => int2 p q fun a b => (a.natAbs < 2 ^ 63 ∨ b.natAbs < 2 ^ 63 ∨ (Builtin.Int.intBits a ≤ 2 ^ 20 ∧ Builtin.Int.intBits b ≤ 2 ^ 20)) ∧ K (.int (a * b))
  | .Mod => int2 p q fun a b => b ≠ 0 ∧ K (.int (a.fmod b))
  | .FloorDiv => int2 p q fun a b => (b ≠ 0 ∧ b.natAbs < 1073741824) ∧ K (.int (a.fdiv b))
  | .Pow => int2 p q fun a b => (0 ≤ b ∧ b ≤ 1000 ∧ a.natAbs < 2 ^ 64) ∧ K (.int (a ^ b.toNat))
  | _ => False
/-- two data compared -/
noncomputable def eqD (p q : PyData) (K : Bool → Prop) : Prop := match p, q with
  | .int a, .int b => K (decide (a = b))
  | p, q => (SeqAt.shaped p = true ∧ SeqAt.shaped q = true) ∧ K (PyData.eqv p q)
noncomputable def noneD (p : PyData) (K : Bool → Prop) : Prop := match p with
  | .none => K true
  | .tuple _ => K false
  | .int _ => K false
  | _ => False
noncomputable def isN (p q : PyData) (K : Bool → Prop) : Prop := match q with | .none => noneD p K | _ => False
noncomputable def inD (p q : PyData) (K : Bool → Prop) : Prop := match q with
  | .tuple ys => (SeqAt.shaped p = true ∧ PyData.canLayAll0 ys = true) ∧ K (ys.any fun y => PyData.eqv y p)
  | .list ys => (SeqAt.shaped p = true ∧ PyData.canLayAll0 ys = true) ∧ K (ys.any fun y => PyData.eqv y p)
  | _ => False
noncomputable def cmpD (o : CmpOp) (p q : PyData) (K : Bool → Prop) : Prop := match o with
  | .Eq => eqD p q K
  | .NotEq => eqD p q fun r => K (!r)
  | .Lt => int2 p q fun a b => K (decide (a < b))
  | .LtE => int2 p q fun a b => K (decide (a ≤ b))
  | .Gt => int2 p q fun a b => K (decide (b < a))
  | .GtE => int2 p q fun a b => K (decide (b ≤ a))
  | .Is => isN p q K
  | .IsNot => isN p q fun r => K (!r)
  | .In => inD p q K
  | _ => False
noncomputable def nthP : List PyData → Nat → Option PyData
  | [], _ => none
  | a :: _, 0 => some a
  | _ :: r, i + 1 => nthP r i
theorem nthP_eq {l : List PyData} {i : Nat} : nthP l i = l[i]? := by
  induction l generalizing i with
  | nil => rfl
  | cons a r ih => cases i with
    | zero => rfl
    | succ i => exact ih.trans List.getElem?_cons_succ.symm
noncomputable def ixL (ds : List PyData) (i : Int) (K : PyData → Prop) : Prop := match i with
  | .ofNat n => grd (Nat.blt n 1000000000) (need (nthP ds n) K)
  | .negSucc _ => False
theorem ixL_inv {ds : List PyData} {i : Int} {K : PyData → Prop} (h : ixL ds i K) : 0 ≤ i ∧ i < 1000000000 ∧ ∃ r, ds[i.toNat]? = some r ∧ K r := by
  cases i with
  | ofNat n =>
    obtain ⟨h1, h⟩ := grd_inv h
    obtain ⟨r, h2, h⟩ := need_inv h
    exact ⟨Int.natCast_nonneg n, Int.ofNat_lt.mpr (Nat.le_of_ble_eq_true h1), r, nthP_eq ▸ h2, h⟩
  | negSucc n => exact False.elim h
theorem ixL_of {ds : List PyData} {i : Int} {K : PyData → Prop} {r : PyData} (h0 : 0 ≤ i) (h1 : i < 1000000000) (h : ds[i.toNat]? = some r) (q : K r) : ixL ds i K := by
  obtain ⟨n, rfl⟩ := Int.eq_ofNat_of_zero_le h0
  have hb : Nat.blt n 1000000000 = true := Nat.ble_eq_true_of_le (Int.ofNat_lt.mp h1)
  show grd (Nat.blt n 1000000000) (need (nthP ds n) K)
  rw [hb, nthP_eq, show ds[n]? = some r from h]; exact q
noncomputable def ixP (i x y : Int) (K : PyData → Prop) : Prop := match i with
  | .ofNat 0 => K (.int x)
  | .ofNat 1 => K (.int y)
  | _ => False
noncomputable def ixD (p : PyData) (i : Int) (K : PyData → Prop) : Prop := match p with
  | .list ds => ixL ds i K
  | .tuple ds => ixL ds i K
  | .str x => (0 ≤ i ∧ i < 1000000000) ∧ need (x.cps[i.toNat]?) fun c => K (.str ⟨#[c]⟩)
  | _ => False
noncomputable def ixA (a : AV) (σ : Sto) (i : Int) (K : PyData → Prop) : Prop := match a with
  | .d p => ixD p i K
  | .held => isHeld (some .held) σ fun ds => ixL ds i K
  | .pool => (match σ with | ⟨⟨some (x, y), _⟩, _⟩ => ixP i x y K | _ => False)
  | .src => False
noncomputable def lenA (a : AV) (σ : Sto) (K : Nat → Prop) : Prop := match a with
  | .d p => (match p with | .list ds => K ds.length | .tuple ds => K ds.length | .str x => K x.length | _ => False)
  | .held => isHeld (some .held) σ fun ds => K ds.length
  | _ => False
noncomputable def intsD : List PyData → (List Int → Prop) → Prop
  | [], K => K []
  | p :: r, K => onI p fun i => intsD r fun l => K (i :: l)
noncomputable def one (as : List AV) (K : AV → Prop) : Prop := match as with | [a] => K a | _ => False
noncomputable def two (as : List AV) (K : AV → AV → Prop) : Prop := match as with | [a, b] => K a b | _ => False
theorem one_inv {as : List AV} {K : AV → Prop} (h : one as K) : ∃ a, as = [a] ∧ K a := by
  rcases as with _ | ⟨a, _ | ⟨b, r⟩⟩
  · exact False.elim h
  · exact ⟨a, rfl, h⟩
  · exact False.elim h
theorem two_inv {as : List AV} {K : AV → AV → Prop} (h : two as K) : ∃ a b, as = [a, b] ∧ K a b := by
  rcases as with _ | ⟨a, _ | ⟨b, _ | ⟨c, r⟩⟩⟩
  · exact False.elim h
  · exact False.elim h
  · exact ⟨a, b, rfl, h⟩
  · exact False.elim h
/-- the built-in functions of plain names -/
noncomputable def biD (b : B) (as : List AV) (σ : Sto) (K : PyData → Prop) : Prop := match b with
  | .len => one as fun a => lenA a σ fun n => grd (Nat.blt n 1000000000) (K (.int n))
  | .abs => one as fun a => isI a fun i => K (.int (if i < 0 then -i else i))
  | .ord => one as fun a => isD a fun p => onS p fun x => x.length = 1 ∧ K (.int (x.cps.getD 0 0))
  | .min => two as fun a b => isI a fun i => isI b fun j => K (.int (if j < i then j else i))
  | .sum => one as fun a => isL a fun ds => intsD ds fun l => K (.int l.sum)
  | _ => False
noncomputable def kindB (a : AV) (K : Bool → Prop) : Prop := match a with | .d (.bool _) => K true | .d (.int _) => K false | _ => False
noncomputable def X.bin (o : Operator) (x y : X) : X := fun fr σ Q => x fr σ fun a σ => y fr σ fun b σ => isD a fun p => isD b fun q => binD o p q fun r => Q (.d r) σ
noncomputable def X.neg (x : X) : X := fun fr σ Q => x fr σ fun a σ => isI a fun i => Q (.d (.int (-i))) σ
noncomputable def X.not (x : X) : X := fun fr σ Q => x fr σ fun a σ => isB a fun b => Q (.d (.bool (!b))) σ
noncomputable def X.and (x y : X) : X := fun fr σ Q => x fr σ fun a σ => isB a fun b => br b (y fr σ Q) (Q (.d (.bool false)) σ)
noncomputable def X.or (x y : X) : X := fun fr σ Q => x fr σ fun a σ => isB a fun b => br b (Q (.d (.bool true)) σ) (y fr σ Q)
noncomputable def X.cmp (o : CmpOp) (x y : X) : X := fun fr σ Q => x fr σ fun a σ => y fr σ fun b σ => isD a fun p => isD b fun q => cmpD o p q fun r => Q (.d (.bool r)) σ
noncomputable def X.cmp2 (o₁ o₂ : CmpOp) (x y z : X) : X := fun fr σ Q => x fr σ fun a σ => y fr σ fun b σ => isD a fun p => isD b fun q => cmpD o₁ p q fun r =>
  br r (z fr σ fun e σ => isD e fun p' => cmpD o₂ q p' fun r' => Q (.d (.bool r')) σ) (Q (.d (.bool false)) σ)
noncomputable def X.ife (c a b : X) : X := fun fr σ Q => c fr σ fun t σ => isB t fun r => br r (a fr σ Q) (b fr σ Q)
noncomputable def X.tup (xs : XL) : X := fun fr σ Q => xs fr σ fun as σ => dats as fun ds => grd (Nat.ble ds.length 100000) (Q (.d (.tuple ds)) σ)
noncomputable def X.lst (xs : XL) : X := fun fr σ Q => xs fr σ fun as σ => dats as fun ds => grd (Nat.ble ds.length 100000) (Q (.d (.list ds)) σ)
noncomputable def X.ix (x i : X) : X := fun fr σ Q => x fr σ fun a σ => i fr σ fun b σ => isI b fun i => ixA a σ i fun r => Q (.d r) σ
noncomputable def X.slAB (x a b : X) : X := fun fr σ Q => x fr σ fun l σ => a fr σ fun i σ => b fr σ fun j σ => isL l fun ds => isI i fun p => isI j fun q => (0 ≤ p ∧ 0 ≤ q ∧ ds.length ≤ 100000) ∧ Q (.d (.list ((ds.take q.toNat).drop p.toNat))) σ
noncomputable def X.slA (x a : X) : X := fun fr σ Q => x fr σ fun l σ => a fr σ fun i σ => isL l fun ds => isI i fun p => (0 ≤ p ∧ ds.length ≤ 100000) ∧ Q (.d (.list (ds.drop p.toNat))) σ
noncomputable def X.slB (x b : X) : X := fun fr σ Q => x fr σ fun l σ => b fr σ fun i σ => isL l fun ds => isI i fun p => (0 ≤ p ∧ ds.length ≤ 100000) ∧ Q (.d (.list (ds.take p.toNat))) σ
noncomputable def revA (a : AV) (σ : Sto) (K : List PyData → Prop) : Prop := match a with
  | .d p => onL p K
  | .held => isHeld (some .held) σ K
  | _ => False
noncomputable def X.rev (x : X) : X := fun fr σ Q => x fr σ fun l σ => revA l σ fun ds => ds.length ≤ 100000 ∧ Q (.d (.list ds.reverse)) σ
noncomputable def X.hne (x : X) : X := fun fr σ Q => x fr σ fun a σ => isHeld (some a) σ fun ds => SeqAt.shaped (.list ds) = true ∧ Q (.d (.bool (!ds.isEmpty))) σ
noncomputable def X.bi (b : B) (xs : XL) : X := fun fr σ Q => xs fr σ fun as σ => biD b as σ fun r => Q (.d r) σ
noncomputable def X.int_ (x : X) : X := fun fr σ Q => x fr σ fun a σ => isB a fun b => Q (.d (.int (if b then 1 else 0))) σ
noncomputable def X.isb (x : X) : X := fun fr σ Q => x fr σ fun a σ => kindB a fun r => Q (.d (.bool r)) σ
noncomputable def X.isi (x : X) : X := fun fr σ Q => x fr σ fun a σ => isI a fun _ => Q (.d (.bool true)) σ
noncomputable def X.ist (x : X) : X := fun fr σ Q => x fr σ fun a σ => isD a fun p => onT p fun _ => Q (.d (.bool true)) σ
noncomputable def X.call (S : Stat) (f : Addr) (xs : XL) : X := fun fr σ Q => xs fr σ fun as σ => callS S f as σ Q
noncomputable def X.meth (S : Stat) (f : Addr) (x : X) (xs : XL) : X := fun fr σ Q => x fr σ fun a σ => isSrc a σ fun _ _ => xs fr σ fun as σ => callS S f (.src :: as) σ Q
noncomputable def X.bal (x : X) : X := fun fr σ Q => x fr σ fun a σ => isSrc a σ fun _ b => Q (.d (.int b)) σ
/-! ## they are sound -/
section
variable {w : World} {S : Stat} {ks : List (Str × NameKind)} {d : Dy} {T : Tm} {fr : Fr'} {σ : Sto} {A : Around} {E : Value → Shared → Prop} {s : Shared} {k : Nat} {QQ : Value → Shared → Prop} {v₁ v₂ : Value}
theorem Rl.ints {i j} (R : Rl S ks d (Tm.v S.ad v₂ (.d (.int j)) (Tm.v S.ad v₁ (.d (.int i)) T)) fr σ s.heap) : (∃ t, v₁ = .int i t) ∧ (∃ t, v₂ = .int j t) ∧ Rl S ks d T fr σ s.heap := ⟨R.drop.int, R.int, R.drop.drop⟩
theorem int2_go {K' : Int → Int → Prop} {p q : PyData} {t : Value → Value → Sem Value} (R : Rl S ks d (Tm.v S.ad v₂ (.d q) (Tm.v S.ad v₁ (.d p) T)) fr σ s.heap) (h : int2 p q K')
    (k : ∀ {i j : Int} {a b : Nat}, K' i j → Rl S ks d T fr σ s.heap → wpAny (model PG w) A (t (.int i a) (.int j b)) QQ E s) : wpAny (model PG w) A (t v₁ v₂) QQ E s := by
  obtain ⟨i, j, rfl, rfl, h⟩ := int2_inv h
  obtain ⟨⟨a, rfl⟩, ⟨b, rfl⟩, R0⟩ := R.ints
  exact k h R0
theorem add_lists {xs ys : List PyData} (R : Rl S ks d (Tm.v S.ad v₂ (.d (.list ys)) (Tm.v S.ad v₁ (.d (.list xs)) T)) fr σ s.heap) (hz : xs.length + ys.length ≤ 100000)
    (ret : ∀ v h' tk', Rl S ks d (Tm.v S.ad v (.d (.list (xs ++ ys))) T) fr σ h' → QQ v { s with heap := h', toks := tk' }) : wpAny (model PG w) A (binaryOp .Add v₁ v₂) QQ E s := by
  cases list_at R with | @mk b ws e2 hb l2 R2 =>
  have R1 : Rl S ks d (Tm.v S.ad v₁ (.d (.list xs)) (Tm.dl ws ys T)) fr σ s.heap := R2.imp fun c lh t => ⟨t.2.1, t.1, t.2.2⟩
  cases list_at R1 with | @mk a vs e1 ha l1 R0 =>
  clear R R1 R2
  subst e1 e2
  obtain ⟨⟨cl, dd, data, sl⟩, ha', hac, n, had⟩ := ha
  obtain ⟨⟨cl2, dd2, data2, sl2⟩, hb', hbc, n2, hbd⟩ := hb
  simp only at hac had hbc hbd
  subst hac had hbc hbd
  refine concat_meets ⟨_, ha', rfl⟩ ⟨_, hb', rfl⟩ noFill_list_add seq_list_add PySem.F.slot_list_add PySem.F.entry_list_add (PySem.F.args_list_add_2 _ _) (list_addW a b vs.toArray ws.toArray n n2 dd dd2 sl sl2 (by rw [sizeLine_eq]; simp only [List.size_toArray]; omega)) ⟨ha', hb', ?_⟩
  rw [show vs.toArray ++ ws.toArray = (vs ++ ws).toArray from List.append_toArray vs ws]
  exact ret _ _ _ (R0.pushed fun c lh e t => ⟨.list e rfl rfl (t.1.append t.2.1), t.2.2⟩)
theorem addD_inv {p q : PyData} {K : PyData → Prop} (h : addD p q K) : (∃ xs ys, p = .list xs ∧ q = .list ys ∧ xs.length + ys.length ≤ 100000 ∧ K (.list (xs ++ ys))) ∨ int2 p q fun a b => K (.int (a + b)) := by
  cases p with
  | list xs => obtain ⟨ys, e, h⟩ := onL_inv h; exact .inl ⟨xs, ys, rfl, e, h⟩
  | _ => exact .inr h
theorem bin_sound {o : Operator} {p q : PyData} {K : PyData → Prop} (R : Rl S ks d (Tm.v S.ad v₂ (.d q) (Tm.v S.ad v₁ (.d p) T)) fr σ s.heap) (e : binD o p q K)
    (ret : ∀ v r h' tk', K r → Rl S ks d (Tm.v S.ad v (.d r) T) fr σ h' → QQ v { s with heap := h', toks := tk' }) : wpAny (model PG w) A (binaryOp o v₁ v₂) QQ E s := by
  have out : ∀ {i : Int} {tk : Nat}, Rl S ks d T fr σ s.heap → K (.int i) → QQ (.int i s.toks) { s with toks := tk } := fun R0 h => ret _ _ s.heap _ h (R0.val fun c => .int _ _)
  cases o with
  | Add => rcases addD_inv e with ⟨xs, ys, rfl, rfl, hz, h⟩ | h
           · exact add_lists R hz fun v h' tk' R' => ret v _ h' tk' h R'
           · exact int2_go R h fun h R0 => P.add_int (out R0 h)
  | Sub => exact int2_go R e fun h R0 => P.sub_int (out R0 h)
  | Mult =>
    refine int2_go R e fun {i j t u} h R0 => P.mul_int (out R0 h.2) ?_
    rcases h.1 with hz | hz | hz
    · exact IntMulOk.of_left (Nat.le_trans (intBits_le hz) (by decide))
    · exact IntMulOk.of_right (Nat.le_trans (intBits_le hz) (by decide))
    · exact IntMulOk.of_bits hz.1 hz.2
  | Mod => exact int2_go R e fun h R0 => mod_int' h.1 (out R0 h.2)
  | FloorDiv => exact int2_go R e fun h R0 => floordiv_int h.1.1 (out R0 h.2) (.inl (PyProof.noPylong_small h.1.2))
  | Pow => exact int2_go R e fun h R0 => pow_int_small h.1.1 (Int.le_trans h.1.2.1 (by decide)) h.1.2.2 (out R0 h.2)
  | _ => exact False.elim e
theorem eqD_inv {p q : PyData} {K : Bool → Prop} (h : eqD p q K) : (∃ i j, p = .int i ∧ q = .int j ∧ K (decide (i = j))) ∨ (SeqAt.shaped p = true ∧ SeqAt.shaped q = true) ∧ K (PyData.eqv p q) := by
  cases p with
  | int i => cases q with
    | int j => exact .inl ⟨i, j, rfl, rfl, h⟩
    | _ => exact .inr h
  | _ => exact .inr h
theorem isN_inv {p q : PyData} {K : Bool → Prop} (h : isN p q K) : q = .none ∧ (p = .none ∧ K true ∨ ((∃ i, p = .int i) ∨ ∃ ds, p = .tuple ds) ∧ K false) := by
  cases q with
  | none => cases p with
    | none => exact ⟨rfl, .inl ⟨rfl, h⟩⟩
    | int i => exact ⟨rfl, .inr ⟨.inl ⟨i, rfl⟩, h⟩⟩
    | tuple ds => exact ⟨rfl, .inr ⟨.inr ⟨ds, rfl⟩, h⟩⟩
    | _ => exact False.elim h
  | _ => exact False.elim h
theorem inD_inv {p q : PyData} {K : Bool → Prop} (h : inD p q K) : ∃ ys, (q = .tuple ys ∨ q = .list ys) ∧ (SeqAt.shaped p = true ∧ PyData.canLayAll0 ys = true) ∧ K (ys.any fun y => PyData.eqv y p) := by
  cases q with
  | tuple ys => exact ⟨ys, .inl rfl, h⟩
  | list ys => exact ⟨ys, .inr rfl, h⟩
  | _ => exact False.elim h
theorem not_none {p : PyData} (h : (∃ i, p = .int i) ∨ ∃ ds, p = .tuple ds) (R : Rl S ks d (Tm.v S.ad v₁ (.d p) T) fr σ s.heap) : v₁ ≠ .none := by
  rcases h with ⟨i, rfl⟩ | ⟨ds, rfl⟩
  · obtain ⟨t, rfl⟩ := R.int; exact nofun
  · cases tup_at R with | mk e => rw [e]; exact nofun
theorem cmp_sound {o : CmpOp} {p q : PyData} {K : Bool → Prop} (hA : Rm A k) (R : Rl S ks d (Tm.v S.ad v₂ (.d q) (Tm.v S.ad v₁ (.d p) T)) fr σ s.heap) (e : cmpD o p q K)
    (ret : ∀ r, K r → Rl S ks d (Tm.v S.ad v₂ (.d q) T) fr σ s.heap → QQ (.bool r) s) : wpAny (model PG w) A (compareOp o v₁ v₂) QQ E s := by
  have out : ∀ r, K r → QQ (.bool r) s := fun r h => ret r h (R.imp fun _ _ t => ⟨t.1, t.2.2⟩)
  clear ret
  cases o with
  | Lt => exact int2_go R e fun h _ => P.lt_int (out _ h)
  | LtE => exact int2_go R e fun h _ => P.le_int (out _ h)
  | Gt => exact int2_go R e fun h _ => P.gt_int (out _ h)
  | GtE => exact int2_go R e fun h _ => P.ge_int (out _ h)
  | Eq =>
    rcases eqD_inv e with ⟨i, j, rfl, rfl, h⟩ | ⟨⟨h1, h2⟩, h⟩
    · exact int2_go (K' := fun a b => K (decide (a = b))) R h fun h _ => P.eq_int (out _ h)
    · exact let ⟨_, ra⟩ := R.drop.reads; let ⟨_, rb⟩ := R.reads; SeqAt.compareEq_shaped ra rb h1 h2 hA.u64 (out _ h)
  | NotEq =>
    rcases eqD_inv (K := fun r => K (!r)) e with ⟨i, j, rfl, rfl, h⟩ | ⟨⟨h1, h2⟩, h⟩
    · exact int2_go (K' := fun a b => K (!decide (a = b))) R h fun h _ => P.ne_int (out _ h)
    · exact let ⟨_, ra⟩ := R.drop.reads; let ⟨_, rb⟩ := R.reads; SeqAt.compareNe_shaped ra rb h1 h2 hA.u64 (out _ h)
  | Is =>
    obtain ⟨rfl, ⟨rfl, h⟩ | ⟨h1, h⟩⟩ := isN_inv e
    · obtain rfl := R.nul; obtain rfl := R.drop.nul; exact is_none_gen (out _ h)
    · obtain rfl := R.nul; exact is_none_ne (not_none h1 R.drop) (out _ h)
  | IsNot =>
    obtain ⟨rfl, ⟨rfl, h⟩ | ⟨h1, h⟩⟩ := isN_inv (K := fun r => K (!r)) e
    · obtain rfl := R.nul; obtain rfl := R.drop.nul; exact isnot_none_gen (out _ h)
    · obtain rfl := R.nul; exact isnot_none_ne (not_none h1 R.drop) (out _ h)
  | In =>
    obtain ⟨ys, hq, h, z⟩ := inD_inv e
    obtain ⟨as, ra⟩ := R.drop.reads
    obtain ⟨bs, rb⟩ := R.reads
    have h1 := SeqAt.depth_of_shaped h.1
    have h2 := hA.units
    rcases hq with rfl | rfl
    · exact SeqAt.in_tuple_reads rb ra h.2 (SeqAt.canLay_of_shaped h.1) (by omega) (out _ z)
    · exact SeqAt.in_list_reads rb ra h.2 (SeqAt.canLay_of_shaped h.1) (by omega) (out _ z)
  | _ => exact False.elim e
end
end Mine
/-! ## N4 -/
namespace Mine
open PySem PySem.W PySem.Calls PyProof.Rows
structure EnvOk (ks : List (Str × NameKind)) (d : Dy) (env : Env) : Prop where
  kind : env.scope.kind = .function
  names : env.scope.names = ks
  loc : env.locals = d.L
  glob : env.globals = mainGlobals
  blt : env.builtins = builtinsNs
  cells : env.cells = d.cl
  nd : (ks.map (·.1)).Nodup
  dbg : ∀ p ∈ ks, (p.1 == ("__debug__" : Str)) = false
theorem lookup_of_nodup {β : Type} {ks : List (Str × β)} {i : Nat} {x : Str} {k : β} (nd : (ks.map (·.1)).Nodup) (e : ks[i]? = some (x, k)) : ks.lookup x = some k := by
  induction ks generalizing i with
  | nil => exact nomatch e
  | cons p r ih =>
    rw [List.map_cons, List.nodup_cons] at nd
    obtain ⟨y, z⟩ := p
    rw [List.lookup]
    cases i with
    | zero => cases e; rw [beq_self_eq_true]
    | succ i =>
      rw [List.getElem?_cons_succ] at e
      rw [beq_eq_false_iff_ne.mpr fun q => nd.1 (List.mem_map.mpr ⟨(x, k), List.mem_of_getElem? e, q⟩)]
      exact ih nd.2 e
theorem EnvOk.kindOf {ks : List (Str × NameKind)} {d : Dy} {env : Env} (H : EnvOk ks d env) {i : Nat} {x : Str} {k : NameKind} (e : ks[i]? = some (x, k)) : env.kindOf x = some k := by
  unfold Env.kindOf; rw [H.names]; exact lookup_of_nodup H.nd e
theorem EnvOk.dbg' {ks : List (Str × NameKind)} {d : Dy} {env : Env} (H : EnvOk ks d env) {i : Nat} {x : Str} {k : NameKind} (e : ks[i]? = some (x, k)) : (x == ("__debug__" : Str)) = false := H.dbg _ (List.mem_of_getElem? e)
section
variable {S : Stat} {ks : List (Str × NameKind)} {d : Dy} {env : Env} {T : Tm} {fr : Fr'} {σ : Sto} {A : Around} {E : Value → Shared → Prop} {s : Shared} {QQ : Value → Shared → Prop}
theorem ev_glob {x : Str} {p : Pos} {v : Value} {i : Nat} (H : EnvOk ks d env) (R : Rl S ks d T fr σ s.heap) (hx : ks[i]? = some (x, .globalImplicit))
    (e : nsIn S.K mainGlobals x = some (some v)) (h : QQ v s) : wpAny (model PG S.w) A (eval (.Name x p) env) QQ E s := by
  obtain ⟨_, g⟩ := S.G.g
  exact Name_function_global H.kind (H.kindOf hx) (loadGlobal_global (H.glob ▸ g.keeps R.keep) (mg_of S.G.K g e) h) (H.dbg' hx)
theorem ev_blt {x : Str} {p : Pos} {v : Value} {i : Nat} (H : EnvOk ks d env) (R : Rl S ks d T fr σ s.heap) (hx : ks[i]? = some (x, .globalImplicit))
    (e : x ∈ gnone) (hv : bootBuiltins x = some v) (hn : x ≠ "__name__") (h : QQ v s) : wpAny (model PG S.w) A (eval (.Name x p) env) QQ E s := by
  obtain ⟨_, g⟩ := S.G.g
  obtain ⟨_, b, bb⟩ := S.G.b
  exact Name_function_global H.kind (H.kindOf hx) (loadGlobal_builtin (H.glob ▸ g.keeps R.keep) (mg_none_of S.G.K g (S.gn e)) (H.blt ▸ b.keeps R.keep) ((bb x hn).trans hv) h) (H.dbg' hx)
end
/-- an expression's value -/
noncomputable def Ev (S : Stat) (ks : List (Str × NameKind)) (e : Expr) (x : X) : Prop :=
  ∀ {d env T fr σ A E s QQ Q}, EnvOk ks d env → Rm A S.k → Rl S ks d T fr σ s.heap → x fr σ Q →
    (∀ v a σ' h' tk', Rl S ks d (Tm.v S.ad v a T) fr σ' h' → Q a σ' → QQ v { s with heap := h', toks := tk' }) → wpAny (model PG S.w) A (eval e env) QQ E s
/-- its truth -/
noncomputable def Tr (S : Stat) (ks : List (Str × NameKind)) (e : Expr) (x : X) : Prop :=
  ∀ {d env T fr σ A E s} {QQ : Bool → Shared → Prop} {Q : Bool → Sto → Prop}, EnvOk ks d env → Rm A S.k → Rl S ks d T fr σ s.heap → x fr σ (fun a σ => isB a fun b => Q b σ) →
    (∀ b σ' h' tk', Rl S ks d T fr σ' h' → Q b σ' → QQ b { s with heap := h', toks := tk' }) → wpAny (model PG S.w) A (isTrue e env (eval e env)) QQ E s
/-- an expression's text is sound -/
structure SE (S : Stat) (ks : List (Str × NameKind)) (e : Expr) (x : X) : Prop where
  ev : Ev S ks e x
  tr : Tr S ks e x
  star : ∀ rest env, starEach (e :: rest) env = (false, eval e env) :: starEach rest env
  mark : ∀ o, behindInMarks o e = false
  subs : ∀ o i, subscripted e false o i = operate [o, i] (getItem o i)
structure SEL (S : Stat) (ks : List (Str × NameKind)) (es : List Expr) (xs : XL) : Prop where
  ev : ∀ {d env T fr σ A E s pos QQ Q}, EnvOk ks d env → Rm A S.k → Rl S ks d T fr σ s.heap → xs fr σ Q →
    (∀ vs as σ' h' tk', Rl S ks d (Tm.l S.ad vs as T) fr σ' h' → Q as σ' → QQ vs { s with heap := h', toks := tk' }) → wpAny (model PG S.w) A (spliced (backTo pos (starEach es env))) QQ E s
  plain : ∀ pos env, (backTo pos (starEach es env)).any (·.1) = false
  head : ∀ e r, es = e :: r → ∀ env, starEach (e :: r) env = (false, eval e env) :: starEach r env
  nil' : es = [] → xs = .nil
  tail : ∀ e r, es = e :: r → ∀ pos env, (backTo pos (starEach r env)).any (·.1) = false
section
variable {S : Stat} {ks : List (Str × NameKind)}
theorem isD2_inv {a b : AV} {K : PyData → PyData → Prop} (h : isD a fun p => isD b fun q => K p q) : ∃ p q, a = .d p ∧ b = .d q ∧ K p q := let ⟨p, e, h⟩ := isD_inv h; let ⟨q, e', h⟩ := isD_inv h; ⟨p, q, e, e', h⟩
theorem bin_at {d : Dy} {T : Tm} {fr : Fr'} {σ : Sto} {A : Around} {E : Value → Shared → Prop} {s : Shared} {QQ : Value → Shared → Prop} {v₁ v₂ : Value} {a b : AV} {o : Operator} {K : PyData → Prop} (R : Rl S ks d (Tm.v S.ad v₂ b (Tm.v S.ad v₁ a T)) fr σ s.heap)
    (e : isD a fun p => isD b fun q => binD o p q K) (ret : ∀ v r h' tk', K r → Rl S ks d (Tm.v S.ad v (.d r) T) fr σ h' → QQ v { s with heap := h', toks := tk' }) : wpAny (model PG S.w) A (binaryOp o v₁ v₂) QQ E s := by
  obtain ⟨p, q, rfl, rfl, e⟩ := isD2_inv e
  exact bin_sound R e ret
theorem cmp_at {d : Dy} {T : Tm} {fr : Fr'} {σ : Sto} {A : Around} {E : Value → Shared → Prop} {s : Shared} {QQ : Value → Shared → Prop} {v₁ v₂ : Value} {a b : AV} {o : CmpOp} {K : PyData → Bool → Prop} (hA : Rm A S.k) (R : Rl S ks d (Tm.v S.ad v₂ b (Tm.v S.ad v₁ a T)) fr σ s.heap)
    (e : isD a fun p => isD b fun q => cmpD o p q (K q)) (ret : ∀ q r, K q r → Rl S ks d (Tm.v S.ad v₂ (.d q) T) fr σ s.heap → QQ (.bool r) s) : wpAny (model PG S.w) A (compareOp o v₁ v₂) QQ E s := by
  obtain ⟨p, q, rfl, rfl, e⟩ := isD2_inv e
  exact cmp_sound hA R e (ret q)
theorem cmp_at1 {d : Dy} {T : Tm} {fr : Fr'} {σ : Sto} {A : Around} {E : Value → Shared → Prop} {s : Shared} {QQ : Value → Shared → Prop} {v₁ v₂ : Value} {b : AV} {p : PyData} {o : CmpOp} {K : Bool → Prop} (hA : Rm A S.k) (R : Rl S ks d (Tm.v S.ad v₂ b (Tm.v S.ad v₁ (.d p) T)) fr σ s.heap)
    (e : isD b fun q => cmpD o p q K) (ret : ∀ r, K r → Rl S ks d T fr σ s.heap → QQ (.bool r) s) : wpAny (model PG S.w) A (compareOp o v₁ v₂) QQ E s :=
  cmp_at (a := .d p) (K := fun _ => K) hA R e fun _ r z R' => ret r z R'.drop
theorem tr_of {e : Expr} {x : X} (ev : Ev S ks e x) (he : ∀ env whole, isTrue e env whole = (do let v ← whole; standAt e.pos; holding [v] (truthy v))) : Tr S ks e x := fun H hA R hx ret => by
  refine isTrue_plain ?_ (he _ _)
  refine ev H hA R hx fun v a σ' h' tk' R' q => ?_
  obtain ⟨b, rfl, q⟩ := isB_inv q
  obtain rfl := R'.bool
  exact wpAny_truthy_bool (ret b σ' h' tk' R'.drop q)
theorem SE.plain {e : Expr} {x : X} (ev : Ev S ks e x)
    (he : ∀ env whole, isTrue e env whole = (do let v ← whole; standAt e.pos; holding [v] (truthy v)) := by intro _ _; rfl)
    (star : ∀ rest env, starEach (e :: rest) env = (false, eval e env) :: starEach rest env := by intro _ _; rfl)
    (mark : ∀ o, behindInMarks o e = false := by intro _; rfl)
    (subs : ∀ o i, subscripted e false o i = operate [o, i] (getItem o i) := by intro _ _; rfl) : SE S ks e x := ⟨ev, tr_of ev he, star, mark, subs⟩
theorem SE.both {e : Expr} {x : X} (ev : Ev S ks e x) (tr : Tr S ks e x)
    (star : ∀ rest env, starEach (e :: rest) env = (false, eval e env) :: starEach rest env := by intro _ _; rfl)
    (mark : ∀ o, behindInMarks o e = false := by intro _; rfl)
    (subs : ∀ o i, subscripted e false o i = operate [o, i] (getItem o i) := by intro _ _; rfl) : SE S ks e x := ⟨ev, tr, star, mark, subs⟩
theorem SE.int {i : Int} {k : Nat} {p : Pos} : SE S ks (.Constant (.int i) k p) (.c (.int i)) := .plain fun H hA R hx ret => wpAny_Constant_int (ret _ _ _ _ _ (R.val fun c => .int _ _) hx)
theorem SE.str {x : Str} {k : Nat} {p : Pos} : SE S ks (.Constant (.str x) k p) (.c (.str x)) := .plain fun H hA R hx ret => Constant_str (ret _ _ _ _ _ (R.val fun c => .str _ _) hx)
theorem SE.bool {b : Bool} {k : Nat} {p : Pos} : SE S ks (.Constant (.bool b) k p) (.c (.bool b)) := .plain fun {d env T fr σ A E s QQ Q} H hA R hx ret => Constant_bool (ret _ _ _ s.heap s.toks (R.val fun c => .bool _) hx)
theorem SE.nul {k : Nat} {p : Pos} : SE S ks (.Constant .none k p) (.c .none) := .plain fun {d env T fr σ A E s QQ Q} H hA R hx ret => Constant_none (ret _ _ _ s.heap s.toks (R.val fun c => .none) hx)
theorem SE.loc (i : Nat) {x : Str} {p : Pos} (hi : ks[i]? = some (x, .local)) : SE S ks (.Name x p) (.loc i) := .plain fun {d env T fr σ A E s QQ Q} H hA R hx ret => by
  obtain ⟨av, hav, q⟩ := need_inv hx
  cases R with | mk c m mg mh lh Sx G Hh F tt =>
  cases F i x _ av hi (nth_eq hav) with | loc hm hv =>
  refine wpAny_Name (wpAny_loadName_local (m := m) H.kind (H.kindOf hi) (H.loc ▸ Sx.ns) hm ?_) (H.dbg' hi)
  exact ret _ av σ s.heap s.toks ⟨c, m, mg, mh, lh, Sx, G, Hh, F, hv, tt⟩ q
theorem SE.cel (i : Nat) {x : Str} {p : Pos} (hi : ks[i]? = some (x, .cell)) : SE S ks (.Name x p) (.loc i) := .plain fun {d env T fr σ A E s QQ Q} H hA R hx ret => by
  obtain ⟨av, hav, q⟩ := need_inv hx
  cases R with | mk c m mg mh lh Sx G Hh F tt =>
  cases F i x _ av hi (nth_eq hav) with | cel hcl hc ho hv =>
  refine wpAny_Name (wpAny_loadName_cell H.kind (H.kindOf hi) (H.cells ▸ hcl) ⟨_, Sx.sub _ _ hc, ho⟩ ?_) (H.dbg' hi)
  exact ret _ av σ s.heap s.toks ⟨c, m, mg, mh, lh, Sx, G, Hh, F, hv, tt⟩ q
theorem SE.glob (i j : Nat) {x : Str} {p : Pos} {x' : PyData} (hi : ks[i]? = some (x, .globalImplicit)) (hj : gdat[j]? = some (x, x')) : SE S ks (.Name x p) (.c x') := .plain fun {d env T fr σ A E s QQ Q} H hA R hx ret => by
  obtain ⟨v, e, rv⟩ := S.gd (List.mem_of_getElem? hj)
  refine ev_glob H R hi e ?_
  cases R with | mk c m mg mh lh Sx G Hh F tt =>
  exact ret v (.d x') σ s.heap s.toks ⟨c, m, mg, mh, lh, Sx, G, Hh, F, rv.mono (fun b o e => Sx.grow _ _ (Sx.base _ _ e)), tt⟩ hx
theorem SEL.nil : SEL S ks [] .nil where
  ev := fun {d env T fr σ A E s pos QQ Q} H hA R hx ret => spliced_none (ret [] [] σ s.heap s.toks (R.imp fun c lh t => ⟨.nil, t⟩) hx)
  plain := fun _ _ => rfl
  head := fun _ _ e => nomatch e
  nil' := fun _ => rfl
  tail := fun _ _ e => nomatch e
theorem SEL.cons {e : Expr} {es : List Expr} {x : X} {xs : XL} (h : SE S ks e x) (r : SEL S ks es xs) : SEL S ks (e :: es) (.cons x xs) where
  ev := fun {d env T fr σ A E s pos QQ Q} H hA R hx ret => spliced_more (h.ev H hA R hx fun v a σ' h' tk' R' hx' => r.ev H hA R' hx' fun vs as σ'' h'' tk'' R'' q =>
    ret (v :: vs) (a :: as) σ'' h'' tk'' (R''.imp fun c lh t => ⟨.cons t.2.1 t.1, t.2.2⟩) q) (h.star _ _)
  plain := fun pos env => by
    rw [h.star]
    exact r.plain pos env
  head := fun e' r' q env => by cases q; exact h.star _ _
  nil' := fun e => nomatch e
  tail := fun e' r' q pos env => by cases q; exact r.plain _ _
theorem dats_rd {d : Dy} {T : Tm} {fr : Fr'} {σ : Sto} {h : Heap} {vs : List Value} {as : List AV} {K : List PyData → Prop} (q : dats as K) (R : Rl S ks d (Tm.l S.ad vs as T) fr σ h) : ∃ ds, Rl S ks d (Tm.dl vs ds T) fr σ h ∧ vs.length = ds.length ∧ K ds := by
  have key : ∀ {as : List AV} {K : List PyData → Prop}, dats as K → ∃ ds, as = ds.map .d ∧ K ds := fun {as} => by
    induction as with
    | nil => exact fun q => ⟨[], rfl, q⟩
    | cons a r ih => exact fun q => let ⟨p, e, q⟩ := isD_inv q; let ⟨ds, e', q⟩ := ih q; ⟨p :: ds, by rw [e, e', List.map_cons], q⟩
  obtain ⟨ds, rfl, z⟩ := key q
  clear key q
  cases R with | mk c m mg mh lh Sx G Hh F t =>
  have r : RdL c vs ds := by
    refine .of_zip (by rw [t.1.length, List.length_map]) fun p hp => t.1.zip (p.1, .d p.2) ?_
    rw [List.zip_map_right]
    exact List.mem_map.mpr ⟨p, hp, rfl⟩
  exact ⟨ds, ⟨c, m, mg, mh, lh, Sx, G, Hh, F, r, t.2⟩, r.length, z⟩
theorem small_len {n : Nat} {P : Prop} {vs : List Value} (h : grd (Nat.ble n 100000) P) (e : vs.length = n) : vs.length ≤ sizeLine := by
  rw [sizeLine_eq, e]; exact Nat.le_trans (Nat.le_of_ble_eq_true (grd_inv h).1) (by decide)
theorem SE.tup {es : List Expr} {xs : XL} {k : Nat} {p : Pos} (h : SEL S ks es xs) : SE S ks (.Tuple es k p) (.tup xs) := .plain fun {d env T fr σ A E s QQ Q} H hA R hx ret =>
  wpAny_Tuple (h.ev H hA R hx fun vs as σ' h' tk' R' q => let ⟨ds, R1, e, q⟩ := dats_rd q R'; ⟨small_len q e, ret _ (.d (.tuple ds)) σ' _ tk' (R1.pushed fun c lh e t => ⟨Rd.tuple e rfl rfl t.1, t.2⟩) (grd_inv q).2⟩)
theorem SE.lst {es : List Expr} {xs : XL} {p : Pos} (h : SEL S ks es xs) : SE S ks (.List es p) (.lst xs) := .plain fun {d env T fr σ A E s QQ Q} H hA R hx ret =>
  wpAny_List (h.ev H hA R hx fun vs as σ' h' tk' R' q => let ⟨ds, R1, e, q⟩ := dats_rd q R'; ⟨small_len q e, ret _ (.d (.list ds)) σ' _ tk' (R1.pushed fun c lh e t => ⟨Rd.list e rfl rfl t.1, t.2⟩) (grd_inv q).2⟩)
theorem SE.bin {o : Operator} {l r : Expr} {x y : X} {p : Pos} (h1 : SE S ks l x) (h2 : SE S ks r y) : SE S ks (.BinOp l o r p) (.bin o x y) := .plain fun {d env T fr σ A E s QQ Q} H hA R hx ret =>
  wpAny_BinOp (h1.ev H hA R hx fun v a σ' h' tk' R' hx' => h2.ev H hA R' hx' fun v2 a2 σ'' h'' tk'' R'' q => bin_at R'' q fun v r h' tk' z R3 => ret v _ σ'' h' tk' R3 z)
theorem SE.neg {e : Expr} {x : X} {p : Pos} (h1 : SE S ks e x) : SE S ks (.UnaryOp .USub e p) (.neg x) := .plain fun {d env T fr σ A E s QQ Q} H hA R hx ret =>
  UnaryOp_ (h1.ev H hA R hx fun v a σ' h' tk' R' q => by
    obtain ⟨i, rfl, z⟩ := isI_inv q
    obtain ⟨t, rfl⟩ := R'.int
    exact P.neg_int (ret _ _ σ' h' _ (R'.drop.val fun c => .int _ _) z))
theorem SE.not {e : Expr} {x : X} {p : Pos} (h1 : SE S ks e x) : SE S ks (.UnaryOp .Not e p) (.not x) := .both
  (fun {d env T fr σ A E s QQ Q} H hA R hx ret => UnaryOp_ (h1.ev H hA R hx fun v a σ' h' tk' R' q => by
    obtain ⟨b, rfl, z⟩ := isB_inv q
    obtain rfl := R'.bool
    exact not_of (wpAny_truthy_bool (ret _ _ σ' h' tk' (R'.drop.val fun c => .bool _) z))))
  fun {d env T fr σ A E s QQ Q} H hA R hx ret => isTrue_not (h1.tr H hA R (Q := fun b σ => Q (!b) σ) hx fun b σ' h' tk' R' q => ret _ _ _ _ R' q)
theorem SE.one {op : BoolOp} {e : Expr} {x : X} {p : Pos} (h : SE S ks e x) : SE S ks (.BoolOp op [e] p) x := .both
  (fun {d env T fr σ A E s QQ Q} H hA R hx ret => BoolOp_one (h.ev H hA R hx ret))
  fun {d env T fr σ A E s QQ Q} H hA R hx ret => by
    cases op with
    | And => exact isTrue_and (h.tr H hA R hx fun b σ' h' tk' R' q => match b, q with | false, q => ret _ _ _ _ R' q | true, q => isTrue_and_nil (ret _ _ _ _ R' q))
    | Or => exact isTrue_or (h.tr H hA R hx fun b σ' h' tk' R' q => match b, q with | false, q => isTrue_or_nil (ret _ _ _ _ R' q) | true, q => ret _ _ _ _ R' q)
theorem SE.and {e₁ e₂ : Expr} {rest : List Expr} {x y : X} {p : Pos} (h1 : SE S ks e₁ x) (h2 : SE S ks (.BoolOp .And (e₂ :: rest) p) y) : SE S ks (.BoolOp .And (e₁ :: e₂ :: rest) p) (.and x y) := .both
  (fun {d env T fr σ A E s QQ Q} H hA R hx ret => BoolOp_and (h1.ev H hA R hx fun v a σ' h' tk' R' q => by
    obtain ⟨b, rfl, q⟩ := isB_inv q
    obtain rfl := R'.bool
    refine wpAny_truthy_bool ?_
    cases b with
    | false => exact ret _ _ _ _ _ R' q
    | true => exact h2.ev H hA R'.drop q ret))
  fun {d env T fr σ A E s QQ Q} H hA R hx ret => isTrue_and (h1.tr H hA R (Q := fun b σ => br b (y fr σ fun a σ => isB a fun b => Q b σ) (Q false σ)) hx fun b σ' h' tk' R' q =>
    match b, q with | false, q => ret _ _ _ _ R' q | true, q => h2.tr H hA R' q ret)
theorem SE.or {e₁ e₂ : Expr} {rest : List Expr} {x y : X} {p : Pos} (h1 : SE S ks e₁ x) (h2 : SE S ks (.BoolOp .Or (e₂ :: rest) p) y) : SE S ks (.BoolOp .Or (e₁ :: e₂ :: rest) p) (.or x y) := .both
  (fun {d env T fr σ A E s QQ Q} H hA R hx ret => BoolOp_or (h1.ev H hA R hx fun v a σ' h' tk' R' q => by
    obtain ⟨b, rfl, q⟩ := isB_inv q
    obtain rfl := R'.bool
    refine wpAny_truthy_bool ?_
    cases b with
    | false => exact h2.ev H hA R'.drop q ret
    | true => exact ret _ _ _ _ _ R' q))
  fun {d env T fr σ A E s QQ Q} H hA R hx ret => isTrue_or (h1.tr H hA R (Q := fun b σ => br b (Q true σ) (y fr σ fun a σ => isB a fun b => Q b σ)) hx fun b σ' h' tk' R' q =>
    match b, q with | false, q => h2.tr H hA R' q ret | true, q => ret _ _ _ _ R' q)
theorem SE.ife {c a b : Expr} {x y z : X} {p : Pos} (h1 : SE S ks c x) (h2 : SE S ks a y) (h3 : SE S ks b z) : SE S ks (.IfExp c a b p) (.ife x y z) := .both
  (fun {d env T fr σ A E s QQ Q} H hA R hx ret => IfExp_ (h1.tr H hA R hx fun b σ' h' tk' R' q => match b, q with | true, q => h2.ev H hA R' q ret | false, q => h3.ev H hA R' q ret))
  fun {d env T fr σ A E s QQ Q} H hA R hx ret => isTrue_IfExp (h1.tr H hA R hx fun b σ' h' tk' R' q => match b, q with | true, q => h2.tr H hA R' q ret | false, q => h3.tr H hA R' q ret)
theorem SE.cmp {o : CmpOp} {l r : Expr} {x y : X} {p : Pos} (h1 : SE S ks l x) (h2 : SE S ks r y) : SE S ks (.Compare l [o] [r] p) (.cmp o x y) := .both
  (fun {d env T fr σ A E s QQ Q} H hA R hx ret => wpAny_Compare1 (h1.ev H hA R hx fun v a σ' h' tk' R' hx' => h2.ev H hA R' hx' fun v2 a2 σ'' h'' tk'' R'' q =>
    cmp_at (K := fun _ r => Q (.d (.bool r)) σ'') hA R'' q fun _ r z R3 => ret _ _ σ'' h'' tk'' (R3.drop.val fun c => .bool _) z) (h2.mark _))
  fun {d env T fr σ A E s QQ Q} H hA R hx ret => wpAny_isTrue_Compare1 (h1.ev H hA R hx fun v a σ' h' tk' R' hx' => h2.ev H hA R' hx' fun v2 a2 σ'' h'' tk'' R'' q =>
    cmp_at (K := fun _ r => Q r σ'') hA R'' q fun _ r z R3 => wpAny_truthy_bool (ret _ σ'' h'' tk'' R3.drop z)) (h2.mark _)
theorem SE.cmp2 {o₁ o₂ : CmpOp} {l r t : Expr} {x y z : X} {p : Pos} (h1 : SE S ks l x) (h2 : SE S ks r y) (h3 : SE S ks t z) : SE S ks (.Compare l [o₁, o₂] [r, t] p) (.cmp2 o₁ o₂ x y z) := .both
  (fun {d env T fr σ A E s QQ Q} H hA R hx ret => Compare_chain (h1.ev H hA R hx fun v a σ' h' tk' R' hx' => chain_link (h2.ev H hA R' hx' fun v2 a2 σ'' h'' tk'' R'' q =>
    cmp_at (K := fun q r => br r (z fr σ'' fun e σ => isD e fun p' => cmpD o₂ q p' fun r' => Q (.d (.bool r')) σ) (Q (.d (.bool false)) σ'')) hA R'' q fun _ r z R3 => wpAny_truthy_bool (match r, z with
      | false, z => ret _ _ σ'' h'' tk'' (R3.drop.val fun c => .bool _) z
      | true, z => chain_last (h3.ev H hA R3 z fun v3 a3 σ3 h3 tk3 R4 q2 => cmp_at1 hA R4 q2 fun r z R5 => ret _ _ σ3 h3 tk3 (R5.val fun c => .bool _) z)))) (h3.mark _))
  fun {d env T fr σ A E s QQ Q} H hA R hx ret => isTrue_chain (h1.ev H hA R hx fun v a σ' h' tk' R' hx' => test_link (h2.ev H hA R' hx' fun v2 a2 σ'' h'' tk'' R'' q =>
    cmp_at (K := fun q r => br r (z fr σ'' fun e σ => isD e fun p' => cmpD o₂ q p' fun r' => Q r' σ) (Q false σ'')) hA R'' q fun _ r z R3 => wpAny_truthy_bool (match r, z with
      | false, z => ret _ σ'' h'' tk'' R3.drop z
      | true, z => test_last (h3.ev H hA R3 z fun v3 a3 σ3 h3 tk3 R4 q2 => cmp_at1 hA R4 q2 fun r z R5 => wpAny_truthy_bool (ret _ σ3 h3 tk3 R5 z))))) (h3.mark _)
end
end Mine
/-! ## N5 -/
namespace Mine
open PySem PySem.W PySem.Calls PyProof.Rows
theorem pick_AB (items : Array Value) (a b : Nat) : slicePick items (some a) (some b) none = ((items.toList.take b).drop a).toArray := by
  rw [slicePick_plain]
  simp only [Option.elim, clipAt_nat]
  congr 1
  rw [List.drop_take]
  rcases Nat.le_total a items.size with h | h
  · rw [Nat.min_eq_left h]
    rcases Nat.le_total b items.size with h2 | h2
    · rw [Nat.min_eq_left h2]
    · rw [Nat.min_eq_right h2, List.take_of_length_le (by simp), List.take_of_length_le (by simp; omega)]
  · rw [Nat.min_eq_right h, List.drop_of_length_le (by simp), List.drop_of_length_le (by simpa using h)]; simp
theorem pick_rev (xs : List Value) : slicePick xs.toArray none none (some (-1)) = xs.reverse.toArray := krv_pick xs.toArray
theorem pick_ab {vs : List Value} {i j : Int} (hi : 0 ≤ i) (hj : 0 ≤ j) : slicePick vs.toArray (some i) (some j) none = ((vs.take j.toNat).drop i.toNat).toArray := by
  obtain ⟨a, rfl⟩ := Int.eq_ofNat_of_zero_le hi
  obtain ⟨b, rfl⟩ := Int.eq_ofNat_of_zero_le hj
  exact pick_AB _ a b
theorem pick_a {vs : List Value} {i : Int} (hi : 0 ≤ i) : slicePick vs.toArray (some i) none none = (vs.drop i.toNat).toArray := by
  obtain ⟨a, rfl⟩ := Int.eq_ofNat_of_zero_le hi
  exact slicePick_from' _ a
theorem pick_b {vs : List Value} {i : Int} (hi : 0 ≤ i) : slicePick vs.toArray none (some i) none = (vs.take i.toNat).toArray := by
  obtain ⟨a, rfl⟩ := Int.eq_ofNat_of_zero_le hi
  exact slicePick_upto' _ a
theorem Slice_ {M : Model} {A : Around} {E : Value → Shared → Prop} {s : Shared} {env : Env} {l u t : Option Expr} {p : Pos} {Q : Value → Shared → Prop}
    (h : wpAny M A (valueOrNone (evalOpt l env)) (fun vl s₁ => wpAny M A (valueOrNone (evalOpt u env)) (fun vu s₂ => wpAny M A (valueOrNone (evalOpt t env)) (fun vt s₃ =>
      Q (.ref s₃.heap.objs.size) { s₃ with heap := s₃.heap.push { cls := .type "slice", data := .fields #[vl, vu, vt] } }) E s₂) E s₁) E s) :
    wpAny M A (eval (.Slice l u t p) env) Q E s := by
  rw [arm_eval_Slice]
  refine wpAny_bind (wpAny_mono h (fun vl s₁ h₁ => wpAny_bind (wpAny_holding (wpAny_mono h₁ (fun vu s₂ h₂ => wpAny_bind (wpAny_holding (wpAny_mono h₂ (fun vt s₃ h₃ => ?_) fun _ _ x => x))) fun _ _ x => x))) fun _ _ x => x)
  exact wpAny_newObj_type h₃
section
variable {S : Stat} {ks : List (Str × NameKind)} {d : Dy} {T : Tm} {fr : Fr'} {σ : Sto} {A : Around} {E : Value → Shared → Prop} {s : Shared} {QQ : Value → Shared → Prop}
/-- a slice of a list that lies there -/
theorem sl_core {value slice : Expr} {v : Value} {vs' : List Value → List Value} {vl vu vt : Value} {lo hi st : Option Int} {ds es : List PyData} (L : ListAt S ks d T fr σ s.heap v ds) (hlen : ds.length ≤ 100000) (pl : IsPart vl lo) (pu : IsPart vu hi) (pt : IsPart vt st) (h0 : st ≠ some 0)
    (hp : ∀ vs : List Value, slicePick vs.toArray lo hi st = (vs' vs).toArray) (hr : ∀ c vs, RdL c vs ds → RdL c (vs' vs) es)
    (hs : ∀ o i, ∃ ops, subscripted slice false o i = operate ops (getItem o i))
    (ret : ∀ v h' tk', Rl S ks d (Tm.v S.ad v (.d (.list es)) T) fr σ h' → QQ v { s with heap := h', toks := tk' }) :
    wpAny (model PG S.w) A (subscriptTail value slice v (.ref s.heap.objs.size)) QQ E { s with heap := s.heap.push { cls := .type "slice", data := .fields #[vl, vu, vt] } } := by
  cases L with | @mk l vs e hl hvl R =>
  subst e
  obtain ⟨ops, hs⟩ := hs (.ref l) (.ref s.heap.objs.size)
  refine tail_any (Heap.IsList.typeIs (s := { s with heap := s.heap.push { cls := .type "slice", data := .fields #[vl, vu, vt] } }) (hl.push _)) slot_list_getitem.lookup
    (wpAny_getItem_list_slice (hl.push _) (Heap.IsSliceOf.new ..) pl pu pt h0 ?_ (by rw [sizeLine_eq]; simp only [List.size_toArray]; omega)) hs
  rw [hp]
  exact ret _ _ _ ((R.keeps (push_keeps _ _)).pushed fun c lh e t => ⟨.list e rfl rfl (hr _ _ t.1), t.2⟩)
theorem SE.slAB {l a b : Expr} {x y z : X} {p sp : Pos} (h1 : SE S ks l x) (h2 : SE S ks a y) (h3 : SE S ks b z) : SE S ks (.Subscript l (.Slice (some a) (some b) none sp) p) (.slAB x y z) := .plain fun {d env T fr σ A E s QQ Q} H hA R hx ret =>
  Subscript_ (h1.ev H hA R hx fun v a σ' h' tk' R' hx' => Slice_ (h2.ev H hA R' hx' fun v2 a2 σ2 h2 tk2 R2 hx2 => h3.ev H hA R2 hx2 fun v3 a3 σ3 h3 tk3 R3 q => wpAny_pure (by
    obtain ⟨ds, rfl, q⟩ := isL_inv q
    obtain ⟨i, rfl, q1⟩ := isI_inv q
    obtain ⟨j, rfl, q2⟩ := isI_inv q1
    obtain ⟨t3, rfl⟩ := R3.int
    obtain ⟨t2, rfl⟩ := R3.drop.int
    exact sl_core (list_at R3.drop.drop) q2.1.2.2 (.int _ _) (.int _ _) .none (by simp) (fun vs => pick_ab q2.1.1 q2.1.2.1) (fun c vs r => (r.take _).drop _) (fun o i => ⟨_, rfl⟩) fun v h' tk' R5 => ret v _ σ3 h' tk' R5 q2.2)))
theorem SE.slA {l a : Expr} {x y : X} {p sp : Pos} (h1 : SE S ks l x) (h2 : SE S ks a y) : SE S ks (.Subscript l (.Slice (some a) none none sp) p) (.slA x y) := .plain fun {d env T fr σ A E s QQ Q} H hA R hx ret =>
  Subscript_ (h1.ev H hA R hx fun v a σ' h' tk' R' hx' => Slice_ (h2.ev H hA R' hx' fun v2 a2 σ2 h2 tk2 R2 q => wpAny_pure (wpAny_pure (by
    obtain ⟨ds, rfl, q⟩ := isL_inv q
    obtain ⟨i, rfl, q1⟩ := isI_inv q
    obtain ⟨t2, rfl⟩ := R2.int
    exact sl_core (list_at R2.drop) q1.1.2 (.int _ _) .none .none (by simp) (fun vs => pick_a q1.1.1) (fun c vs r => r.drop _) (fun o i => ⟨_, rfl⟩) fun v h' tk' R5 => ret v _ σ2 h' tk' R5 q1.2))))
theorem SE.slB {l a : Expr} {x y : X} {p sp : Pos} (h1 : SE S ks l x) (h2 : SE S ks a y) : SE S ks (.Subscript l (.Slice none (some a) none sp) p) (.slB x y) := .plain fun {d env T fr σ A E s QQ Q} H hA R hx ret =>
  Subscript_ (h1.ev H hA R hx fun v a σ' h' tk' R' hx' => Slice_ (wpAny_pure (h2.ev H hA R' hx' fun v2 a2 σ2 h2 tk2 R2 q => wpAny_pure (by
    obtain ⟨ds, rfl, q⟩ := isL_inv q
    obtain ⟨i, rfl, q1⟩ := isI_inv q
    obtain ⟨t2, rfl⟩ := R2.int
    exact sl_core (list_at R2.drop) q1.1.2 .none (.int _ _) .none (by simp) (fun vs => pick_b q1.1.1) (fun c vs r => r.take _) (fun o i => ⟨_, rfl⟩) fun v h' tk' R5 => ret v _ σ2 h' tk' R5 q1.2))))
/-- [::-1] -/
theorem rev_core {env : Env} {sp p1 p2 : Pos} {k : Nat} {l : Expr} {v : Value} {ds : List PyData} (H : EnvOk ks d env) (L : ListAt S ks d T fr σ s.heap v ds) (hlen : ds.length ≤ 100000)
    (ret : ∀ v h' tk', Rl S ks d (Tm.v S.ad v (.d (.list ds.reverse)) T) fr σ h' → QQ v { s with heap := h', toks := tk' }) :
    wpAny (model PG S.w) A (eval (.Slice none none (some (.UnaryOp .USub (.Constant (.int 1) k p1) p2)) sp) env) (fun i s₁ => wpAny (model PG S.w) A (subscriptTail l (.Slice none none (some (.UnaryOp .USub (.Constant (.int 1) k p1) p2)) sp) v i) QQ E s₁) E s :=
  Slice_ (wpAny_pure (wpAny_pure (UnaryOp_ (wpAny_Constant_int (P.neg_int (sl_core (s := { s with toks := s.toks + 1 + 1 }) L hlen .none .none (.int _ _) (by simp) (fun vs => pick_rev vs) (fun c vs r => r.reverse) (fun o i => ⟨_, rfl⟩) ret))))))
theorem revA_at {v : Value} {a : AV} {K : List PyData → Prop} {h : Heap} (q : revA a σ K) (R : Rl S ks d (Tm.v S.ad v a T) fr σ h) : ∃ ds, ListAt S ks d T fr σ h v ds ∧ K ds := by
  cases a with
  | d p => obtain ⟨ds, rfl, q⟩ := onL_inv q; exact ⟨ds, list_at R, q⟩
  | held => obtain ⟨_, ds, e, q⟩ := isHeld_inv (o := some .held) (K := K) q; exact ⟨ds, held_at R e, q⟩
  | _ => exact False.elim q
theorem SE.rev {l : Expr} {x : X} {p sp p1 p2 : Pos} {k : Nat} (h1 : SE S ks l x) : SE S ks (.Subscript l (.Slice none none (some (.UnaryOp .USub (.Constant (.int 1) k p1) p2)) sp) p) (.rev x) := .plain fun {d env T fr σ A E s QQ Q} H hA R hx ret =>
  Subscript_ (h1.ev H hA R hx fun v a σ' h' tk' R' q => let ⟨ds, L, q⟩ := revA_at q R'; rev_core (s := { s with heap := h', toks := tk' }) H L q.1 fun v h' tk' R5 => ret v _ _ h' tk' R5 q.2)
theorem eqv_nil (ds : List PyData) : PyData.eqv (.list ds) (.list []) = ds.isEmpty := by
  cases ds <;> rfl
/-- a list that lies there, compared with [] -/
theorem eq_nil {env : Env} {lp : Pos} {o : CmpOp} {v : Value} {ds : List PyData} {as : List Addr} (hsh : SeqAt.shaped (.list ds) = true) (hA : Rm A S.k) (rl : Reads s.heap v (.list ds) as)
    (h : o = .Eq ∧ (∀ h' tk', (∀ b x, s.heap.get? b = some x → h'.get? b = some x) → QQ (.bool ds.isEmpty) { s with heap := h', toks := tk' }) ∨ o = .NotEq ∧ (∀ h' tk', (∀ b x, s.heap.get? b = some x → h'.get? b = some x) → QQ (.bool (!ds.isEmpty)) { s with heap := h', toks := tk' })) :
    wpAny (model PG S.w) A (eval (.List [] lp) env) (fun b s₂ => wpAny (model PG S.w) A (compareOp o v b) QQ E s₂) E s := by
  have hk := push_keeps s.heap { cls := .type "list", data := .seq ([] : List Value).toArray }
  have rb : Reads (s.heap.push { cls := .type "list", data := .seq ([] : List Value).toArray }) (.ref s.heap.objs.size) (.list []) _ := .list (Heap.get?_push_size _ rfl) rfl rfl .nil
  refine wpAny_List (spliced_none ⟨by decide, ?_⟩)
  rw [← eqv_nil] at h
  rcases h with ⟨rfl, h⟩ | ⟨rfl, h⟩
  · exact SeqAt.compareEq_shaped (s := { s with heap := s.heap.push _ }) (Reads.keeps hk rl) rb hsh (by decide) hA.u64 (h _ _ hk)
  · exact SeqAt.compareNe_shaped (s := { s with heap := s.heap.push _ }) (Reads.keeps hk rl) rb hsh (by decide) hA.u64 (h _ _ hk)
theorem ixL_at {value slice : Expr} {ds : List PyData} {i : Int} {t : Tok} {v : Value} {K : PyData → Prop} (q : ixL ds i K) (L : ListAt S ks d T fr σ s.heap v ds) (hs : ∀ o i, subscripted slice false o i = operate [o, i] (getItem o i))
    (ret : ∀ v r h' tk', K r → Rl S ks d (Tm.v S.ad v (.d r) T) fr σ h' → QQ v { s with heap := h', toks := tk' }) : wpAny (model PG S.w) A (subscriptTail value slice v (.int i t)) QQ E s := by
  obtain ⟨h0, h1, r, e, q⟩ := ixL_inv q
  cases L with | mk ev hl hvl R =>
  subst ev
  obtain ⟨v, hv, R'⟩ := dl_get R e
  exact tail_any hl.typeIs slot_list_getitem.lookup (wpAny_getItem_list hl h0 (Int.lt_trans h1 (by decide)) (by simpa using hv) (ret v r s.heap s.toks q R')) (hs _ _)
theorem seqIndex_nat {i : Int} {n : Nat} (h : 0 ≤ i) (k : i.toNat < n) : seqIndex? i n = some i.toNat := by
  have h2 : i < n := by omega
  unfold seqIndex?
  rw [if_neg (Int.not_lt.mpr h)]
  simp [h, h2]
theorem ixT_at {value slice : Expr} {ds : List PyData} {i : Int} {t : Tok} {v : Value} {K : PyData → Prop} (q : ixL ds i K) (L : TupAt S ks d T fr σ s.heap v ds) (hs : ∀ o i, subscripted slice false o i = operate [o, i] (getItem o i))
    (ret : ∀ v r h' tk', K r → Rl S ks d (Tm.v S.ad v (.d r) T) fr σ h' → QQ v { s with heap := h', toks := tk' }) : wpAny (model PG S.w) A (subscriptTail value slice v (.int i t)) QQ E s := by
  obtain ⟨h0, h1, r, e, q⟩ := ixL_inv q
  cases L with | mk ev hl hvl R =>
  subst ev
  obtain ⟨v, hv, R'⟩ := dl_get R e
  exact item_tupleT hl (Int.le_trans (by decide) h0) (Int.lt_trans h1 (by decide)) (seqIndex_nat h0 (List.getElem?_eq_some_iff.mp hv).1) hv (ret v r s.heap s.toks q R') (hs _ _)
/-- the pool, as it lies there -/
theorem pool_at {v : Value} {h : Heap} {x y : Int} (R : Rl S ks d (Tm.v S.ad v .pool T) fr σ h) (e : σ.g.pool = some (x, y)) : ∃ t u, v = .ref S.ad.lp ∧ h.IsList S.ad.lp #[.int x t, .int y u] := by
  cases R with | mk c m mg mh lh X G H F t =>
  cases G with | mk mp ms em PM SM =>
  rw [e] at PM
  subst em
  cases PM with | some oc od =>
  exact ⟨_, _, t.1, _, (X.own _ (List.mem_append_left _ (List.mem_append_left _ (.head _)))).1, oc, _, od⟩
theorem ixP_inv {i x y : Int} {K : PyData → Prop} (q : ixP i x y K) : i = 0 ∧ K (.int x) ∨ i = 1 ∧ K (.int y) := by
  cases i with
  | ofNat n => match n, q with
    | 0, q => exact .inl ⟨rfl, q⟩
    | 1, q => exact .inr ⟨rfl, q⟩
  | negSucc n => exact False.elim q
theorem pool_ix {value slice : Expr} {i x y : Int} {t : Tok} {v : Value} {K : PyData → Prop} (q : ixP i x y K) (R : Rl S ks d (Tm.v S.ad v .pool T) fr σ s.heap) (e : σ.g.pool = some (x, y)) (hs : ∀ o i, subscripted slice false o i = operate [o, i] (getItem o i))
    (ret : ∀ v r h' tk', K r → Rl S ks d (Tm.v S.ad v (.d r) T) fr σ h' → QQ v { s with heap := h', toks := tk' }) : wpAny (model PG S.w) A (subscriptTail value slice v (.int i t)) QQ E s := by
  obtain ⟨t1, t2, rfl, hl⟩ := pool_at R e
  rcases ixP_inv q with ⟨rfl, q⟩ | ⟨rfl, q⟩
  · exact tail_any hl.typeIs slot_list_getitem.lookup (wpAny_getItem_list hl (by decide) (by decide) rfl (ret _ _ s.heap s.toks q (R.drop.val fun c => .int _ _))) (hs _ _)
  · exact tail_any hl.typeIs slot_list_getitem.lookup (wpAny_getItem_list hl (by decide) (by decide) rfl (ret _ _ s.heap s.toks q (R.drop.val fun c => .int _ _))) (hs _ _)
theorem ix_sound {value slice : Expr} {a : AV} {i : Int} {t : Tok} {v : Value} {K : PyData → Prop} (q : ixA a σ i K) (R : Rl S ks d (Tm.v S.ad v a T) fr σ s.heap) (hs : ∀ o i, subscripted slice false o i = operate [o, i] (getItem o i))
    (ret : ∀ v r h' tk', K r → Rl S ks d (Tm.v S.ad v (.d r) T) fr σ h' → QQ v { s with heap := h', toks := tk' }) : wpAny (model PG S.w) A (subscriptTail value slice v (.int i t)) QQ E s := by
  cases a with
  | d p => cases p with
    | list ds => exact ixL_at q (list_at R) hs ret
    | tuple ds => exact ixT_at q (tup_at R) hs ret
    | str x =>
      obtain ⟨⟨h0, h1⟩, q⟩ := (show (0 ≤ i ∧ i < 1000000000) ∧ _ from q)
      obtain ⟨c, hc, q⟩ := need_inv q
      obtain ⟨_, _, rv⟩ := R.rd
      obtain ⟨u, rfl⟩ := rv.str_inv
      refine tail_any (typeIs_str s _ _) PySem.F.slot_str_getitem.lookup (P.getItem_str (c := c) (by simp; omega) ?_ (ret _ _ s.heap _ q (R.drop.val fun c => .str _ _))) (hs _ _)
      rw [seqIndex_nat h0 (show i.toNat < x.length from (Array.getElem?_eq_some_iff.mp hc).1)]
      exact hc
    | _ => exact False.elim q
  | held =>
    obtain ⟨_, ds, e, q⟩ := isHeld_inv (o := some .held) (K := fun ds => ixL ds i K) q
    exact ixL_at q (held_at R e) hs ret
  | pool =>
    obtain ⟨⟨pl, sr⟩, hd⟩ := σ
    cases pl with
    | some p => exact pool_ix (x := p.1) (y := p.2) q R rfl hs ret
    | none => exact False.elim q
  | src => exact False.elim q
theorem SE.ix {l i : Expr} {x y : X} {p : Pos} (h1 : SE S ks l x) (h2 : SE S ks i y) : SE S ks (.Subscript l i p) (.ix x y) := .plain fun {d env T fr σ A E s QQ Q} H hA R hx ret =>
  Subscript_ (h1.ev H hA R hx fun v a σ' h' tk' R' hx' => h2.ev H hA R' hx' fun v2 a2 σ'' h'' tk'' R'' q => by
    obtain ⟨i, rfl, q⟩ := isI_inv q
    obtain ⟨t, rfl⟩ := R''.int
    exact ix_sound q R''.drop h2.subs fun v r h' tk' z R3 => ret v _ σ'' h' tk' R3 z)
theorem held_reads {v : Value} {a : AV} {h : Heap} {ds : List PyData} (ha : a = .held) (R : Rl S ks d (Tm.v S.ad v a T) fr σ h) (e : σ.held = some ds) : ∃ as, Reads h v (.list ds) as := by
  subst ha
  cases R with | mk c m mg mh lh X G H F t =>
  rw [e] at H
  cases H with | @some o _ ws lo r =>
  obtain ⟨n, ho⟩ := id lo
  obtain ⟨as, ra⟩ := r.reads X.sub
  have hl := (X.own _ (List.mem_append_right _ (List.mem_append_left _ (.head _)))).1
  rw [show v = .ref lh from t.1]
  exact ⟨_, .list hl (by rw [ho]) (by rw [ho]) (by simpa using ra)⟩
theorem SE.hne {l : Expr} {x : X} {p lp : Pos} (h1 : SE S ks l x) : SE S ks (.Compare l [.NotEq] [.List [] lp] p) (.hne x) := by
  have core : ∀ {d : Dy} {env : Env} {T : Tm} {fr : Fr'} {σ : Sto} {A : Around} {E : Value → Shared → Prop} {s : Shared} {QQ : Value → Shared → Prop} {Q : AV → Sto → Prop}, EnvOk ks d env → Rm A S.k → Rl S ks d T fr σ s.heap → X.hne x fr σ Q →
      (∀ b σ' h' tk', Rl S ks d T fr σ' h' → Q (.d (.bool b)) σ' → QQ (.bool b) { s with heap := h', toks := tk' }) →
      wpAny (model PG S.w) A (eval l env) (fun a s₁ => wpAny (model PG S.w) A (eval (.List [] lp) env) (fun b s₂ => wpAny (model PG S.w) A (compareOp .NotEq a b) QQ E s₂) E s₁) E s :=
    fun {d env T fr σ A E s QQ Q} H hA R hx ret => h1.ev H hA R hx fun v a σ' h' tk' R' q => by
      obtain ⟨ha, ds, hds, hsh, q⟩ := isHeld_inv q
      obtain ⟨as, rl⟩ := held_reads (Option.some.inj ha) R' hds
      exact eq_nil (s := { s with heap := h', toks := tk' }) hsh hA rl (.inr ⟨rfl, fun h2 tk2 hk => ret _ _ _ _ (R'.drop.keeps hk) q⟩)
  exact .both (fun {d env T fr σ A E s QQ Q} H hA R hx ret => wpAny_Compare1 (core H hA R hx fun b σ' h' tk' R' q => ret _ _ _ _ _ (R'.val fun c => .bool _) q) rfl)
    fun {d env T fr σ A E s QQ Q} H hA R hx ret => wpAny_isTrue_Compare1 (core H hA R hx fun b σ' h' tk' R' q => wpAny_truthy_bool (ret _ _ _ _ R' q)) rfl
end
end Mine
/-! ## N6 -/
namespace Mine
open PySem PySem.W PySem.Calls PyProof.Rows
section
variable {S : Stat} {ks : List (Str × NameKind)} {d : Dy} {env : Env} {T : Tm} {fr : Fr'} {σ : Sto} {A : Around} {E : Value → Shared → Prop} {s : Shared} {QQ : Value → Shared → Prop}
theorem sc_sound {f : Addr} {as : List AV} {vs : List Value} {Q : AV → Sto → Prop} (hA : Rm A S.k) (R : Rl S ks d (Tm.l S.ad vs as T) fr σ s.heap) (C : callS S f as σ Q)
    (ret : ∀ v a σ' h' tk', Rl S ks d (Tm.v S.ad v a T) fr σ' h' → Q a σ' → QQ v { s with heap := h', toks := tk' }) : wpAny (model PG S.w) A (call (.ref f) vs) QQ E s := by
  have C := callS_inv C
  obtain ⟨C⟩ := C
  cases R with | mk c m mg mh lh Sx G Hh F t =>
  exact C A s c mg vs lh hA Sx.hp G t.1 QQ E fun v h' tk' c' mu' av g' O M' V z => ret v av { σ with g := g' } h' tk' ⟨c', m, mu', mh, lh, Sx.back O, M', Hh.mono O.grow, F.mono O.grow, V, T.mono O.grow t.2⟩ z
/-- a call's road to the function -/
theorem callWith_ {es : List Expr} {xs : XL} {pos : Pos} {f : Value} {first : List Value} {Q : List AV → Sto → Prop}
    (h : SEL S ks es xs) (H : EnvOk ks d env) (hA : Rm A S.k) (R : Rl S ks d T fr σ s.heap) (hk : keepIn S.K f = true) (hx : xs fr σ Q)
    (ret : ∀ vs as σ' h' tk', Rl S ks d (Tm.l S.ad vs as T) fr σ' h' → Q as σ' → wpAny (model PG S.w) A (call f (first ++ vs)) QQ E { s with heap := h', toks := tk' }) :
    wpAny (model PG S.w) A (callWith pos f first (backTo pos (starEach es env)) []) QQ E s := by
  cases es with
  | nil =>
    refine callWith_K0 R.K hk ?_
    obtain rfl := h.nil' rfl
    exact ret [] [] σ s.heap s.toks (R.imp fun c lh t => ⟨.nil, t⟩) hx
  | cons e r => exact callWith_K S.G.K hk (h.ev H hA R hx fun vs as σ' h' tk' R' q => ⟨Rl.K R', ret vs as σ' h' tk' R' q⟩) (h.head e r rfl env) (h.tail e r rfl pos env)
theorem callWith_b {es : List Expr} {xs : XL} {pos : Pos} {id : String} {Q : List AV → Sto → Prop}
    (h : SEL S ks es xs) (H : EnvOk ks d env) (hA : Rm A S.k) (R : Rl S ks d T fr σ s.heap) (hx : xs fr σ Q)
    (ret : ∀ vs as σ' h' tk', Rl S ks d (Tm.l S.ad vs as T) fr σ' h' → Q as σ' → wpAny (model PG S.w) A (call (.builtin id) vs) QQ E { s with heap := h', toks := tk' }) (hne : es ≠ []) :
    wpAny (model PG S.w) A (callWith pos (.builtin id) [] (backTo pos (starEach es env)) []) QQ E s := by
  cases es with
  | nil => exact absurd rfl hne
  | cons e r => exact PyProof.Rows.callWith_builtin1 (h.ev (pos := pos) H hA R hx ret) (h.head e r rfl env) (h.tail e r rfl pos env)
/-- a call of a built-in function by its name -/
theorem eval_call {x : Str} {es : List Expr} {xp pos : Pos} {Q : Value → Shared → Prop} (h : wpAny (model PG S.w) A (eval (.Name x xp) env) (fun f s₁ => wpAny (model PG S.w) A (callWith pos f [] (backTo pos (starEach es env)) []) Q E s₁) E s) :
    wpAny (model PG S.w) A (eval (.Call (.Name x xp) es [] pos) env) Q E s := by
  show wpAny _ _ (eval (.Name x xp) env >>= fun f => callWith pos f [] (backTo pos (starEach es env)) []) _ _ s
  exact wpAny_bind h
theorem SE.call (i j : Nat) {x : Str} {f : Addr} {es : List Expr} {xs : XL} {xp pos : Pos} (hi : ks[i]? = some (x, .globalImplicit)) (hj : gfun[j]? = some (x, f)) (h : SEL S ks es xs) :
    SE S ks (.Call (.Name x xp) es [] pos) (.call S f xs) := .plain fun {d env T fr σ A E s QQ Q} H hA R hx ret =>
  let ⟨e, hk⟩ := S.gf (List.mem_of_getElem? hj)
  eval_call (ev_glob H R hi e (callWith_ h H hA R hk hx fun vs as σ' h' tk' R' q => sc_sound hA R' q ret))
theorem lenA_sound {a : AV} {v : Value} {K : PyData → Prop} (q : lenA a σ fun n => grd (Nat.blt n 1000000000) (K (.int n))) (R : Rl S ks d (Tm.v S.ad v a T) fr σ s.heap)
    (ret : ∀ v r h' tk', K r → Rl S ks d (Tm.v S.ad v (.d r) T) fr σ h' → QQ v { s with heap := h', toks := tk' }) : wpAny (model PG S.w) A (call (.builtin "len") [v]) QQ E s := by
  have fin : ∀ {n : Nat}, Rl S ks d T fr σ s.heap → grd (Nat.blt n 1000000000) (K (.int n)) → ((n < 2 ^ 62) → QQ (.int n (s.toks + 1)) { s with toks := s.toks + 1 + 1 } → wpAny (model PG S.w) A (call (.builtin "len") [v]) QQ E s) → wpAny (model PG S.w) A (call (.builtin "len") [v]) QQ E s :=
    fun R0 h k => k (Nat.lt_trans (Nat.le_of_ble_eq_true (grd_inv h).1) (by decide)) (ret _ _ s.heap _ (grd_inv h).2 (R0.val fun c => .int _ _))
  have lst : ∀ {ds : List PyData}, ListAt S ks d T fr σ s.heap v ds → grd (Nat.blt ds.length 1000000000) (K (.int ds.length)) → wpAny (model PG S.w) A (call (.builtin "len") [v]) QQ E s := fun L h => by
    cases L with | mk ev hl hvl R0 =>
    subst ev
    exact fin (dl_nil R0) h fun hn q => call_len_list hl (by rw [List.size_toArray, hvl]; omega) (by rw [List.size_toArray, hvl]; exact q)
  cases a with
  | d p => cases p with
    | list ds => exact lst (list_at R) q
    | tuple ds =>
      cases tup_at R with | mk ev hl hvl R0 =>
      subst ev
      exact fin (dl_nil R0) q fun hn q => len_tuple hl (by rw [List.size_toArray, hvl]; omega) (by rw [List.size_toArray, hvl]; exact q)
    | str x =>
      obtain ⟨_, _, rv⟩ := R.rd
      obtain ⟨u, rfl⟩ := rv.str_inv
      exact fin R.drop q fun hn q => P.len_str (by omega) q
    | _ => exact False.elim q
  | held =>
    obtain ⟨_, ds, e, q⟩ := isHeld_inv (o := some .held) (K := fun ds => grd (Nat.blt ds.length 1000000000) (K (.int ds.length))) q
    exact lst (held_at R e) q
  | _ => exact False.elim q
theorem intsD_inv : ∀ {ds : List PyData} {K : List Int → Prop}, intsD ds K → ∃ l, ds = l.map .int ∧ K l
  | [], _, q => ⟨[], rfl, q⟩
  | p :: r, K, q => let ⟨i, e, q⟩ := onI_inv q; let ⟨l, e', q⟩ := intsD_inv q; ⟨i :: l, by rw [e, e', List.map_cons], q⟩
theorem ints_rd {c : CM} : ∀ {l : List Int} {vs : List Value}, RdL c vs (l.map .int) → IntsAre vs l
  | [], _, h => by cases h; exact .nil
  | i :: l, _, h => by
    cases h with | cons a r =>
    obtain ⟨t, rfl⟩ := a.int_inv
    exact .cons _ _ (ints_rd r)
theorem ints_get {vs : List Value} {l : List Int} (h : IntsAre vs l) : ∀ {i : Nat} {v : Value}, vs[i]? = some v → ∃ t, v = .int (l.getD i 0) t := by
  induction h with
  | nil => exact fun e => nomatch e
  | cons n t r ih =>
    intro i v e
    cases i with
    | zero => cases e; exact ⟨t, rfl⟩
    | succ i => rw [List.getElem?_cons_succ] at e; exact ih e
theorem sum_sound {v : Value} {l : List Int} (hA : A.handled = none) (L : ListAt S ks d T fr σ s.heap v (l.map .int))
    (ret : ∀ v h' tk', Rl S ks d (Tm.v S.ad v (.d (.int l.sum)) T) fr σ h' → QQ v { s with heap := h', toks := tk' }) : wpAny (model PG S.w) A (call (.builtin "sum") [v]) QQ E s := by
  cases L with | @mk a ws ev hla hvl R0 =>
  subst ev
  have hi : IntsAre ws l := by cases R0 with | mk c m mg mh lh X G H F t => exact ints_rd t.1
  have R0 := dl_nil R0
  have hlen := hi.length
  have ha : a < s.heap.objs.size := let ⟨_, h, _⟩ := hla; Heap.lt_size h
  have hne : a ≠ s.heap.objs.size := Nat.ne_of_lt ha
  refine call_sum_walkG (wpAny_pyIter_list hla ⟨s.heap.objs.size, _, _, _, _, _, fun i => l.getD i 0, rfl, Walks.list (A := A.in1) hA s.heap.objs.size a hne ws.toArray, ⟨⟨_, Heap.get?_push_size _ rfl, rfl, rfl⟩, hla.push _⟩, ?_, ?_, ?_⟩)
  · intro b hb
    show b < (s.heap.push _).objs.size
    rw [Heap.size_push]
    rcases List.mem_cons.mp hb with rfl | hb
    · exact Nat.lt_succ_self _
    · exact List.mem_singleton.mp hb ▸ Nat.lt_succ_of_lt ha
  · exact fun i v e => ints_get hi (by simpa using e)
  · intro h' tk t' hk
    rw [show preSum (fun i => l.getD i 0) ws.toArray.size = l.sum by rw [preSum_getD, List.size_toArray, hlen, List.take_of_length_le (Nat.le_refl _)]]
    exact ret _ h' tk ((R0.keeps fun b o e => hk b o (fun q => absurd (Heap.lt_size e) (List.mem_singleton.mp q ▸ Nat.lt_irrefl _)) (Heap.get?_push_of_some _ e)).val fun c => .int _ _)
theorem on1 {as : List AV} {vs : List Value} {K : AV → Prop} {t : List Value → Sem Value} (R : Rl S ks d (Tm.l S.ad vs as T) fr σ s.heap) (e : one as K) (k : ∀ v a, K a → Rl S ks d (Tm.v S.ad v a T) fr σ s.heap → wpAny (model PG S.w) A (t [v]) QQ E s) : wpAny (model PG S.w) A (t vs) QQ E s := by
  obtain ⟨a, rfl, e⟩ := one_inv e
  cases R with | mk c m mg mh lh X G H F tt =>
  obtain ⟨h1, h2⟩ := tt
  cases h1 with | cons hv r => cases r; exact k _ a e ⟨c, m, mg, mh, lh, X, G, H, F, hv, h2⟩
theorem on2 {as : List AV} {vs : List Value} {K : AV → AV → Prop} {t : List Value → Sem Value} (R : Rl S ks d (Tm.l S.ad vs as T) fr σ s.heap) (e : two as K) (k : ∀ v u a b, K a b → Rl S ks d (Tm.v S.ad u b (Tm.v S.ad v a T)) fr σ s.heap → wpAny (model PG S.w) A (t [v, u]) QQ E s) : wpAny (model PG S.w) A (t vs) QQ E s := by
  obtain ⟨a, b, rfl, e⟩ := two_inv e
  cases R with | mk c m mg mh lh X G H F tt =>
  obtain ⟨h1, h2⟩ := tt
  cases h1 with | cons hv r => cases r with | cons hu r => cases r; exact k _ _ a b e ⟨c, m, mg, mh, lh, X, G, H, F, hu, hv, h2⟩
theorem on_int {a : AV} {v : Value} {K : Int → Prop} {t : Value → Sem Value} (e : isI a K) (R : Rl S ks d (Tm.v S.ad v a T) fr σ s.heap) (k : ∀ i u, K i → Rl S ks d T fr σ s.heap → wpAny (model PG S.w) A (t (.int i u)) QQ E s) : wpAny (model PG S.w) A (t v) QQ E s := by
  obtain ⟨i, rfl, e⟩ := isI_inv e
  obtain ⟨u, rfl⟩ := R.int
  exact k i u e R.drop
theorem on_str {a : AV} {v : Value} {K : Str → Prop} {t : Value → Sem Value} (e : isD a fun p => onS p K) (R : Rl S ks d (Tm.v S.ad v a T) fr σ s.heap) (k : ∀ x u, K x → Rl S ks d T fr σ s.heap → wpAny (model PG S.w) A (t (.str x u)) QQ E s) : wpAny (model PG S.w) A (t v) QQ E s := by
  obtain ⟨p, rfl, e⟩ := isD_inv e
  obtain ⟨x, rfl, e⟩ := onS_inv e
  obtain ⟨_, _, rv⟩ := R.rd
  obtain ⟨u, rfl⟩ := rv.str_inv
  exact k x u e R.drop
theorem bi_sound {b : B} {as : List AV} {vs : List Value} {K : PyData → Prop} (hA : A.handled = none) (R : Rl S ks d (Tm.l S.ad vs as T) fr σ s.heap) (e : biD b as σ K)
    (ret : ∀ v r h' tk', K r → Rl S ks d (Tm.v S.ad v (.d r) T) fr σ h' → QQ v { s with heap := h', toks := tk' }) : wpAny (model PG S.w) A (call (.builtin (biId b)) vs) QQ E s := by
  cases b with
  | len => exact on1 (t := fun vs => call (.builtin "len") vs) R e fun v a e R => lenA_sound e R ret
  | abs => exact on1 (t := fun vs => call (.builtin "abs") vs) R e fun v a e R => on_int (t := fun v => call (.builtin "abs") [v]) e R fun i u e R => call_abs_int fun u tk => ret _ _ s.heap tk e (R.val fun c => .int _ _)
  | ord => exact on1 (t := fun vs => call (.builtin "ord") vs) R e fun v a e R => on_str (t := fun v => call (.builtin "ord") [v]) e R fun x u e R => ord_of_one e.1 (ret _ _ s.heap _ e.2 (R.val fun c => .int _ _))
  | min =>
    refine on2 (t := fun vs => call (.builtin "min") vs) R e fun v u a b e R => ?_
    obtain ⟨i, rfl, e0⟩ := isI_inv e
    obtain ⟨j, rfl, e1⟩ := isI_inv e0
    obtain ⟨⟨t1, rfl⟩, ⟨t2, rfl⟩, R0⟩ := R.ints
    exact min_two_ints hA fun h' tk hk => ret _ _ h' tk e1 ((R0.keeps hk).val fun c => by split <;> exact .int _ _)
  | sum =>
    refine on1 (t := fun vs => call (.builtin "sum") vs) R e fun v a e R => ?_
    obtain ⟨ds, rfl, e0⟩ := isL_inv e
    obtain ⟨l, rfl, e1⟩ := intsD_inv e0
    exact sum_sound hA (list_at R) fun v h' tk' R' => ret v _ h' tk' e1 R'
  | _ => exact False.elim e
theorem SE.bi (i j : Nat) {x : Str} {b : B} {es : List Expr} {xs : XL} {xp pos : Pos} (hi : ks[i]? = some (x, .globalImplicit)) (hj : gblt[j]? = some (x, b)) (h : SEL S ks es xs) (hne : es ≠ [] := by exact nofun) :
    SE S ks (.Call (.Name x xp) es [] pos) (.bi b xs) := .plain fun {d env T fr σ A E s QQ Q} H hA R hx ret =>
  let ⟨e, hv, hn⟩ := blt_ok _ (List.mem_of_getElem? hj)
  eval_call (ev_blt H R hi e hv hn (callWith_b h H hA R hx (fun vs as σ' h' tk' R' q => bi_sound hA.handled R' q fun v r h' tk' z R2 => ret v _ _ h' tk' R2 z) hne))
theorem g_blt : ∀ p ∈ ([("int", .type "int"), ("bool", .type "bool"), ("tuple", .type "tuple"), ("range", .type "range"), ("enumerate", .type "enumerate"), ("isinstance", .builtin "isinstance"), ("list", .type "list"), ("dict", .type "dict")] : List (Str × Value)), p.1 ∈ gnone ∧ bootBuiltins p.1 = some p.2 ∧ p.1 ≠ "__name__" := by decide +kernel
theorem ev_b (j : Nat) {x : Str} {p : Pos} {v : Value} {i : Nat} (H : EnvOk ks d env) (R : Rl S ks d T fr σ s.heap) (hx : ks[i]? = some (x, .globalImplicit))
    (hj : ([("int", .type "int"), ("bool", .type "bool"), ("tuple", .type "tuple"), ("range", .type "range"), ("enumerate", .type "enumerate"), ("isinstance", .builtin "isinstance"), ("list", .type "list"), ("dict", .type "dict")] : List (Str × Value))[j]? = some (x, v)) (h : QQ v s) : wpAny (model PG S.w) A (eval (.Name x p) env) QQ E s :=
  let ⟨a, b, c⟩ := g_blt _ (List.mem_of_getElem? hj); ev_blt H R hx a b c h
theorem SE.int_ (i : Nat) {e : Expr} {x : X} {xp pos : Pos} (hi : ks[i]? = some (("int" : Str), NameKind.globalImplicit)) (h : SE S ks e x) :
    SE S ks (.Call (.Name "int" xp) [e] [] pos) (.int_ x) := .plain fun {d env T fr σ A E s QQ Q} H hA R hx ret =>
  eval_call (ev_b 0 H R hi rfl (PyProof.Rows.callWith_type1 (spliced_more (h.ev H hA R hx fun v a σ' h' tk' R' q => spliced_none (by
    obtain ⟨b, rfl, q⟩ := isB_inv q
    obtain rfl := R'.bool
    exact call_int_bool (ret _ _ σ' h' _ (R'.drop.val fun c => .int _ _) q))) (h.star _ _)) (h.star _ _)))
/-- isinstance with a written type -/
theorem isi_road (i j n : Nat) {e : Expr} {x : X} {y : Str} {t : Value} {xp yp pos : Pos} {Q : AV → Sto → Prop} (hi : ks[i]? = some (("isinstance" : Str), NameKind.globalImplicit)) (hj : ks[j]? = some (y, NameKind.globalImplicit))
    (hn : ([("int", .type "int"), ("bool", .type "bool"), ("tuple", .type "tuple"), ("range", .type "range"), ("enumerate", .type "enumerate"), ("isinstance", .builtin "isinstance"), ("list", .type "list"), ("dict", .type "dict")] : List (Str × Value))[n]? = some (y, t)) (h : SE S ks e x)
    (H : EnvOk ks d env) (hA : Rm A S.k) (R : Rl S ks d T fr σ s.heap) (hx : x fr σ Q)
    (ret : ∀ v a σ' h' tk', Rl S ks d (Tm.v S.ad v a T) fr σ' h' → Q a σ' → wpAny (model PG S.w) A (call (.builtin "isinstance") [v, t]) QQ E { s with heap := h', toks := tk' }) :
    wpAny (model PG S.w) A (eval (.Call (.Name "isinstance" xp) [e, .Name y yp] [] pos) env) QQ E s :=
  eval_call (ev_b 5 H R hi rfl (PyProof.Rows.callWith_builtin1 (spliced_more (h.ev H hA R hx fun v a σ' h' tk' R' q => spliced_more (ev_b (s := { s with heap := h', toks := tk' }) n H R' hj hn (spliced_none (ret v a σ' h' tk' R' q)))) (h.star _ _)) (h.star _ _) rfl))
theorem kindB_inv {a : AV} {K : Bool → Prop} (h : kindB a K) : (∃ b, a = .d (.bool b)) ∧ K true ∨ (∃ i, a = .d (.int i)) ∧ K false := by
  cases a with
  | d p => cases p with
    | bool b => exact .inl ⟨⟨b, rfl⟩, h⟩
    | int i => exact .inr ⟨⟨i, rfl⟩, h⟩
    | _ => exact False.elim h
  | _ => exact False.elim h
theorem SE.isb (i j : Nat) {e : Expr} {x : X} {xp yp pos : Pos} (hi : ks[i]? = some (("isinstance" : Str), NameKind.globalImplicit)) (hj : ks[j]? = some (("bool" : Str), NameKind.globalImplicit)) (h : SE S ks e x) :
    SE S ks (.Call (.Name "isinstance" xp) [e, .Name "bool" yp] [] pos) (.isb x) := .plain fun {d env T fr σ A E s QQ Q} H hA R hx ret =>
  isi_road i j 1 hi hj rfl h H hA R hx fun v a σ' h' tk' R' q => by
    rcases kindB_inv q with ⟨⟨b, rfl⟩, q⟩ | ⟨⟨b, rfl⟩, q⟩
    · obtain rfl := R'.bool
      exact IsiPair.bool_bool (ret _ _ σ' h' _ (R'.drop.val fun c => .bool _) q)
    · obtain ⟨t, rfl⟩ := R'.int
      exact IsiPair.int_bool (ret _ _ σ' h' _ (R'.drop.val fun c => .bool _) q)
theorem SE.isi (i j : Nat) {e : Expr} {x : X} {xp yp pos : Pos} (hi : ks[i]? = some (("isinstance" : Str), NameKind.globalImplicit)) (hj : ks[j]? = some (("int" : Str), NameKind.globalImplicit)) (h : SE S ks e x) :
    SE S ks (.Call (.Name "isinstance" xp) [e, .Name "int" yp] [] pos) (.isi x) := .plain fun {d env T fr σ A E s QQ Q} H hA R hx ret =>
  isi_road i j 0 hi hj rfl h H hA R hx fun v a σ' h' tk' R' q => by
    obtain ⟨n, rfl, q⟩ := isI_inv q
    obtain ⟨t, rfl⟩ := R'.int
    exact IsiPair.int_int (ret _ _ σ' h' _ (R'.drop.val fun c => .bool _) q)
theorem SE.ist (i j : Nat) {e : Expr} {x : X} {xp yp pos : Pos} (hi : ks[i]? = some (("isinstance" : Str), NameKind.globalImplicit)) (hj : ks[j]? = some (("tuple" : Str), NameKind.globalImplicit)) (h : SE S ks e x) :
    SE S ks (.Call (.Name "isinstance" xp) [e, .Name "tuple" yp] [] pos) (.ist x) := .plain fun {d env T fr σ A E s QQ Q} H hA R hx ret =>
  isi_road i j 2 hi hj rfl h H hA R hx fun v a σ' h' tk' R' q => by
    obtain ⟨p, rfl, q⟩ := isD_inv q
    obtain ⟨ds, rfl, q⟩ := onT_inv q
    cases tup_at R' with | mk ev ht hl R0 =>
    subst ev
    obtain ⟨o, ho, hc, _⟩ := ht
    exact IsiPair.tuple_tuple (s := { s with heap := h', toks := tk' }) ho hc (ret _ _ σ' h' _ ((dl_nil R0).val fun c => .bool _) q)
end
end Mine
/-! ## N7 -/
namespace Mine
open PySem PySem.W PySem.Calls PyProof.Rows
theorem shaped_all (l : List Tk) : PyData.canLayAll0 (l.map tkd) = true ∧ PyData.depthAll (l.map tkd) ≤ 2 := by
  induction l with
  | nil => exact ⟨rfl, by decide⟩
  | cons t r ih => exact ⟨Bool.and_eq_true_iff.mpr ⟨rfl, ih.1⟩, Nat.max_le.mpr ⟨Nat.le_of_ble_eq_true rfl, ih.2⟩⟩
theorem shaped_tks (l : List Tk) : SeqAt.shaped (.list (l.map tkd)) = true := by
  obtain ⟨h1, h2⟩ := shaped_all l
  simp [SeqAt.shaped, PyData.canLay0, h1, PyData.depth]
  omega
theorem shaped_tks_rev (r : List Tk) : SeqAt.shaped (.list (r.map tkd).reverse) = true := by
  rw [← List.map_reverse]; exact shaped_tks _
section
variable {S : Stat} {ks : List (Str × NameKind)} {d : Dy} {env : Env} {T : Tm} {fr : Fr'} {σ : Sto} {A : Around} {E : Value → Shared → Prop} {s : Shared} {QQ : Value → Shared → Prop}
/-- the source, as it lies there -/
inductive SrcAt (S : Stat) (ks : List (Str × NameKind)) (d : Dy) (T : Tm) (fr : Fr') (σ : Sto) (h : Heap) (v : Value) (r : List Tk) (b : Int) : Prop
  | mk {t1 t2 t3 t4 t5 tb n o ws} : v = .ref S.ad.x → InstAt h S.ad.x (instObj 481 S.ad.dx) 481 (some (srcDict S.w S.ad b t1 t2 t3 t4 t5 tb n)) → h.get? S.ad.lr = some o → LObj o ws → Rl S ks d (Tm.dl ws (r.map tkd).reverse T) fr σ h → SrcAt S ks d T fr σ h v r b
theorem src_at {h : Heap} {v : Value} {r : List Tk} {b : Int} (R : Rl S ks d (Tm.v S.ad v .src T) fr σ h) (hs : σ.g.src = some (r, b)) : SrcAt S ks d T fr σ h v r b := by
  cases R with | mk c m mg mh lh X G H F t =>
  have G' := G
  cases G with | mk mp ms em PM SM =>
  rw [hs] at SM
  cases SM with | some a bb lo dd =>
  subst em
  exact ⟨t.1, ⟨X.sub _ _ a, rfl, rfl, (X.own _ (List.mem_append_left _ (List.mem_append_right _ (.head _)))).1⟩, (X.own _ (List.mem_append_left _ (List.mem_append_right _ (.tail _ (.head _))))).1, lo, c, m, _, mh, lh, X, G', H, F, dd, t.2⟩
/-- its table of inner quantities -/
inductive InnAt (S : Stat) (ks : List (Str × NameKind)) (d : Dy) (T : Tm) (fr : Fr') (σ : Sto) (h : Heap) : Prop
  | mk {v0 v1} : (S.ad.di == sysModules) = false → h.MapOf (intKind PG S.w) S.ad.di (fun k => if k = 0 then some v0 else if k = 1 then some v1 else none) →
    Rl S ks d (Tm.v S.ad v0 (.d (tk2 0 7)) T) fr σ h → Rl S ks d (Tm.v S.ad v1 (.d (tk2 1 300)) T) fr σ h → InnAt S ks d T fr σ h
theorem inn_at {h : Heap} {r : List Tk} {b : Int} (R : Rl S ks d T fr σ h) (hs : σ.g.src = some (r, b)) : InnAt S ks d T fr σ h := by
  cases R with | mk c m mg mh lh X G H F t =>
  have G' := G
  cases G with | mk mp ms em PM SM =>
  rw [hs] at SM
  cases SM with | some a bb lo dd =>
  cases bb with | mk hne hod r0 r1 hmap =>
  exact ⟨hne, hmap S.w h (X.sub _ _ hod), ⟨c, m, mg, mh, lh, X, G', H, F, r0, t⟩, ⟨c, m, mg, mh, lh, X, G', H, F, r1, t⟩⟩
noncomputable abbrev AttrOf (e : Expr) (nm : Str) (pos : Pos) : Prop := ∀ env, eval (.Attribute e nm pos) env = (do
      let o ← eval e env
      standAt pos.atName
      let r ← holding [o] (getAttr o nm true)
      letTemporaryGo e o r
      pure r)
noncomputable abbrev MethOf (o : Expr) (nm : Str) (es : List Expr) (apos pos : Pos) : Prop := ∀ env, eval (.Call (.Attribute o nm apos) es [] pos) env = (do
      let ov ← eval o env
      standAt apos.atName
      let (f, first) ← holding [ov] (getMethod ov nm (do return (← importBound o env).getD true))
      callWith pos f first (backTo pos (starEach es env)) (backToKw pos (keywordEach [] env)))
theorem get_rest {v : Value} {r : List Tk} {b : Int} (R : Rl S ks d (Tm.v S.ad v .src T) fr σ s.heap) (hs : σ.g.src = some (r, b)) (h : QQ (.ref S.ad.lr) { s with toks := s.toks + 1 }) : wpAny (model PG S.w) A (getAttr v "rest" true) QQ E s := by
  cases src_at R hs with | mk e I _ _ _ =>
  subst e
  exact let ⟨_, hF⟩ := R.frx; let z := S.at1 (n := "rest") (.head _); get_own (attr := none) hF S.G.K I z.1 S.set.2.2 z.2 rfl rfl rfl h
theorem get_inner {v : Value} {r : List Tk} {b : Int} (R : Rl S ks d (Tm.v S.ad v .src T) fr σ s.heap) (hs : σ.g.src = some (r, b)) (h : QQ (.ref S.ad.di) { s with toks := s.toks + 1 }) : wpAny (model PG S.w) A (getAttr v "inner" true) QQ E s := by
  cases src_at R hs with | mk e I _ _ _ =>
  subst e
  exact let ⟨_, hF⟩ := R.frx; let z := S.at1 (n := "inner") (.tail _ (.head _)); get_own (attr := none) hF S.G.K I z.1 S.set.2.2 z.2 rfl rfl rfl h
theorem SE.bal {e : Expr} {x : X} {pos : Pos} (h : SE S ks e x) (he : AttrOf e "balance" pos) : SE S ks (.Attribute e "balance" pos) (.bal x) := .plain fun {d env T fr σ A E s QQ Q} H hA R hx ret =>
  Attribute_any_ (h.ev H hA R hx fun v a σ' h' tk' R' q => by
    obtain ⟨rfl, r, b, hs, q1⟩ := isSrc_inv q
    cases src_at R' hs with | mk ev I _ _ _ =>
    subst ev
    exact let ⟨_, hF⟩ := R'.frx; let z := S.at1 (n := "balance") (.tail _ (.tail _ (.head _))); get_own (s := { s with heap := h', toks := tk' }) (attr := none) hF S.G.K I z.1 S.set.2.2 z.2 rfl rfl rfl (ret _ _ σ' h' _ (R'.drop.val fun c => .int _ _) q1)) (he env)
theorem getL_src {p : Str × Addr} (hp : p ∈ gmeth) {b : Int} {t1 t2 t3 t4 t5 tb : Nat} {hs : Str → Int} : getL p.1 [⟨hs "rest", .str "rest" t1, .ref S.ad.lr⟩, ⟨hs "inner", .str "inner" t2, .ref S.ad.di⟩, ⟨hs "names", .str "names" t3, .none⟩,
    ⟨hs "sizes", .str "sizes" t4, .ref S.ad.sz⟩, ⟨hs "balance", .str "balance" t5, .int b tb⟩] = some none := by
  simp only [gmeth, List.mem_cons, List.not_mem_nil, or_false] at hp
  rcases hp with rfl | rfl | rfl | rfl | rfl <;> rfl
theorem SE.meth (j : Nat) {o : Expr} {x : X} {name : Str} {f : Addr} {es : List Expr} {xs : XL} {apos pos : Pos} (hj : gmeth[j]? = some (name, f)) (ho : SE S ks o x) (h : SEL S ks es xs) (he : MethOf o name es apos pos) :
    SE S ks (.Call (.Attribute o name apos) es [] pos) (.meth S f x xs) := .plain fun {d env T fr σ A E s QQ Q} H hA R hx ret =>
  methodCall_KW (ho.ev H hA R hx fun v a σ' h' tk' R' q => by
    obtain ⟨rfl, r, b, hs, q1⟩ := isSrc_inv q
    cases src_at R' hs with | mk ev I _ _ _ =>
    subst ev
    have hm := List.mem_of_getElem? hj
    obtain ⟨hf, hfn, hpl, hk⟩ := S.gm hm
    exact let ⟨_, hF⟩ := R'.frx; method_inst (s := { s with heap := h', toks := tk' }) hF S.G.K I hpl hf hfn (getL_src hm) (callWith_ h H hA R' hk q1 fun vs as σ'' h'' tk'' R2 q2 =>
      sc_sound (vs := .ref S.ad.x :: vs) hA (R2.imp fun c lh t => ⟨.cons t.2.1 t.1, t.2.2⟩) q2 ret)) (he env)
noncomputable def X.restNil (x : X) : X := fun fr σ Q => x fr σ fun a σ => isSrc a σ fun r _ => Q (.d (.bool r.isEmpty)) σ
noncomputable def X.restRev (x : X) : X := fun fr σ Q => x fr σ fun a σ => isSrc a σ fun r _ => r.length ≤ 100000 ∧ Q (.d (.list (r.map tkd))) σ
noncomputable def X.inInner (c x : X) : X := fun fr σ Q => c fr σ fun a σ => x fr σ fun a' σ => isI a fun i => isSrc a' σ fun _ _ => Q (.d (.bool (decide (i = 0) || decide (i = 1)))) σ
noncomputable def X.innerGet (x v : X) : X := fun fr σ Q => x fr σ fun a' σ => isSrc a' σ fun _ _ => v fr σ fun a σ => isI a fun i => isSrc .src σ fun _ _ =>
  br (decide (i = 0)) (Q (.d (tk2 0 7)) σ) (br (decide (i = 1)) (Q (.d (tk2 1 300)) σ) (Q (.d .none) σ))
/-- a comparison, from what it does -/
theorem SE.cmpOf {l r : Expr} {o : CmpOp} {x : X} {pos : Pos} (mark : ∀ o, behindInMarks o r = false)
    (core : ∀ {d : Dy} {env : Env} {T : Tm} {fr : Fr'} {σ : Sto} {A : Around} {E : Value → Shared → Prop} {s : Shared} {QQ : Value → Shared → Prop} {Q : AV → Sto → Prop}, EnvOk ks d env → Rm A S.k → Rl S ks d T fr σ s.heap → x fr σ Q →
      (∀ b σ' h' tk', Rl S ks d T fr σ' h' → Q (.d (.bool b)) σ' → QQ (.bool b) { s with heap := h', toks := tk' }) →
      wpAny (model PG S.w) A (eval l env) (fun a s₁ => wpAny (model PG S.w) A (eval r env) (fun b s₂ => wpAny (model PG S.w) A (compareOp o a b) QQ E s₂) E s₁) E s) : SE S ks (.Compare l [o] [r] pos) x :=
  .both (fun {d env T fr σ A E s QQ Q} H hA R hx ret => wpAny_Compare1 (core H hA R hx fun b σ' h' tk' R' q => ret _ _ _ _ _ (R'.val fun c => .bool _) q) (mark _))
    fun {d env T fr σ A E s QQ Q} H hA R hx ret => wpAny_isTrue_Compare1 (core H hA R hx fun b σ' h' tk' R' q => wpAny_truthy_bool (ret _ _ _ _ R' q)) (mark _)
theorem SE.restNil {e : Expr} {x : X} {ap lp pos : Pos} (h1 : SE S ks e x) (he : AttrOf e "rest" ap) : SE S ks (.Compare (.Attribute e "rest" ap) [.Eq] [.List [] lp] pos) (.restNil x) :=
  .cmpOf (fun _ => rfl) fun {d env T fr σ A E s QQ Q} H hA R hx ret => Attribute_any_ (h1.ev H hA R hx fun v a σ' h' tk' R' q => by
    obtain ⟨rfl, r, b, hs, q1⟩ := isSrc_inv q
    refine get_rest (s := { s with heap := h', toks := tk' }) R' hs ?_
    cases src_at R' hs with | mk _ _ ho hlo R4 =>
    obtain ⟨n, hoe⟩ := hlo
    cases R4 with | mk c m mg mh lh X G H F t =>
    obtain ⟨as, ra⟩ := t.1.reads X.sub
    refine eq_nil (s := { s with heap := h', toks := tk' + 1 }) (shaped_tks_rev r) hA (.list ho (by rw [hoe]) (by rw [hoe]) (by simpa using ra)) (.inl ⟨rfl, fun h2 tk2 hk => ret _ _ _ _ (R'.drop.keeps hk) ?_⟩)
    rw [show (r.map tkd).reverse.isEmpty = r.isEmpty by cases r <;> simp]
    exact q1) (he env)
theorem SE.restRev {l : Expr} {x : X} {ap p sp p1 p2 : Pos} {k : Nat} (h1 : SE S ks l x) (he : AttrOf l "rest" ap) : SE S ks (.Subscript (.Attribute l "rest" ap) (.Slice none none (some (.UnaryOp .USub (.Constant (.int 1) k p1) p2)) sp) p) (.restRev x) := .plain fun {d env T fr σ A E s QQ Q} H hA R hx ret =>
  Subscript_ (Attribute_any_ (h1.ev H hA R hx fun v a σ' h' tk' R' q => by
    obtain ⟨rfl, r, b, hs, q1⟩ := isSrc_inv q
    refine get_rest (s := { s with heap := h', toks := tk' }) R' hs ?_
    cases src_at R' hs with | mk _ _ ho hlo R4 =>
    have L : ListAt S ks d T fr σ' h' (.ref S.ad.lr) (r.map tkd).reverse := ⟨rfl, hlo.at ho, by cases R4 with | mk c m mg mh lh X G H F t => exact t.1.length, R4⟩
    refine rev_core (s := { s with heap := h', toks := tk' + 1 }) H L (by simpa using q1.1) fun v h' tk' R5 => ret v _ σ' h' tk' R5 ?_
    rw [List.reverse_reverse]; exact q1.2) (he env))
theorem SE.inInner {c e : Expr} {y x : X} {ap pos : Pos} (h1 : SE S ks c y) (h2 : SE S ks e x) (he : AttrOf e "inner" ap) : SE S ks (.Compare c [.In] [.Attribute e "inner" ap] pos) (.inInner y x) :=
  .cmpOf (fun _ => rfl) fun {d env T fr σ A E s QQ Q} H hA R hx ret => h1.ev H hA R hx fun v a σ' h' tk' R' hx' => Attribute_any_ (h2.ev (s := { s with heap := h', toks := tk' }) H hA R' hx' fun v2 a2 σ2 h2 tk2 R2 q => by
    obtain ⟨i, rfl, q0⟩ := isI_inv q
    obtain ⟨rfl, r, b, hs, q1⟩ := isSrc_inv q0
    refine get_inner (s := { s with heap := h2, toks := tk2 }) R2 hs ?_
    obtain ⟨t, rfl⟩ := R2.drop.int
    cases inn_at R2 hs with | mk hne hm _ _ =>
    refine wpAny_in_of (s := { s with heap := h2, toks := tk2 + 1 }) (k := i) (intKind_is PG S.w i t) hne hm ?_
    rw [show (if i = 0 then some _ else if i = 1 then some _ else none : Option Value).isSome = (decide (i = 0) || decide (i = 1)) by by_cases h0 : i = 0 <;> by_cases h1 : i = 1 <;> simp [h0, h1]]
    exact ret _ σ2 h2 _ R2.drop.drop q1) (he env)
theorem SE.innerGet {e v : Expr} {x y : X} {ap mp pos : Pos} (h1 : SE S ks e x) (h2 : SE S ks v y) (he : AttrOf e "inner" ap) (hc : MethOf (.Attribute e "inner" ap) "get" [v] mp pos) :
    SE S ks (.Call (.Attribute (.Attribute e "inner" ap) "get" mp) [v] [] pos) (.innerGet x y) := .plain fun {d env T fr σ A E s QQ Q} H hA R hx ret =>
  methodCall_KW (Attribute_any_ (h1.ev H hA R hx fun u a σ' h' tk' R' q => by
    obtain ⟨rfl, r, b, hs, q1⟩ := isSrc_inv q
    refine get_inner (s := { s with heap := h', toks := tk' }) R' hs ?_
    cases inn_at R' hs with | mk hne hm _ _ =>
    refine getMethod_builtin (s := { s with heap := h', toks := tk' + 1 }) hm.typeIs PySem.F.plainAttrs_dict PySem.F.slot_dict_get PySem.F.type_dict_get hm.noDict ?_
    show wpAny _ _ (callWith pos (.builtin "dict.get") [.ref S.ad.di] (backTo pos (starEach [v] env)) []) _ _ _
    rw [h2.star]
    refine wpAny_dict_get1 (K := Int) (knd := intKind PG S.w) (x := eval v env) hne (h2.ev (s := { s with heap := h', toks := tk' + 1 }) H hA R' q1 fun v2 a2 σ2 h2 tk2 R2 q2 => ?_)
    obtain ⟨i, rfl, q3⟩ := isI_inv q2
    obtain ⟨_, r2, b2, hs2, q4⟩ := isSrc_inv q3
    obtain ⟨t, rfl⟩ := R2.int
    cases inn_at R2.drop.drop hs2 with | mk _ hm2 r0 r1 =>
    refine ⟨i, _, intKind_is PG S.w i t, hm2, ?_⟩
    by_cases h0 : i = 0
    · rw [if_pos h0]; rw [decide_eq_true h0] at q4; exact ret _ _ σ2 h2 _ r0 q4
    · rw [if_neg h0]; rw [decide_eq_false h0] at q4
      by_cases h1 : i = 1
      · rw [if_pos h1]; rw [decide_eq_true h1] at q4; exact ret _ _ σ2 h2 _ r1 q4
      · rw [if_neg h1]; rw [decide_eq_false h1] at q4; exact ret _ _ σ2 h2 _ (R2.drop.drop.val fun c => .none) q4) (he env)) (hc env)
end
end Mine
/-! ## N8 -/
namespace Mine
open PySem PySem.W PySem.Calls PyProof.Rows
section
variable {S : Stat} {ks : List (Str × NameKind)} {d : Dy} {T : Tm} {fr : Fr'} {σ : Sto} {h h' : Heap}
/-! ## mutable objects beside -/
theorem Rl.newEx {I : Addr} {o : Obj} (R : Rl S ks d T fr σ h) (hI : h'.get? I = some o) (hf : h.objs.size ≤ I) (hk : ∀ b o, h.get? b = some o → h'.get? b = some o) :
    Rl S ks { d with ex := (I, o) :: d.ex } T fr σ h' ∧ d.s₀.get? I = none := by
  cases R with | mk c m mg mh lh X G H F tt =>
  refine ⟨⟨c, m, mg, mh, lh, (X.pushMu hI hf hk).perm ?_, G, H, F, tt⟩, X.ofNone (get_none_of_size hf)⟩
  show List.Perm (mg ++ (mh ++ (I, o) :: d.ex)) ((I, o) :: (mg ++ (mh ++ d.ex)))
  rw [← List.append_assoc, ← List.append_assoc]
  exact List.perm_middle
theorem Rl.getExs {as ex : List (Addr × Obj)} (R : Rl S ks { d with ex := as ++ ex } T fr σ h) : ∀ p ∈ as, h.get? p.1 = some p.2 := by
  cases R with | mk c m mg mh lh X =>
  exact fun p hp => (X.own p (List.mem_append_right _ (List.mem_append_right _ (List.mem_append_left _ hp)))).1
theorem Rl.getEx {I : Addr} {o : Obj} {ex : List (Addr × Obj)} (R : Rl S ks { d with ex := (I, o) :: ex } T fr σ h) : h.get? I = some o := Rl.getExs (as := [(I, o)]) R _ (.head _)
theorem Rl.updEx {I : Addr} {o o' : Obj} {ex : List (Addr × Obj)} (R : Rl S ks { d with ex := (I, o) :: ex } T fr σ h) (hs : Heap.SameBut I h h') (hI : h'.get? I = some o') : Rl S ks { d with ex := (I, o') :: ex } T fr σ h' := by
  cases R with | mk c m mg mh lh X G H F tt =>
  refine ⟨c, m, mg, mh, lh, ?_, G, H, F, tt⟩
  rw [← List.append_assoc] at X ⊢
  exact X.upd hs hI
theorem Rl.dropEx {I : Addr} {o : Obj} {ex : List (Addr × Obj)} (R : Rl S ks { d with ex := (I, o) :: ex } T fr σ h) : Rl S ks { d with ex := ex } T fr σ h := by
  cases R with | mk c m mg mh lh X G H F tt =>
  exact ⟨c, m, mg, mh, lh, X.less (List.Sublist.append_left (List.Sublist.append_left (List.sublist_cons_self _ _) _) _), G, H, F, tt⟩
theorem Sx.ends {hb s₀ : Heap} {c₀ c : CM} {mod : List Addr} {L : Addr} {m : Str → Option Value} {mu as : List (Addr × Obj)} (X : Sx hb s₀ c₀ mod c L m (mu ++ as) h) (hn : ∀ p ∈ as, s₀.get? p.1 = none) (he : ∀ b o, b ∉ as.map (·.1) → h.get? b = some o → h'.get? b = some o) : Sx hb s₀ c₀ mod c L m mu h' := by
  have own : ∀ b ∈ as.map (·.1), c b = none ∧ b ≠ L ∧ s₀.get? b = none := fun b hb => by
    obtain ⟨p, hp, rfl⟩ := List.mem_map.mp hb
    have q := X.own p (List.mem_append_right _ hp)
    exact ⟨q.2.2.1, q.2.1, hn p hp⟩
  have nd := X.nd
  rw [List.map_append, List.nodup_append] at nd
  have X2 := X.less (mu' := mu) (List.sublist_append_left _ _)
  obtain ⟨oL, es, ep, hL, hr⟩ := X2.ns
  exact ⟨⟨oL, es, ep, he _ _ (fun q => (own _ q).2.1 rfl) hL, hr⟩, X2.base, X2.grow, fun b o e => he _ _ (fun q => nomatch (own _ q).1.symm.trans e) (X2.sub _ _ e), X2.new,
    fun b o e k => he _ _ (fun q => nomatch (own _ q).2.2.symm.trans e) (X2.kept _ _ e k), X2.noL, fun p hp => ⟨he _ _ (fun q => nd.2.2 p.1 (List.mem_map_of_mem hp) _ q rfl) (X2.own p hp).1, (X2.own p hp).2⟩, X2.nd, X2.sizeb, X2.sizeL,
    fun b o e => let ⟨o', z⟩ := X2.alive _ _ e; ⟨o', he _ _ (fun q => nomatch (own _ q).2.2.symm.trans e) z⟩⟩
theorem Rl.endExs {as ex : List (Addr × Obj)} (R : Rl S ks { d with ex := as ++ ex } T fr σ h) (hn : ∀ p ∈ as, d.s₀.get? p.1 = none) (he : ∀ b o, b ∉ as.map (·.1) → h.get? b = some o → h'.get? b = some o) : Rl S ks { d with ex := ex } T fr σ h' := by
  cases R with | mk c m mg mh lh X G H F tt =>
  exact ⟨c, m, mg, mh, lh, (X.perm (by rw [List.append_assoc, List.append_assoc]; exact (List.perm_append_comm.append_left _).append_left _)).ends hn he, G, H, F, tt⟩
theorem Rl.endEx {I : Addr} {o : Obj} {ex : List (Addr × Obj)} (R : Rl S ks { d with ex := (I, o) :: ex } T fr σ h) (hn : d.s₀.get? I = none) (he : Heap.ExtBut I h h') : Rl S ks { d with ex := ex } T fr σ h' :=
  Rl.endExs (as := [(I, o)]) R (fun p hp => List.mem_singleton.mp hp ▸ hn) fun b o hb => he b o fun q => hb (q ▸ .head _)
end
theorem EnvOk.ex {ks : List (Str × NameKind)} {d : Dy} {env : Env} (H : EnvOk ks d env) (ex : List (Addr × Obj)) : EnvOk ks { d with ex := ex } env := ⟨H.kind, H.names, H.loc, H.glob, H.blt, H.cells, H.nd, H.dbg⟩
noncomputable def Tm.Free (T : Tm) : Prop := ∀ c lh lh', T.on c lh → T.on c lh'
/-- what a statement does -/
noncomputable def Ex (S : Stat) (ks : List (Str × NameKind)) (run : Env → Sem Flow) (x : SX) : Prop :=
  ∀ {d env T fr σ A E s} {QQ : Flow → Shared → Prop} {N : Fr' → Sto → Prop} {Rt : AV → Fr' → Sto → Prop}, EnvOk ks d env → Rm A S.k → T.Free → Rl S ks d T fr σ s.heap → x fr σ N Rt →
    (∀ fr' σ' h' tk', Rl S ks d T fr' σ' h' → N fr' σ' → QQ .next { s with heap := h', toks := tk' }) →
    (∀ v a fr' σ' h' tk', Rl S ks d (Tm.v S.ad v a T) fr' σ' h' → Rt a fr' σ' → QQ (.ret v) { s with heap := h', toks := tk' }) → wpAny (model PG S.w) A (run env) QQ E s
structure SS (S : Stat) (ks : List (Str × NameKind)) (st : Stmt) (x : SX) : Prop where
  ex : Ex S ks (exec st) x
structure SSL (S : Stat) (ks : List (Str × NameKind)) (sts : List Stmt) (x : SL) : Prop where
  ex : Ex S ks (execs sts) x
/-! ## statements, as they compute -/
noncomputable def setP : Fr' → List Nat → List PyData → Fr'
  | fr, i :: is, d :: ds => setP (fr.set i (some (.d d))) is ds
  | fr, _, _ => fr
noncomputable def forGo (turn : PyData → Fr' → Sto → (Fr' → Sto → Prop) → Prop) (fin : Fr' → Sto → Prop) : List PyData → Fr' → Sto → Prop
  | [], fr, σ => fin fr σ
  | d :: r, fr, σ => turn d fr σ fun fr' σ' => forGo turn fin r fr' σ'
noncomputable def noHeld : Fr' → Bool
  | [] => true
  | some .held :: _ => false
  | _ :: r => noHeld r
noncomputable def newH (fr : Fr') (σ : Sto) (K : Sto → Prop) : Prop := match σ with | ⟨g, none⟩ => grd (noHeld fr) (K ⟨g, some []⟩) | _ => False
noncomputable def addH (d : PyData) (σ : Sto) (K : Sto → Prop) : Prop := match σ with | ⟨g, some ds⟩ => ds.length ≤ 100000 ∧ K ⟨g, some (ds ++ [d])⟩ | _ => False
noncomputable def putP (o : Option AV) (j : Nat) (z : Int) (σ : Sto) (K : Sto → Prop) : Prop := match o with
  | some .pool => (match σ with
    | ⟨⟨some (p, q), s⟩, h⟩ => (match j with | 0 => K ⟨⟨some (z, q), s⟩, h⟩ | 1 => K ⟨⟨some (p, z), s⟩, h⟩ | _ => False)
    | _ => False)
  | _ => False
noncomputable def popS (a : AV) (σ : Sto) (K : Tk → Sto → Prop) : Prop := match a with
  | .src => (match σ with | ⟨⟨p, some (t :: r, b)⟩, h⟩ => r.length ≤ 100000 ∧ K t ⟨⟨p, some (r, b)⟩, h⟩ | _ => False)
  | _ => False
noncomputable def pushS (a : AV) (σ : Sto) (K : Sto → Prop) : Prop := match σ with | ⟨⟨p, some (r, b)⟩, h⟩ => ∃ t, a = .d (tkd t) ∧ r.length ≤ 100000 ∧ K ⟨⟨p, some (t :: r, b)⟩, h⟩ | _ => False
noncomputable def balS (a : AV) (z : Int) (σ : Sto) (K : Sto → Prop) : Prop := match a with
  | .src => (match σ with | ⟨⟨p, some (r, _)⟩, h⟩ => K ⟨⟨p, some (r, z)⟩, h⟩ | _ => False)
  | _ => False
noncomputable def noneP (a : AV) (P : Prop) : Prop := match a with | .d .none => P | _ => False
noncomputable def SX.asg (i : Nat) (x : X) : SX := fun fr σ N _ => x fr σ fun a σ => N (fr.set i (some a)) σ
noncomputable def SX.asgP (is : List Nat) (x : X) : SX := fun fr σ N _ => x fr σ fun a σ => isD a fun p => onT p fun ds => grd (Nat.beq ds.length is.length) (N (setP fr is ds) σ)
noncomputable def SX.asgS (is : List Nat) (x : X) : SX := fun fr σ N _ => x fr σ fun a σ => isD a fun p => onT p fun ds => grd (Nat.beq ds.length is.length) (N (setP fr is.reverse ds.reverse) σ)
noncomputable def SX.newHeld (i : Nat) : SX := fun fr σ N _ => newH fr σ fun σ => N (fr.set i (some .held)) σ
noncomputable def SX.app (i : Nat) (x : X) : SX := fun fr σ N _ => isHeld (nth fr i) σ fun _ => x fr σ fun a σ => isD a fun d => addH d σ fun σ => N fr σ
noncomputable def SX.setIx (i j : Nat) (x : X) : SX := fun fr σ N _ => x fr σ fun a σ => isI a fun z => putP (nth fr i) j z σ fun σ => N fr σ
noncomputable def SX.popTok (i : Nat) (x : X) : SX := fun fr σ N _ => x fr σ fun a σ => popS a σ fun t σ => N (fr.set i (some (.d (tkd t)))) σ
noncomputable def SX.appRest (x y : X) : SX := fun fr σ N _ => x fr σ fun a σ => isSrc a σ fun _ _ => y fr σ fun a σ => pushS a σ fun σ => N fr σ
noncomputable def SX.setBal (x y : X) : SX := fun fr σ N _ => y fr σ fun a σ => x fr σ fun a' σ => isI a fun z => balS a' z σ fun σ => N fr σ
noncomputable def SX.ex (x : X) : SX := fun fr σ N _ => x fr σ fun a σ => noneP a (N fr σ)
inductive SX.ifs (c : X) (t e : SL) (fr : Fr') (σ : Sto) (N : Fr' → Sto → Prop) (R : AV → Fr' → Sto → Prop) : Prop
  | mk : (c fr σ fun a σ => isB a fun b => br b (t fr σ N R) (e fr σ N R)) → SX.ifs c t e fr σ N R
noncomputable def SX.ret (x : X) : SX := fun fr σ _ R => x fr σ fun a σ => R a fr σ
noncomputable def SX.pass : SX := fun fr σ N _ => N fr σ
noncomputable def SX.stuck : SX := fun _ _ _ _ => False
inductive SX.whl (c : X) (b : SL) (fr : Fr') (σ : Sto) (N : Fr' → Sto → Prop) (R : AV → Fr' → Sto → Prop) : Prop
  | mk (I : Nat → Fr' → Sto → Prop) (n : Nat) : I n fr σ → (∀ n fr σ, I n fr σ → c fr σ fun a σ => isB a fun r => br r (b fr σ (fun fr σ => ∃ m, m < n ∧ I m fr σ) R) (N fr σ)) → SX.whl c b fr σ N R
noncomputable def SX.forL (i : Nat) (x : X) (b : SL) : SX := fun fr σ N R => x fr σ fun a σ => isL a fun ds => forGo (fun d fr σ K => b (fr.set i (some (.d d))) σ K R) N ds fr σ
noncomputable def SX.forR (i : Nat) (x : X) (b : SL) : SX := fun fr σ N R => x fr σ fun a σ => isI a fun k => ∃ n : Nat, k = n ∧ n < 1000000000 ∧ forGo (fun d fr σ K => b (fr.set i (some (.d d))) σ K R) N ((List.range n).map fun (j : Nat) => PyData.int (Int.ofNat j)) fr σ
/-! ## and sound -/
section
variable {S : Stat} {ks : List (Str × NameKind)}
theorem SSL.nil : SSL S ks [] .nil := ⟨fun {d env T fr σ A E s QQ N Rt} H hA hT R hx n r => wpAny_execs_nil (n fr σ s.heap s.toks R hx)⟩
theorem SSL.cons {st : Stmt} {sts : List Stmt} {x : SX} {xs : SL} (h : SS S ks st x) (r : SSL S ks sts xs) : SSL S ks (st :: sts) (.cons x xs) := ⟨fun {d env T fr σ A E s QQ N Rt} H hA hT R hx n rt =>
  wpAny_execs_cons (h.ex H hA hT R hx (fun fr' σ' h' tk' R' q => r.ex H hA hT R' q n rt) rt)⟩
theorem nodup_idx {i j : Nat} {x : Str} {k k' : NameKind} (nd : (ks.map (·.1)).Nodup) (hi : ks[i]? = some (x, k)) (hj : ks[j]? = some (x, k')) : i = j := by
  have h : ∀ {i : Nat} {k : NameKind}, ks[i]? = some (x, k) → (ks.map (·.1))[i]? = some x := fun e => by rw [List.getElem?_map, e]; rfl
  exact (List.getElem?_inj (List.getElem?_eq_some_iff.mp (h hi)).1 nd).mp ((h hi).trans (h hj).symm)
theorem FrR.set {ad : Ad} {lh : Addr} {c : CM} {cl : List (Str × Addr)} {fr : Fr'} {m m' : Str → Option Value} {i : Nat} {x : Str} {v : Value} {a : AV} (nd : (ks.map (·.1)).Nodup) (hi : ks[i]? = some (x, .local)) (F : FrR ad lh c ks cl fr m) (hx : m' x = some v) (hy : ∀ y, y ≠ x → m' y = m y) (t : VR ad lh c v a) :
    FrR ad lh c ks cl (fr.set i (some a)) m' := fun j y k av hj hf => by
  by_cases hij : i = j
  · subst hij
    rw [hi] at hj
    cases hj
    rw [List.getElem?_set_self (by simpa using (List.getElem?_eq_some_iff.mp hf).1)] at hf
    cases hf
    exact .loc hx t
  · rw [List.getElem?_set_ne hij] at hf
    cases F j y k av hj hf with
    | loc h1 h2 => exact .loc ((hy y fun q => hij (nodup_idx nd (q ▸ hi) hj)).trans h1) h2
    | cel h1 h2 h3 h4 => exact .cel h1 h2 h3 h4
theorem st_sound {d : Dy} {env : Env} {T : Tm} {fr : Fr'} {σ : Sto} {A : Around} {E : Value → Shared → Prop} {s : Shared} {QQ : Unit → Shared → Prop} {i : Nat} {x : Str} {v : Value} {a : AV}
    (H : EnvOk ks d env) (hi : ks[i]? = some (x, .local)) (R : Rl S ks d (Tm.v S.ad v a T) fr σ s.heap)
    (ret : ∀ h' tk', Rl S ks d T (fr.set i (some a)) σ h' → QQ () { s with heap := h', toks := tk' }) : wpAny (model PG S.w) A (storeName env x v) QQ E s := by
  cases R with | mk c m mg mh lh X G Hh F t =>
  refine wpAny_storeName_local (H.kindOf hi) (H.loc ▸ X.ns) (fun h' hn hs => ?_) (by rw [H.kind]; rfl)
  rw [H.loc] at hn hs
  exact ret h' _ ⟨c, _, mg, mh, lh, X.set hn hs, G, Hh, F.set H.nd hi (if_pos rfl) (fun y hy => if_neg hy) t.1, t.2⟩
theorem SS.asg (i : Nat) {n : Str} {np pos : Pos} {e : Expr} {x : X} (hi : ks[i]? = some (n, .local)) (h : SE S ks e x) (hs : ∀ l env, swapsWith e (some (.Name n np)) l env = pure false := by intro _ _; rfl) :
    SS S ks (.Assign [.Name n np] e pos) (.asg i x) := ⟨fun {d env T fr σ A E s QQ N Rt} H hA hT R hx nx r =>
  wpAny_Assign_Name (h.ev H hA R hx fun v a σ' h' tk' R' q => st_sound H hi R' fun h' tk' R2 => nx _ _ _ _ R2 q) (hs _ _)⟩
theorem SS.ret {pos : Pos} {e : Expr} {x : X} (h : SE S ks e x) : SS S ks (.Return (some e) pos) (.ret x) := ⟨fun {d env T fr σ A E s QQ N Rt} H hA hT R hx nx r =>
  wpAny_Return_some (h.ev H hA R hx fun v a σ' h' tk' R' q => r _ _ _ _ _ _ R' q)⟩
theorem SS.pass {pos : Pos} : SS S ks (.Pass pos) .pass := ⟨fun {d env T fr σ A E s QQ N Rt} H hA hT R hx nx r => wpAny_Pass (nx fr σ s.heap s.toks R hx)⟩
theorem SS.stuck {st : Stmt} : SS S ks st .stuck := ⟨fun H hA hT R hx nx r => False.elim hx⟩
theorem noneP_inv {a : AV} {P : Prop} (h : noneP a P) : a = .d .none ∧ P := by
  cases a with
  | d p => cases p with
    | none => exact ⟨rfl, h⟩
    | _ => exact False.elim h
  | _ => exact False.elim h
theorem SS.exp {pos : Pos} {e : Expr} {x : X} (h : SE S ks e x) (hs : ∀ l env, swapsWith e none l env = pure false := by intro _ _; rfl) : SS S ks (.Expr e pos) (.ex x) := ⟨fun {d env T fr σ A E s QQ N Rt} H hA hT R hx nx r =>
  wpAny_Expr (h.ev H hA R hx fun v a σ' h' tk' R' q => by
    obtain ⟨rfl, q⟩ := noneP_inv q
    obtain rfl := R'.nul
    exact nx _ _ _ _ R'.drop q) (by unfold interactive; rw [H.kind]; rfl) (hs _ _)⟩
theorem SS.ifs {pos : Pos} {e : Expr} {x : X} {b o : List Stmt} {t f : SL} (h : SE S ks e x) (hb : SSL S ks b t) (ho : SSL S ks o f) : SS S ks (.If e b o pos) (.ifs x t f) := ⟨fun {d env T fr σ A E s QQ N Rt} H hA hT R hx nx r =>
  wpAny_If (h.tr H hA R (Q := fun b σ => br b (t fr σ N Rt) (f fr σ N Rt)) (by obtain ⟨h⟩ := hx; exact h) fun c σ' h' tk' R' q => match c, q with
    | true, q => hb.ex H hA hT R' q nx r
    | false, q => ho.ex H hA hT R' q nx r)⟩
theorem SS.whl {pos : Pos} {e : Expr} {x : X} {b : List Stmt} {t : SL} (h : SE S ks e x) (hb : SSL S ks b t) : SS S ks (.While e b [] pos) (.whl x t) := ⟨fun {d env T fr σ A E s QQ N Rt} H hA hT R hx nx r => by
  obtain ⟨I, n, h0, step⟩ := hx
  refine wpAny_While (codeAny_whileLoop (fun j s' => ∃ fr' σ' h' tk', s' = { s with heap := h', toks := tk' } ∧ Rl S ks d T fr' σ' h' ∧ I j fr' σ') ?_ n ⟨fr, σ, s.heap, s.toks, rfl, R, h0⟩)
  rintro j s' ⟨fr', σ', h', tk', rfl, R', hw⟩
  refine h.tr H hA R' (Q := fun r σ => br r (t fr' σ (fun fr σ => ∃ m, m < j ∧ I m fr σ) Rt) (N fr' σ)) (step j fr' σ' hw) fun c σ2 h2 tk2 R2 q => ?_
  cases c with
  | true => exact hb.ex H hA hT R2 q (fun fr3 σ3 h3 tk3 R3 ⟨m, hm, q⟩ => ⟨m, hm, fr3, σ3, h3, tk3, rfl, R3, q⟩) r
  | false => exact wpAny_execs_nil (nx _ _ _ _ R2 q)⟩
end
end Mine
/-! ## N9 -/
namespace Mine
open PySem PySem.W PySem.Calls PyProof.Rows
inductive NmL (ks : List (Str × NameKind)) : List Nat → List Str → Prop
  | nil : NmL ks [] []
  | cons {i : Nat} {x : Str} {is : List Nat} {xs : List Str} : ks[i]? = some (x, .local) → NmL ks is xs → NmL ks (i :: is) (x :: xs)
section
variable {S : Stat} {ks : List (Str × NameKind)} {env : Env}
theorem NmL.snoc {i : Nat} {x : Str} (h : ks[i]? = some (x, .local)) {is : List Nat} {xs : List Str} (n : NmL ks is xs) : NmL ks (is ++ [i]) (xs ++ [x]) := by
  induction n with
  | nil => exact .cons h .nil
  | cons a _ ih => exact .cons a ih
theorem NmL.reverse {is : List Nat} {xs : List Str} (n : NmL ks is xs) : NmL ks is.reverse xs.reverse := by
  induction n with
  | nil => exact .nil
  | cons a _ ih => rw [List.reverse_cons, List.reverse_cons]; exact ih.snoc a
theorem NmL.len {is : List Nat} {xs : List Str} (n : NmL ks is xs) : xs.length = is.length := by
  induction n with
  | nil => rfl
  | cons _ _ ih => exact congrArg (· + 1) ih
theorem NmL.kinds {d : Dy} (H : EnvOk ks d env) {is : List Nat} {xs : List Str} (n : NmL ks is xs) : ∀ x ∈ xs, env.kindOf x = some .local := by
  induction n with
  | nil => exact fun _ h => nomatch h
  | cons a _ ih => exact List.forall_mem_cons.mpr ⟨H.kindOf a, ih⟩
/-- what stores by name, one after another -/
inductive NmT (ks : List (Str × NameKind)) (env : Env) : List Nat → List (Value → Sem Unit) → Prop
  | nil : NmT ks env [] []
  | cons {i : Nat} {x : Str} {is : List Nat} {t : Value → Sem Unit} {ts : List (Value → Sem Unit)} : ks[i]? = some (x, .local) →
      (∀ (M : Model) (A : Around) (E : Value → Shared → Prop) (s : Shared) (QQ : Unit → Shared → Prop) (v : Value), wpAny M A (storeName env x v) QQ E s → wpAny M A (t v) QQ E s) → NmT ks env is ts → NmT ks env (i :: is) (t :: ts)
theorem NmL.t {is : List Nat} {xs : List Str} (n : NmL ks is xs) : NmT ks env is (xs.map fun n => bindName env n) := by
  induction n with
  | nil => exact .nil
  | cons a _ ih => exact .cons a (fun _ _ _ _ _ _ h => bindName_ h) ih
inductive NmE (ks : List (Str × NameKind)) : List Nat → List Expr → Prop
  | nil : NmE ks [] []
  | cons {i : Nat} {x : Str} {p : Pos} {is : List Nat} {es : List Expr} : ks[i]? = some (x, .local) → NmE ks is es → NmE ks (i :: is) (.Name x p :: es)
theorem NmE.t {is : List Nat} {es : List Expr} (n : NmE ks is es) : NmT ks env is ((assignEach es env).map (·.2)) := by
  induction n with
  | nil => exact .nil
  | cons a _ ih => exact .cons a (fun _ _ _ _ _ _ h => wpAny_assign_Name h) ih
theorem NmE.len {is : List Nat} {es : List Expr} (n : NmE ks is es) : (assignEach es env).length = is.length := by
  induction n with
  | nil => rfl
  | cons _ _ ih => exact congrArg (· + 1) ih
theorem NmE.star {is : List Nat} {es : List Expr} (n : NmE ks is es) : (assignEach es env).findIdx? (·.1) = none := by
  rw [List.findIdx?_eq_none_iff]
  induction n with
  | nil => exact fun _ h => nomatch h
  | cons a _ ih => exact List.forall_mem_cons.mpr ⟨rfl, ih⟩
theorem dl_cons {d : Dy} {v : Value} {vs : List Value} {x : PyData} {ds : List PyData} {T : Tm} {fr : Fr'} {σ : Sto} {h : Heap} (R : Rl S ks d (Tm.dl (v :: vs) (x :: ds) T) fr σ h) : Rl S ks d (Tm.v S.ad v (.d x) (Tm.dl vs ds T)) fr σ h :=
  R.imp fun c lh t => by
    obtain ⟨h1, h2⟩ := t
    cases h1 with | cons a b => exact ⟨a, b, h2⟩
theorem dl_len {d : Dy} {vs : List Value} {ds : List PyData} {T : Tm} {fr : Fr'} {σ : Sto} {h : Heap} (R : Rl S ks d (Tm.dl vs ds T) fr σ h) : vs.length = ds.length := by
  cases R with | mk c m mg mh lh X G H F t => exact t.1.length
theorem stores {d : Dy} {T : Tm} {σ : Sto} {A : Around} {E : Value → Shared → Prop} {QQ : Unit → Shared → Prop} (H : EnvOk ks d env) {is : List Nat} {ts : List (Value → Sem Unit)} (n : NmT ks env is ts) :
    ∀ {vs : List Value} {ds : List PyData} {fr : Fr'} {s : Shared}, ds.length = is.length → Rl S ks d (Tm.dl vs ds T) fr σ s.heap →
      (∀ h' tk', Rl S ks d T (setP fr is ds) σ h' → QQ () { s with heap := h', toks := tk' }) → wpAny (model PG S.w) A (assignInOrder ts vs) QQ E s := by
  induction n with
  | nil =>
    intro vs ds fr s hd R ret
    obtain rfl := List.length_eq_zero_iff.mp hd
    obtain rfl := List.length_eq_zero_iff.mp (dl_len R)
    exact assignInOrder_nil (ret s.heap s.toks (dl_nil R))
  | cons hi ht r ih =>
    intro vs ds fr s hd R ret
    obtain ⟨x, ds, rfl⟩ := List.exists_cons_of_length_eq_add_one hd
    obtain ⟨v, vs, rfl⟩ := List.exists_cons_of_length_eq_add_one (dl_len R)
    exact assignInOrder_cons (ht _ _ _ _ _ _ (st_sound H hi (dl_cons R) fun h' tk' R' => ih (Nat.succ.inj hd) R' ret))
/-- a tuple's parts, for targets -/
theorem tupP {d : Dy} {T : Tm} {fr : Fr'} {σ : Sto} {h : Heap} {a : AV} {v : Value} {n : Nat} {K : List PyData → Prop} (q : isD a fun p => onT p fun ds => grd (Nat.beq ds.length n) (K ds)) (R : Rl S ks d (Tm.v S.ad v a T) fr σ h) : ∃ ds, TupAt S ks d T fr σ h v ds ∧ ds.length = n ∧ K ds := by
  obtain ⟨p, rfl, q⟩ := isD_inv q
  obtain ⟨ds, rfl, q0⟩ := onT_inv q
  exact ⟨ds, tup_at R, Nat.eq_of_beq_eq_true (grd_inv q0).1, (grd_inv q0).2⟩
theorem SS.asgP {es : List Expr} {is : List Nat} {k : Nat} {tp pos : Pos} {e : Expr} {x : X} (hn : NmE ks is es) (h : SE S ks e x) (hs : ∀ l env, swapsWithSole [.Tuple es k tp] e l env = pure false := by intro _ _; rfl)
    (hw : ∀ env, swappedStores [.Tuple es k tp] e env = pure none := by intro _; rfl) : SS S ks (.Assign [.Tuple es k tp] e pos) (.asgP is x) := ⟨fun {d env T fr σ A E s QQ N Rt} H hA hT R hx nx r =>
  Assign_Tuple (h.ev H hA R hx fun v a σ' h' tk' R' q => by
    obtain ⟨ds, L, hl, q⟩ := tupP q R'
    cases L with | mk ev ht hlen R2 =>
    subst ev
    exact assign_Tuple_tuple hA.handled ht (by rw [hn.len, List.size_toArray, hlen, hl]) hn.star fun h2 he => stores (s := { s with heap := h2, toks := tk' }) H hn.t hl (R2.keeps fun b o e => he b o (Nat.ne_of_lt (Heap.lt_size e)) e) fun h3 tk3 R4 => nx _ _ _ _ R4 q) (hs _ _) (hw _)⟩
theorem SS.asgS {es : List Expr} {is : List Nat} {xs : List Str} {k : Nat} {tp pos : Pos} {e : Expr} {x : X} (hn : NmL ks is xs) (h : SE S ks e x) (hs : ∀ l env, swapsWithSole [.Tuple es k tp] e l env = pure false := by intro _ _; rfl)
    (hw : ∀ env : Env, env.scope.kind = .function → (∀ x ∈ xs, env.kindOf x = some .local) → swappedStores [.Tuple es k tp] e env = pure (some xs)) : SS S ks (.Assign [.Tuple es k tp] e pos) (.asgS is x) := ⟨fun {d env T fr σ A E s QQ N Rt} H hA hT R hx nx r =>
  Assign_Tuple_swapped (names := xs) (h.ev H hA R hx fun v a σ' h' tk' R' q => by
    obtain ⟨ds, L, hl, q⟩ := tupP q R'
    cases L with | @mk _ vs ev ht hlen R2 =>
    subst ev
    rw [show xs.length = vs.toArray.size by rw [hn.len, List.size_toArray, hlen, hl]]
    exact unpackItems_tuple hA.handled ht fun h2 he => stores (s := { s with heap := h2, toks := tk' }) (vs := vs.reverse) (ds := ds.reverse) H hn.reverse.t (by rw [List.length_reverse, List.length_reverse, hl])
      ((R2.keeps fun b o e => he b o (Nat.ne_of_lt (Heap.lt_size e)) e).imp fun c lh t => ⟨t.1.reverse, t.2⟩) fun h3 tk3 R4 => nx _ _ _ _ R4 q) (hs _ _) (hw _ H.kind (hn.kinds H))⟩
end
section
variable {S : Stat} {ks : List (Str × NameKind)} {d : Dy} {env : Env} {T T' : Tm} {fr : Fr'} {σ : Sto} {A : Around} {E : Value → Shared → Prop} {s : Shared}
/-! ## the held list -/
theorem newH_inv {K : Sto → Prop} (h : newH fr σ K) : σ.held = none ∧ noHeld fr = true ∧ K { σ with held := some [] } := by
  obtain ⟨g, x⟩ := σ
  cases x with
  | none => exact ⟨rfl, grd_inv h⟩
  | some ds => exact False.elim h
theorem noHeld_no {fr : Fr'} (h : noHeld fr = true) : ∀ j : Nat, fr[j]? ≠ some (some AV.held) := by
  induction fr with
  | nil => exact fun j e => nomatch e
  | cons a r ih =>
    intro j e
    cases j with
    | zero => cases e; exact nomatch h
    | succ j => rw [List.getElem?_cons_succ] at e; refine ih ?_ j e; cases a with
      | none => exact h
      | some a => cases a with
        | held => exact nomatch h
        | _ => exact h
theorem VR.lh' {ad : Ad} {lh lh' : Addr} {c : CM} {v : Value} {a : AV} (n : a ≠ .held) (h : VR ad lh c v a) : VR ad lh' c v a := by
  cases a with
  | held => exact absurd rfl n
  | _ => exact h
theorem held_new (h0 : σ.held = none) (hno : noHeld fr = true) (hT : T.Free) (R : Rl S ks d T fr σ s.heap) :
    Rl S ks d (Tm.v S.ad (.ref s.heap.objs.size) .held T) fr { σ with held := some [] } (s.heap.push { cls := .type "list", data := .seq ([] : List Value).toArray }) := by
  cases R with | mk c m mg mh lh X G H F tt =>
  rw [h0] at H
  cases H
  refine ⟨c, m, mg, [(s.heap.objs.size, { cls := .type "list", data := .seq ([] : List Value).toArray })], s.heap.objs.size, (X.pushMu (Heap.get?_push_size s.heap rfl) (Nat.le_refl _) (push_keeps _ _)).perm List.perm_middle, G, .some ⟨0, rfl⟩ .nil, fun j x k av hj hf => ?_, rfl, hT _ _ _ tt⟩
  have hne : av ≠ .held := fun q => noHeld_no hno j (q ▸ hf)
  cases F j x k av hj hf with
  | loc a b => exact .loc a (b.lh' hne)
  | cel a b e f => exact .cel a b e (f.lh' hne)
theorem SS.newHeld (i : Nat) {n : Str} {np lp pos : Pos} (hi : ks[i]? = some (n, .local)) : SS S ks (.Assign [.Name n np] (.List [] lp) pos) (.newHeld i) := ⟨fun {d env T fr σ A E s QQ N Rt} H hA hT R hx nx r =>
  let ⟨h0, hno, q⟩ := newH_inv hx
  wpAny_Assign_Name (wpAny_List (spliced_none ⟨by decide, st_sound (s := { s with heap := s.heap.push _ }) H hi (held_new h0 hno hT R) fun h' tk' R2 => nx _ _ _ _ R2 q⟩))⟩
theorem held_push {QQ : Value → Shared → Prop} {v v2 : Value} {x : PyData} {ds : List PyData} (R : Rl S ks d (Tm.v S.ad v2 (.d x) (Tm.v S.ad v .held T)) fr σ s.heap) (e : σ.held = some ds) (hl : ds.length ≤ 100000)
    (ret : ∀ h', Rl S ks d T fr { σ with held := some (ds ++ [x]) } h' → QQ .none { s with heap := h' }) : wpAny (model PG S.w) A (call (.builtin "list.append") [v, v2]) QQ E s := by
  cases R with | mk c m mg mh lh X G H F t =>
  obtain ⟨t2, t1, tt⟩ := t
  rw [e] at H
  cases H with | @some o _ ws lo r =>
  have hlen := r.length
  have hob := (X.own _ (List.mem_append_right _ (List.mem_append_left _ (.head _)))).1
  rw [show v = .ref lh from t1]
  refine wpAny_list_append_plain (lo.plain hob) (fun h3 hp hs => ?_) (by rw [sizeLine_eq]; simp; omega)
  obtain ⟨n', ho'⟩ := hp
  exact ret h3 ⟨c, m, mg, [(lh, _)], lh, X.upd (o' := { cls := .type "list", data := .seq (ws ++ [v2]).toArray n' }) hs (by rw [ho']; simp), G, .some ⟨n', rfl⟩ (r.append (.cons t2 .nil)), F, tt⟩
theorem held_ref {v : Value} {h : Heap} {ds : List PyData} (R : Rl S ks d (Tm.v S.ad v .held T) fr σ h) (e : σ.held = some ds) : ∃ l ws n, v = .ref l ∧ h.get? l = some { cls := .type "list", data := .seq ws n } := by
  cases R with | mk c m mg mh lh X G H F t =>
  rw [e] at H
  cases H with | @some o _ ws lo r =>
  obtain ⟨n, ho⟩ := lo.plain (X.own _ (List.mem_append_right _ (List.mem_append_left _ (.head _)))).1
  exact ⟨lh, _, n, t.1, ho⟩
theorem addH_inv {x : PyData} {K : Sto → Prop} (h : addH x σ K) : ∃ ds, σ.held = some ds ∧ ds.length ≤ 100000 ∧ K { σ with held := some (ds ++ [x]) } := by
  obtain ⟨g, o⟩ := σ
  cases o with
  | some ds => exact ⟨ds, rfl, h⟩
  | none => exact False.elim h
theorem need_some {α : Type} {o : Option α} {a : α} {K : α → Prop} (h : o = some a) (q : K a) : need o K := need_of h q
theorem SS.app (i : Nat) {n : Str} {e : Expr} {x : X} {np apos cpos pos : Pos} (hi : ks[i]? = some (n, .local)) (h : SE S ks e x) (he : MethOf (.Name n np) "append" [e] apos cpos) :
    SS S ks (.Expr (.Call (.Attribute (.Name n np) "append" apos) [e] [] cpos) pos) (.app i x) := ⟨fun {d env T fr σ A E s QQ N Rt} H hA hT R hx nx r => by
  obtain ⟨hf, ds0, hds0, hx⟩ := isHeld_inv hx
  refine wpAny_Expr (methodCall_KW ((SE.loc i hi).ev H hA R (Q := fun a σ2 => a = .held ∧ σ2 = σ) (need_of hf ⟨rfl, rfl⟩) fun v a σ' h' tk' R' q => ?_) (he env)) (by unfold interactive; rw [H.kind]; rfl)
  obtain ⟨rfl, rfl⟩ := q
  obtain ⟨l, ws, n0, rfl, ho⟩ := held_ref R' hds0
  refine getMethod_builtin (s := { s with heap := h', toks := tk' }) ⟨_, ho, rfl⟩ PySem.F.plainAttrs_list PySem.F.slot_list_append PySem.F.type_list_append (fun a e => by cases e; exact ⟨_, ho, rfl⟩) ?_
  refine PyProof.Rows.callWith_method1 (first := [.ref l]) (spliced_more (h.ev H hA R' hx fun v2 a2 σ2 h2 tk2 R2 q => spliced_none ?_) (h.star _ _)) (h.star _ _)
  obtain ⟨x', rfl, q⟩ := isD_inv q
  obtain ⟨ds, hds, hl, q⟩ := addH_inv q
  exact held_push (s := { s with heap := h2, toks := tk2 }) R2 hds hl fun h3 R3 => nx fr _ h3 tk2 R3 q⟩
/-! ## the pool -/
theorem putP_inv {o : Option AV} {j : Nat} {z : Int} {K : Sto → Prop} (h : putP o j z σ K) : o = some .pool ∧ ∃ p q, σ.g.pool = some (p, q) ∧ (j = 0 ∧ K { σ with g := { σ.g with pool := some (z, q) } } ∨ j = 1 ∧ K { σ with g := { σ.g with pool := some (p, z) } }) := by
  obtain ⟨⟨x, y⟩, hd⟩ := σ
  cases o with
  | none => exact False.elim h
  | some a => cases a with
    | pool => cases x with
      | none => exact False.elim h
      | some p => match j, h with
        | 0, h => exact ⟨rfl, p.1, p.2, rfl, .inl ⟨rfl, h⟩⟩
        | 1, h => exact ⟨rfl, p.1, p.2, rfl, .inr ⟨rfl, h⟩⟩
    | _ => exact False.elim h
theorem pool_put {QQ : Unit → Shared → Prop} {v : Value} {j z p q : Int} {t u : Nat} {n : Int × Int} (R : Rl S ks d (Tm.v S.ad v .pool T) fr σ s.heap) (e : σ.g.pool = some (p, q)) (hj : j = 0 ∧ n = (z, q) ∨ j = 1 ∧ n = (p, z))
    (ret : ∀ h', Rl S ks d T fr { σ with g := { σ.g with pool := some n } } h' → QQ () { s with heap := h' }) : wpAny (model PG S.w) A (setItem v (.int j u) (.int z t)) QQ E s := by
  cases R with | mk c m mg mh lh X G H F tt =>
  obtain ⟨tv, tt⟩ := tt
  cases G with | mk mp ms em PM SM =>
  rw [e] at PM
  cases PM with | @some o a b ta tb k oc od =>
  subst em
  have ho := (X.own _ (List.mem_append_left _ (List.mem_append_left _ (.head _)))).1
  have hl : s.heap.IsList S.ad.lp #[.int p ta, .int q tb] := ⟨_, ho, oc, k, od⟩
  rw [show v = .ref S.ad.lp from tv]
  have X : Sx S.hb d.s₀ d.c₀ d.mod c d.L m ([] ++ (S.ad.lp, o) :: (ms ++ (mh ++ d.ex))) s.heap := X
  refine wpAny_setItem_list hl (by omega) (by omega) (by rcases hj with ⟨rfl, _⟩ | ⟨rfl, _⟩; exact (show (0 : Int) < 2 by decide); exact (show (1 : Int) < 2 by decide)) fun h3 hl3 hs3 => ret h3 ?_
  obtain ⟨o3, ho3, oc3, n3, od3⟩ := hl3
  refine ⟨c, m, (S.ad.lp, o3) :: ms, mh, lh, X.upd hs3 ho3, ⟨[(S.ad.lp, o3)], ms, rfl, ?_, SM⟩, H, F, tt⟩
  rcases hj with ⟨rfl, rfl⟩ | ⟨rfl, rfl⟩
  · exact .some oc3 (by rw [od3]; rfl)
  · exact .some oc3 (by rw [od3]; rfl)
theorem SS.setIx (i : Nat) (j : Int) {jn : Nat} {n : Str} {e : Expr} {x : X} {np ip sp pos : Pos} {k : Nat} (hi : ks[i]? = some (n, .local)) (h : SE S ks e x) (hj : j = jn)
    (hs : ∀ l env, swapsWith e (some (.Subscript (.Name n np) (.Constant (.int j) k ip) sp)) l env = pure false := by intro _ _; rfl) :
    SS S ks (.Assign [.Subscript (.Name n np) (.Constant (.int j) k ip) sp] e pos) (.setIx i jn x) := ⟨fun {d env T fr σ A E s QQ N Rt} H hA hT R hx nx r => by
  refine wpAny_Assign_Subscript (h.ev H hA R hx fun v a σ' h' tk' R' q => ?_) (hs _ _)
  obtain ⟨z, rfl, q0⟩ := isI_inv q
  obtain ⟨hf, p, q', hp, q1⟩ := putP_inv q0
  refine (SE.loc i hi).ev H hA R' (Q := fun a σ2 => a = .pool ∧ σ2 = σ') (need_of hf ⟨rfl, rfl⟩) fun v2 a2 σ2 h2 tk2 R2 q2 => ?_
  obtain ⟨rfl, rfl⟩ := q2
  obtain ⟨t, rfl⟩ := R2.drop.int
  refine wpAny_Constant_int ?_
  rcases q1 with ⟨rfl, q1⟩ | ⟨rfl, q1⟩
  · exact pool_put (s := { s with heap := h2, toks := tk2 + 1 }) (R2.imp fun _ _ t => ⟨t.1, t.2.2⟩) hp (.inl ⟨hj, rfl⟩) fun h3 R3 => nx fr _ h3 _ R3 q1
  · exact pool_put (s := { s with heap := h2, toks := tk2 + 1 }) (R2.imp fun _ _ t => ⟨t.1, t.2.2⟩) hp (.inr ⟨hj, rfl⟩) fun h3 R3 => nx fr _ h3 _ R3 q1⟩
end
end Mine
/-! ## NA -/
namespace Mine
open PySem PySem.W PySem.Calls PyProof.Rows
/-- a state that a loop comes back to: i turns are done of n -/
inductive St (S : Stat) (ks : List (Str × NameKind)) (d : Dy) (I : Addr) (T : Tm) (s : Shared) (n : Nat) (P : Nat → Fr' → Sto → Heap → Prop) (j : Nat) (s' : Shared) : Prop
  | mk {i o fr σ h tk} : j = n - i → s' = { s with heap := h, toks := tk } → Rl S ks { d with ex := (I, o) :: d.ex } T fr σ h → P i fr σ h → St S ks d I T s n P j s'
theorem St.go {S : Stat} {ks : List (Str × NameKind)} {d : Dy} {I : Addr} {T : Tm} {s : Shared} {n : Nat} {P : Nat → Fr' → Sto → Heap → Prop} {j : Nat} {s' : Shared} {C : Shared → Prop} (q : St S ks d I T s n P j s')
    (k : ∀ i o fr σ h tk, j = n - i → Rl S ks { d with ex := (I, o) :: d.ex } T fr σ h → P i fr σ h → C { s with heap := h, toks := tk }) : C s' := by
  cases q with | mk ej e R p => subst e; exact k _ _ _ _ _ _ ej R p
section
variable {S : Stat} {ks : List (Str × NameKind)} {d : Dy} {env : Env} {T T' : Tm} {fr : Fr'} {σ : Sto} {A : Around} {E : Value → Shared → Prop} {s : Shared}
theorem forGo_nil {turn : PyData → Fr' → Sto → (Fr' → Sto → Prop) → Prop} {fin : Fr' → Sto → Prop} {l : List PyData} {i : Nat} (h : forGo turn fin (l.drop i) fr σ) (k : l.length ≤ i) : fin fr σ := by
  rw [List.drop_of_length_le k] at h; exact h
theorem forGo_cons {turn : PyData → Fr' → Sto → (Fr' → Sto → Prop) → Prop} {fin : Fr' → Sto → Prop} {l : List PyData} {i : Nat} (h : forGo turn fin (l.drop i) fr σ) (k : i < l.length) : ∃ x, l[i]? = some x ∧ turn x fr σ fun fr' σ' => forGo turn fin (l.drop (i + 1)) fr' σ' := by
  rw [List.drop_eq_getElem_cons k] at h; exact ⟨l[i], List.getElem?_eq_getElem k, h⟩
noncomputable def itObj (a : Addr) (i : Nat) : Obj := { cls := .type "list_iterator", data := .fields #[.ref a, .int i 0] }
theorem list_at2 {h : Heap} {v : Value} {ds : List PyData} (R : Rl S ks d (Tm.v S.ad v (.d (.list ds)) T) fr σ h) : ListAt S ks d (Tm.v S.ad v (.d (.list ds)) T) fr σ h v ds := by
  have R2 : Rl S ks d (Tm.v S.ad v (.d (.list ds)) (Tm.v S.ad v (.d (.list ds)) T)) fr σ h := R.imp fun _ _ t => ⟨t.1, t⟩
  exact list_at R2
theorem forL_turn {iN i : Nat} {n : Str} {np : Pos} {b : List Stmt} {t : SL} {N : Fr' → Sto → Prop} {Rt : AV → Fr' → Sto → Prop} {I ax : Addr} {o : Obj} {ds : List PyData} {P : Option Value → Shared → Prop} {QB : Flow → Shared → Prop} (hi : ks[iN]? = some (n, .local)) (hb : SSL S ks b t) (H : EnvOk ks d env) (hA : Rm A S.k) (hT : T.Free) (hI : d.s₀.get? I = none)
    (R : Rl S ks { d with ex := (I, o) :: d.ex } (Tm.v S.ad (.ref ax) (.d (.list ds)) T) fr σ s.heap) (hit : s.heap.IsListIter I ax i) (hg : forGo (fun d fr σ K => t (fr.set iN (some (.d d))) σ K Rt) N (ds.drop i) fr σ)
    (done : ∀ h', Rl S ks d T fr σ h' → N fr σ → P none { s with heap := h' })
    (more : ∀ v s₁, wpAny (model PG S.w) A (assign (.Name n np) env v) (fun _ s₂ => wpAny (model PG S.w) A (execs b env) QB E s₂) E s₁ → P (some v) s₁)
    (next : ∀ fr' σ' h' tk' o', i < ds.length → Rl S ks { d with ex := (I, o') :: d.ex } (Tm.v S.ad (.ref ax) (.d (.list ds)) T) fr' σ' h' → h'.IsListIter I ax (i + 1) → forGo (fun d fr σ K => t (fr.set iN (some (.d d))) σ K Rt) N (ds.drop (i + 1)) fr' σ' → QB .next { s with heap := h', toks := tk' })
    (ret : ∀ v a fr' σ' h' tk', Rl S ks d (Tm.v S.ad v a T) fr' σ' h' → Rt a fr' σ' → QB (.ret v) { s with heap := h', toks := tk' }) : wpAny (model PG S.w) A (pyNext (.ref I)) P E s := by
  cases list_at2 R with | mk ev hl' hlen' R4 =>
  cases ev
  by_cases hlt : i < ds.length
  · obtain ⟨x, hx, hg⟩ := forGo_cons hg hlt
    obtain ⟨v, hv, R4⟩ := dl_get R4 hx
    refine wpAny_pyNext_list_item hit hl' (by simpa using hv) fun h3 ⟨oi, hoi, hr⟩ hs3 => more _ _ ?_
    exact wpAny_assign_Name (st_sound (s := { s with heap := h3 }) (H.ex _) hi (R4.updEx hs3 hoi) fun h4 tk4 R7 => hb.ex (T := Tm.v S.ad (.ref ax) (.d (.list ds)) T) (H.ex _) hA (fun c lh lh' t => ⟨t.1, hT _ _ _ t.2⟩) R7 hg (fun fr5 σ5 h5 tk5 R8 q => next fr5 σ5 h5 tk5 oi hlt R8 ⟨oi, R8.getEx, hr⟩ q)
      fun v a fr5 σ5 h5 tk5 R8 q => ret v a fr5 σ5 h5 tk5 (Rl.imp (T' := Tm.v S.ad v a T) R8 fun c lh t => ⟨t.1, t.2.2⟩).dropEx q)
  · exact wpAny_pyNext_list_end hA.handled hit hl' (by simp; omega) fun h3 he => done h3 (R.endEx hI he).drop (forGo_nil hg (by omega))
theorem SS.forL (iN : Nat) {n : Str} {np pos : Pos} {e : Expr} {x : X} {b : List Stmt} {t : SL} (hi : ks[iN]? = some (n, .local)) (h : SE S ks e x) (hb : SSL S ks b t) (hs : ∀ env v, foldedSetIterable e env v = pure v := by intro _ _; rfl) :
    SS S ks (.For (.Name n np) e b [] pos) (.forL iN x t) := ⟨fun {d env T fr σ A E s QQ N Rt} H hA hT R hx nx r =>
  wpAny_For (h.ev H hA R hx fun v a σ' h' tk' R' q => by
    obtain ⟨ds, rfl, q0⟩ := isL_inv q
    cases list_at R' with | @mk ax vs ev hl hlen RR =>
    subst ev
    obtain ⟨R2, hI⟩ := R'.newEx (o := itObj ax 0) (h' := h'.push (itObj ax 0)) (Heap.get?_push_size h' rfl) (Nat.le_refl _) (push_keeps _ _)
    exact wpAny_pyIter_list hl (codeAny_forLoop (St S ks d h'.objs.size (Tm.v S.ad (.ref ax) (.d (.list ds)) T) s ds.length fun i fr σ h => h.IsListIter h'.objs.size ax i ∧ forGo (fun d fr σ K => t (fr.set iN (some (.d d))) σ K Rt) N (ds.drop i) fr σ)
      (fun j s' q => q.go fun i o fr2 σ2 h2 tk2 ej R3 p => forL_turn (s := { s with heap := h2, toks := tk2 }) hi hb H hA hT hI R3 p.1 p.2 (fun h3 R4 q => wpAny_execs_nil (nx _ _ h3 _ R4 q)) (fun v s₁ h => h)
          (fun fr5 σ5 h5 tk5 o5 hlt R8 hit q => ⟨_, ej ▸ Nat.sub_lt_sub_left hlt (Nat.lt_succ_self i), rfl, rfl, R8, hit, q⟩) r)
      ds.length ⟨rfl, rfl, R2, ⟨itObj ax 0, R2.getEx, rfl, rfl⟩, q0⟩)) (hs _)⟩
theorem rangeSize_nat (n : Nat) : (Builtin.Range.rangeSize 0 n 1) = n := by rw [rangeSize_one]; split <;> omega
theorem forR_turn {iN i k : Nat} {n : Str} {np : Pos} {b : List Stmt} {t : SL} {N : Fr' → Sto → Prop} {Rt : AV → Fr' → Sto → Prop} {I : Addr} {o : Obj} {P : Option Value → Shared → Prop} {QB : Flow → Shared → Prop} (hi : ks[iN]? = some (n, .local)) (hb : SSL S ks b t) (H : EnvOk ks d env) (hA : Rm A S.k) (hT : T.Free) (hI : d.s₀.get? I = none) (hk : k < 1000000000)
    (R : Rl S ks { d with ex := (I, o) :: d.ex } T fr σ s.heap) (hit : IsRangeIter s.heap I (i : Nat) ((k : Int) - (i : Nat)) 1) (hik : i ≤ k) (hg : forGo (fun d fr σ K => t (fr.set iN (some (.d d))) σ K Rt) N (((List.range k).map fun (j : Nat) => PyData.int (Int.ofNat j)).drop i) fr σ)
    (done : ∀ h', Rl S ks d T fr σ h' → N fr σ → P none { s with heap := h' })
    (more : ∀ v s₁, wpAny (model PG S.w) A (assign (.Name n np) env v) (fun _ s₂ => wpAny (model PG S.w) A (execs b env) QB E s₂) E s₁ → P (some v) s₁)
    (next : ∀ fr' σ' h' tk' o', i < k → Rl S ks { d with ex := (I, o') :: d.ex } T fr' σ' h' → IsRangeIter h' I ((i + 1 : Nat) : Int) ((k : Int) - ((i + 1 : Nat) : Int)) 1 → forGo (fun d fr σ K => t (fr.set iN (some (.d d))) σ K Rt) N (((List.range k).map fun (j : Nat) => PyData.int (Int.ofNat j)).drop (i + 1)) fr' σ' → QB .next { s with heap := h', toks := tk' })
    (ret : ∀ v a fr' σ' h' tk', Rl S ks d (Tm.v S.ad v a T) fr' σ' h' → Rt a fr' σ' → QB (.ret v) { s with heap := h', toks := tk' }) : wpAny (model PG S.w) A (pyNext (.ref I)) P E s := by
  by_cases hlt : i < k
  · obtain ⟨x, hx, hg⟩ := forGo_cons hg (by simpa using hlt)
    rw [List.getElem?_map, List.getElem?_range hlt] at hx
    cases hx
    refine wpAny_pyNext_range_item hit (by omega) fun h3 hit3 hs3 => more _ _ ?_
    refine wpAny_assign_Name (st_sound (s := { s with heap := h3, toks := s.toks + 1 }) (H.ex _) hi ((R.updEx hs3 hit3).val (v := .int (i : Nat) s.toks) (x := .int (i : Nat)) fun c => .int _ _) fun h4 tk4 R7 => hb.ex (H.ex _) hA hT R7 hg (fun fr5 σ5 h5 tk5 R8 q => next fr5 σ5 h5 tk5 _ hlt R8 ?_ q) fun v a fr5 σ5 h5 tk5 R8 q => ret v a fr5 σ5 h5 tk5 R8.dropEx q)
    rw [show (k : Int) - ((i + 1 : Nat) : Int) = (k : Int) - (i : Int) - 1 by omega]
    exact R8.getEx
  · obtain rfl : i = k := by omega
    exact wpAny_pyNext_range_end hA.handled hit (by omega) fun h3 he => done h3 (R.endEx hI he) (forGo_nil hg (by simp))
theorem SS.forR (iN iR : Nat) {n : Str} {np rp cp pos : Pos} {e : Expr} {x : X} {b : List Stmt} {t : SL} (hi : ks[iN]? = some (n, .local)) (hr : ks[iR]? = some (("range" : Str), NameKind.globalImplicit)) (h : SE S ks e x) (hb : SSL S ks b t) :
    SS S ks (.For (.Name n np) (.Call (.Name "range" rp) [e] [] cp) b [] pos) (.forR iN x t) := ⟨fun {d env T fr σ A E s QQ N Rt} H hA hT R hx nx r =>
  wpAny_For (eval_call (ev_b 3 H R hr rfl (PyProof.Rows.callWith_type1 (spliced_more (h.ev H hA R hx fun v a σ' h' tk' R' q => spliced_none (by
    obtain ⟨k, rfl, q0⟩ := isI_inv q
    obtain ⟨n, rfl, hN, q1⟩ := q0
    obtain ⟨tt, rfl⟩ := R'.int
    refine call_range_1 (wpAny_pyIter_range (IsRange.new ..) (small_one (by omega) (by omega) (by omega) (by omega)) ?_)
    rw [rangeSize_nat]
    have R1 := R'.drop.keeps (push_keeps h' { cls := .type "range", data := .fields #[.int 0 tk', .int n tt, .int 1 (tk' + 1)] })
    obtain ⟨R2, hI⟩ := R1.newEx (o := { cls := .type "range_iterator", data := .fields #[rawInt 0, rawInt n, rawInt 1] }) (Heap.get?_push_size _ rfl) (Nat.le_refl _) (push_keeps _ _)
    generalize h'.push { cls := .type "range", data := .fields #[.int 0 tk', .int n tt, .int 1 (tk' + 1)] } = hp at R1 R2 hI ⊢
    exact codeAny_forLoop (St S ks d hp.objs.size T s n fun i fr σ h => IsRangeIter h hp.objs.size (i : Nat) ((n : Int) - (i : Nat)) 1 ∧ i ≤ n ∧ forGo (fun d fr σ K => t (fr.set iN (some (.d d))) σ K Rt) N (((List.range n).map fun (j : Nat) => PyData.int (Int.ofNat j)).drop i) fr σ)
      (fun j s' q => q.go fun i o fr2 σ2 h2 tk2 ej R3 p => forR_turn (s := { s with heap := h2, toks := tk2 }) hi hb H hA hT hI hN R3 p.1 p.2.1 p.2.2 (fun h3 R4 q => wpAny_execs_nil (nx _ _ h3 _ R4 q)) (fun v s₁ h => h)
          (fun fr5 σ5 h5 tk5 o5 hlt R8 hit q => ⟨_, ej ▸ Nat.sub_lt_sub_left hlt (Nat.lt_succ_self i), rfl, rfl, R8, hit, hlt, q⟩) r)
      n ⟨rfl, rfl, R2, by simpa using R2.getEx, Nat.zero_le _, q1⟩)) (h.star _ _)) (h.star _ _))))⟩
/-! ## the source's list and dict change -/
theorem reassoc {α : Type} (mp r : List α) (a b : α) : (mp ++ [a, b]) ++ r = (mp ++ [a]) ++ b :: r := by rw [List.append_assoc, List.append_assoc]; rfl
theorem rest_set {h h2 : Heap} {r r' : List Tk} {b : Int} {ws' : List Value} {n' : Nat} (R : Rl S ks d T fr σ h) (e : σ.g.src = some (r, b)) (hs : Heap.SameBut S.ad.lr h h2) (ho : h2.get? S.ad.lr = some { cls := .type "list", data := .seq ws'.toArray n' })
    (k : ∀ c lh, T.on c lh → RdL c ws' (r'.map tkd).reverse ∧ T'.on c lh) : Rl S ks d T' fr { σ with g := { σ.g with src := some (r', b) } } h2 := by
  cases R with | mk c m mg mh lh X G H F t =>
  cases G with | mk mp ms em PM SM =>
  rw [e] at SM
  cases SM with | @some _ _ t1 t2 t3 t4 t5 tb n o ws a bb lo dd =>
  subst em
  rw [reassoc] at X
  have X := X.upd hs ho
  rw [← reassoc] at X
  exact ⟨c, m, _, mh, lh, X, ⟨mp, _, rfl, PM, .some a bb ⟨_, rfl⟩ (k _ _ t).1⟩, H, F, (k _ _ t).2⟩
theorem dl_snoc {h : Heap} {ws : List Value} {es : List PyData} {x : PyData} (R : Rl S ks d (Tm.dl ws (es ++ [x]) T) fr σ h) : ∃ us v, ws = us ++ [v] ∧ Rl S ks d (Tm.dl us es (Tm.v S.ad v (.d x) T)) fr σ h := by
  cases R with | mk c m mg mh lh X G H F t =>
  obtain ⟨us, v, e, r, rv⟩ := t.1.snoc
  exact ⟨us, v, e, c, m, mg, mh, lh, X, G, H, F, r, rv, t.2⟩
theorem popS_inv {a : AV} {K : Tk → Sto → Prop} (h : popS a σ K) : a = .src ∧ ∃ t r b, σ.g.src = some (t :: r, b) ∧ r.length ≤ 100000 ∧ K t { σ with g := { σ.g with src := some (r, b) } } := by
  obtain ⟨⟨p, x⟩, hd⟩ := σ
  cases a with
  | src => cases x with
    | none => exact False.elim h
    | some x => obtain ⟨l, b⟩ := x; cases l with
      | nil => exact False.elim h
      | cons t r => exact ⟨rfl, t, r, b, rfl, h⟩
  | _ => exact False.elim h
theorem rest_ref {v : Value} {h : Heap} {r : List Tk} {b : Int} (R : Rl S ks d (Tm.v S.ad v .src T) fr σ h) (e : σ.g.src = some (r, b)) : ∃ ws n, h.get? S.ad.lr = some { cls := .type "list", data := .seq ws n } := by
  cases src_at R e with | mk _ _ ho hlo _ =>
  obtain ⟨n0, rfl⟩ := hlo
  exact ⟨_, n0, ho⟩
theorem rest_pop {QQ : Value → Shared → Prop} {v : Value} {t : Tk} {r : List Tk} {b : Int} (R : Rl S ks d (Tm.v S.ad v .src T) fr σ s.heap) (e : σ.g.src = some (t :: r, b)) (hl : r.length ≤ 100000)
    (ret : ∀ v h', Rl S ks d (Tm.v S.ad v (.d (tkd t)) T) fr { σ with g := { σ.g with src := some (r, b) } } h' → QQ v { s with heap := h' }) : wpAny (model PG S.w) A (call (.builtin "list.pop") [.ref S.ad.lr]) QQ E s := by
  cases src_at R e with | @mk _ _ _ _ _ _ _ o ws _ _ ho hlo R4 =>
  clear R
  obtain ⟨n0, rfl⟩ := hlo
  rw [List.map_cons, List.reverse_cons] at R4
  obtain ⟨us, v', rfl, R5⟩ := dl_snoc R4
  clear R4
  have hul := dl_len R5
  have hk : (us ++ [v']).toArray.size - 1 = us.length := by simp
  have hy : (us ++ [v']).toArray[(us ++ [v']).toArray.size - 1]? = some v' := by rw [hk]; simp
  refine call_meets PySem.F.slot_list_pop ⟨_, ho, rfl⟩ PySem.F.entry_list_pop (PySem.F.args_list_pop_1 _) (PySem.MeetsSeq.list_pop_last S.ad.lr _ n0 v' hy (by rw [sizeLine_eq]; simp at hul ⊢; omega)) ⟨ho, ?_⟩
  have ho2 := PySem.IsL.update (h := s.heap) (l := S.ad.lr) ho (fun xs => xs.eraseIdxIfInBounds ((us ++ [v']).toArray.size - 1))
  rw [hk, show (us ++ [v']).toArray.eraseIdxIfInBounds us.length = us.toArray by rw [kl_erase, List.append_nil]] at ho2
  rw [hk]
  exact ret _ _ (rest_set R5 e (Heap.SameBut.update ..) ho2 fun c lh t => t)
theorem SS.popTok (i : Nat) {n : Str} {e : Expr} {x : X} {np ap mp cp pos : Pos} (hi : ks[i]? = some (n, .local)) (h1 : SE S ks e x) (he : AttrOf e "rest" ap) (hc : MethOf (.Attribute e "rest" ap) "pop" [] mp cp) :
    SS S ks (.Assign [.Name n np] (.Call (.Attribute (.Attribute e "rest" ap) "pop" mp) [] [] cp) pos) (.popTok i x) := ⟨fun {d env T fr σ A E s QQ N Rt} H hA hT R hx nx rt =>
  wpAny_Assign_Name (methodCall_KW (Attribute_any_ (h1.ev H hA R hx fun v a σ' h' tk' R' q => by
    obtain ⟨rfl, t, r, b, hs, hlen, q⟩ := popS_inv q
    obtain ⟨ws, n0, ho⟩ := rest_ref R' hs
    refine get_rest (s := { s with heap := h', toks := tk' }) R' hs (getMethod_builtin (s := { s with heap := h', toks := tk' + 1 }) ⟨_, ho, rfl⟩ PySem.F.plainAttrs_list PySem.F.slot_list_pop PySem.F.type_list_pop (fun a e => by cases e; exact ⟨_, ho, rfl⟩) (PyProof.Rows.callWith_method0 ?_))
    exact rest_pop (s := { s with heap := h', toks := tk' + 1 }) R' hs hlen fun v h2 R2 => st_sound (s := { s with heap := h2, toks := tk' + 1 }) H hi R2 fun h3 tk3 R3 => nx _ _ _ _ R3 q) (he env)) (hc env))⟩
theorem pushS_inv {a : AV} {K : Sto → Prop} (h : pushS a σ K) : ∃ r b t, σ.g.src = some (r, b) ∧ a = .d (tkd t) ∧ r.length ≤ 100000 ∧ K { σ with g := { σ.g with src := some (t :: r, b) } } := by
  obtain ⟨⟨p, x⟩, hd⟩ := σ
  cases x with
  | none => exact False.elim h
  | some x => obtain ⟨t, h⟩ := h; exact ⟨x.1, x.2, t, rfl, h⟩
theorem rest_push {QQ : Value → Shared → Prop} {v v2 : Value} {t : Tk} {r : List Tk} {b : Int} (R : Rl S ks d (Tm.v S.ad v2 (.d (tkd t)) (Tm.v S.ad v .src T)) fr σ s.heap) (e : σ.g.src = some (r, b)) (hl : r.length ≤ 100000)
    (ret : ∀ h', Rl S ks d T fr { σ with g := { σ.g with src := some (t :: r, b) } } h' → QQ .none { s with heap := h' }) : wpAny (model PG S.w) A (call (.builtin "list.append") [.ref S.ad.lr, v2]) QQ E s := by
  have R' : Rl S ks d (Tm.v S.ad v .src (Tm.v S.ad v2 (.d (tkd t)) T)) fr σ s.heap := R.imp fun c lh t => ⟨t.2.1, t.1, t.2.2⟩
  cases src_at R' e with | @mk _ _ _ _ _ _ _ o ws _ _ ho hlo R4 =>
  clear R R'
  have hul := dl_len R4
  refine wpAny_list_append_plain (hlo.plain ho) (fun h3 hp hs3 => ?_) (by rw [sizeLine_eq]; simp at hul ⊢; omega)
  obtain ⟨n', ho'⟩ := hp
  refine ret h3 (rest_set (ws' := ws ++ [v2]) (n' := n') R4 e hs3 (by rw [ho']; simp) fun c lh t => ⟨?_, t.2.2⟩)
  rw [List.map_cons, List.reverse_cons]
  exact t.1.append (.cons t.2.1 .nil)
theorem SS.appRest {e v : Expr} {x y : X} {ap mp cp pos : Pos} (h1 : SE S ks e x) (h2 : SE S ks v y) (he : AttrOf e "rest" ap) (hc : MethOf (.Attribute e "rest" ap) "append" [v] mp cp) :
    SS S ks (.Expr (.Call (.Attribute (.Attribute e "rest" ap) "append" mp) [v] [] cp) pos) (.appRest x y) := ⟨fun {d env T fr σ A E s QQ N Rt} H hA hT R hx nx rt =>
  wpAny_Expr (methodCall_KW (Attribute_any_ (h1.ev H hA R hx fun v a σ' h' tk' R' q => by
    obtain ⟨rfl, r0, b0, hs0, q⟩ := isSrc_inv q
    obtain ⟨ws, n0, ho⟩ := rest_ref R' hs0
    refine get_rest (s := { s with heap := h', toks := tk' }) R' hs0 (getMethod_builtin (s := { s with heap := h', toks := tk' + 1 }) ⟨_, ho, rfl⟩ PySem.F.plainAttrs_list PySem.F.slot_list_append PySem.F.type_list_append (fun a e => by cases e; exact ⟨_, ho, rfl⟩)
      (PyProof.Rows.callWith_method1 (first := [.ref S.ad.lr]) (spliced_more (h2.ev (s := { s with heap := h', toks := tk' + 1 }) H hA R' q fun v2 a2 σ2 h2 tk2 R2 q2 => spliced_none ?_) (h2.star _ _)) (h2.star _ _)))
    obtain ⟨r, b, t, hs, rfl, hlen, q3⟩ := pushS_inv q2
    exact rest_push (s := { s with heap := h2, toks := tk2 }) R2 hs hlen fun h3 R3 => nx fr _ h3 tk2 R3 q3) (he env)) (hc env)) (by unfold interactive; rw [H.kind]; rfl)⟩
end
end Mine
/-! ## NB -/
namespace Mine
open PySem PySem.W PySem.Calls PyProof.Rows
/-- all that lies there and is not of the ground -/
noncomputable def newAt (hb h : Heap) (L a : Addr) : Option (Addr × Obj) := (h.get? a).bind fun o => cond (a == L || (hb.get? a).isSome) none (some (a, o))
noncomputable def allNews (hb h : Heap) (L : Addr) : List (Addr × Obj) := (List.range h.objs.size).filterMap (newAt hb h L)
theorem newAt_eq {hb h : Heap} {L a : Addr} {p : Addr × Obj} : newAt hb h L a = some p ↔ h.get? a = some p.2 ∧ p.1 = a ∧ a ≠ L ∧ hb.get? a = none := by
  obtain ⟨x, y⟩ := p
  unfold newAt
  cases h.get? a with
  | none => simp
  | some o =>
    by_cases h1 : a = L
    · simp [h1]
    · rw [Option.bind_some, beq_eq_false_iff_ne.mpr h1]
      cases hb.get? a <;> simp [h1, and_comm, eq_comm]
theorem allNews_mem {hb h : Heap} {L a : Addr} {o : Obj} : (a, o) ∈ allNews hb h L ↔ h.get? a = some o ∧ a ≠ L ∧ hb.get? a = none := by
  unfold allNews
  rw [List.mem_filterMap]
  exact ⟨fun ⟨b, _, e⟩ => by obtain ⟨h1, rfl, h2⟩ := newAt_eq.mp e; exact ⟨h1, h2⟩, fun e => ⟨a, List.mem_range.mpr (Heap.lt_size e.1), newAt_eq.mpr ⟨e.1, rfl, e.2⟩⟩⟩
theorem allNews_nodup {hb h : Heap} {L : Addr} : ((allNews hb h L).map (·.1)).Nodup := by
  have e : ∀ l : List Nat, List.Sublist ((l.filterMap (newAt hb h L)).map (·.1)) l := fun l => by
    induction l with
    | nil => exact .slnil
    | cons a r ih =>
      rw [List.filterMap_cons]
      cases q : newAt hb h L a with
      | none => exact ih.cons _
      | some p => obtain ⟨_, e, _⟩ := newAt_eq.mp q; rw [List.map_cons, e]; exact ih.cons_cons _
  exact (e _).nodup List.nodup_range
theorem upd_map {dx : Addr} {od od' : Obj} {l : List (Addr × Obj)} (nd : (l.map (·.1)).Nodup) (h : (dx, od) ∈ l) : Upd dx od od' l (l.map fun p => if p.1 = dx then (dx, od') else p) := by
  induction l with
  | nil => exact nomatch h
  | cons p r ih =>
    rw [List.map_cons, List.nodup_cons] at nd
    rcases List.mem_cons.mp h with rfl | h
    · have no : ∀ p ∈ r, p.1 ≠ dx := fun p hp q => nd.1 (List.mem_map.mpr ⟨p, hp, q⟩)
      rw [List.map_cons, if_pos rfl, (List.map_congr_left fun p hp => if_neg (no p hp)).trans (List.map_id' _)]
      exact .head no
    · have hne : p.1 ≠ dx := fun q => nd.1 (List.mem_map.mpr ⟨_, h, q.symm⟩)
      rw [List.map_cons, if_neg hne]
      exact .tail hne (ih nd.2 h)
theorem Sx.upd2 {hb s₀ h h' : Heap} {c₀ c : CM} {mod : List Addr} {L a : Addr} {m : Str → Option Value} {o o' : Obj} {pre post : List (Addr × Obj)} (Sx : Mine.Sx hb s₀ c₀ mod c L m (pre ++ (a, o) :: post) h) (hn : h'.Ns L m)
    (hk : ∀ b o, b ≠ a → b ≠ L → h.get? b = some o → h'.get? b = some o) (ha : h'.get? a = some o') : Mine.Sx hb s₀ c₀ mod c L m (pre ++ (a, o') :: post) h' := by
  obtain ⟨q1, q2, q3, q4⟩ := Sx.own (a, o) (List.mem_append_right _ (.head _))
  have e1 : (pre ++ (a, o) :: post).map (·.1) = (pre ++ (a, o') :: post).map (·.1) := by simp
  have nd := Sx.nd
  simp only [List.map_append, List.map_cons, List.nodup_append, List.nodup_cons] at nd
  refine ⟨hn, Sx.base, Sx.grow, ?_, Sx.new, ?_, Sx.noL, ?_, e1 ▸ Sx.nd, Sx.sizeb, Sx.sizeL, ?_⟩
  · exact fun b x e => hk b x (fun q => by rw [q, q3] at e; cases e) (fun q => by rw [q, Sx.noL] at e; cases e) (Sx.sub _ _ e)
  · exact fun b x e k => hk b x (fun q => by
      rcases q4 with z | z
      · exact k (q ▸ z)
      · rw [q, z] at e; cases e) (fun q => by
      rcases Sx.sizeL with z | z
      · exact k (q ▸ z)
      · rw [q, z] at e; cases e) (Sx.kept _ _ e k)
  · intro p hp
    rcases List.mem_append.mp hp with hp | hp
    · obtain ⟨r1, r2⟩ := Sx.own p (List.mem_append_left _ hp)
      exact ⟨hk _ _ (fun q => nd.2.2 p.1 (List.mem_map_of_mem hp) a (.head _) q) r2.1 r1, r2⟩
    · rcases List.mem_cons.mp hp with rfl | hp
      · exact ⟨ha, q2, q3, q4⟩
      · obtain ⟨r1, r2⟩ := Sx.own p (List.mem_append_right _ (.tail _ hp))
        exact ⟨hk _ _ (fun q => nd.2.1.1 (List.mem_map.mpr ⟨p, hp, q⟩)) r2.1 r1, r2⟩
  · intro b x e
    obtain ⟨o2, z⟩ := Sx.alive _ _ e
    by_cases h1 : b = a
    · exact ⟨_, h1 ▸ ha⟩
    · by_cases h2 : b = L
      · obtain ⟨oL, _, _, hL, _⟩ := hn; exact ⟨_, h2 ▸ hL⟩
      · exact ⟨o2, hk _ _ h1 h2 z⟩
section
variable {S : Stat} {ks : List (Str × NameKind)} {d : Dy} {env : Env} {T T' : Tm} {fr : Fr'} {σ : Sto} {A : Around} {E : Value → Shared → Prop} {s : Shared}
/-- an attribute of a plain object of class 481, stored -/
theorem sx_setDict {x dx : Addr} {es es' : List DictEntry} {n n' : Nat} {name : Str} {v : Value} {c : CM} {m : Str → Option Value} {pre post : List (Addr × Obj)} {QQ : Unit → Shared → Prop} (X : Sx S.hb d.s₀ d.c₀ d.mod c d.L m (pre ++ (dx, dictOf es n) :: post) s.heap)
    (hx : c x = some (instObj 481 dx)) (hn : name ∈ attrs2) (hl : (getL name es).isSome = true) (e : (putL name (PyData.keyHash S.w.params name) (.str name (s.toks + 1)) v es, putN name es n) = (es', n')) (hz : es'.length ≤ 1000)
    (ret : ∀ h', Sx S.hb d.s₀ d.c₀ d.mod c d.L m (pre ++ (dx, dictOf es' n') :: post) h' → QQ () { s with heap := h', toks := s.toks + 2 }) : wpAny (model PG S.w) A (setAttr (.ref x) name v) QQ E s := by
  have hdx := X.own (dx, dictOf es n) (List.mem_append_right _ (.head _))
  have hbn : S.hb.get? dx = none := by
    cases e : S.hb.get? dx with
    | none => rfl
    | some o => exact nomatch hdx.2.2.1.symm.trans (X.grow _ _ (X.base _ _ e))
  have hmem : (dx, dictOf es n) ∈ allNews S.hb s.heap d.L := allNews_mem.mpr ⟨hdx.1, hdx.2.1, hbn⟩
  refine set_dict X.fr S.G.K (fun p hp => allNews_mem.mp (show (p.1, p.2) ∈ _ from hp)) ⟨X.sub _ _ hx, rfl, rfl, hdx.1⟩ rfl S.set.1 S.set.2.1 (S.tk hn) S.set.2.2 hl e (upd_map allNews_nodup hmem) hz fun h3 F3 N3 => ret h3 ?_
  refine X.upd2 F3.ns (fun a o h1 h2 e => ?_) (N3 (dx, _) (List.mem_map.mpr ⟨_, hmem, if_pos rfl⟩)).1
  cases hbe : S.hb.get? a with
  | some o' => rw [← e, X.keep _ _ hbe]; exact F3.keep _ _ hbe
  | none => exact (N3 (a, o) (List.mem_map.mpr ⟨(a, o), allNews_mem.mpr ⟨e, h2, hbe⟩, if_neg h1⟩)).1
theorem balS_inv {a : AV} {z : Int} {K : Sto → Prop} (h : balS a z σ K) : a = .src ∧ ∃ r b, σ.g.src = some (r, b) ∧ K { σ with g := { σ.g with src := some (r, z) } } := by
  obtain ⟨⟨p, x⟩, hd⟩ := σ
  cases a with
  | src => cases x with
    | none => exact False.elim h
    | some x => exact ⟨rfl, x.1, x.2, rfl, h⟩
  | _ => exact False.elim h
theorem bal_set {QQ : Unit → Shared → Prop} {v : Value} {r : List Tk} {b z : Int} {tz : Nat} (R : Rl S ks d (Tm.v S.ad v .src T) fr σ s.heap) (e : σ.g.src = some (r, b))
    (ret : ∀ h', Rl S ks d T fr { σ with g := { σ.g with src := some (r, z) } } h' → QQ () { s with heap := h', toks := s.toks + 2 }) : wpAny (model PG S.w) A (setAttr v "balance" (.int z tz)) QQ E s := by
  cases R with | mk c m mg mh lh X G H F t =>
  cases G with | mk mp ms em PM SM =>
  rw [e] at SM
  cases SM with | @some _ _ t1 t2 t3 t4 t5 tb n o ws a bb lo dd =>
  subst em
  have rea : ∀ o', (mp ++ [(S.ad.dx, o'), (S.ad.lr, o)]) ++ (mh ++ d.ex) = mp ++ (S.ad.dx, o') :: ((S.ad.lr, o) :: (mh ++ d.ex)) := fun o' => List.append_assoc ..
  rw [rea] at X
  rw [show v = .ref S.ad.x from t.1]
  refine sx_setDict X a (.tail _ (.tail _ (.tail _ (.tail _ (.head _))))) rfl rfl (Nat.le_of_ble_eq_true rfl) fun h3 X3 => ret h3 ⟨c, m, mp ++ [(S.ad.dx, srcDict S.w S.ad z t1 t2 t3 t4 t5 tz n), (S.ad.lr, o)], mh, lh, (rea _).symm ▸ X3, ⟨mp, _, rfl, PM, .some a bb lo dd⟩, H, F, t.2⟩
theorem SS.setBal {e v : Expr} {x y : X} {ap pos : Pos} (h1 : SE S ks e x) (h2 : SE S ks v y) (hs : ∀ l env, swapsWith v (some (.Attribute e "balance" ap)) l env = pure false := by intro _ _; rfl) :
    SS S ks (.Assign [.Attribute e "balance" ap] v pos) (.setBal x y) := ⟨fun {d env T fr σ A E s QQ N Rt} H hA hT R hx nx rt =>
  plainObj_wpAny_Assign_Attribute (h2.ev H hA R hx fun u a σ' h' tk' R' hx' => h1.ev (s := { s with heap := h', toks := tk' }) H hA R' hx' fun u2 a2 σ2 h2 tk2 R2 q => by
    obtain ⟨z, rfl, q0⟩ := isI_inv q
    obtain ⟨rfl, r, b, hsrc, q1⟩ := balS_inv q0
    obtain ⟨tz, rfl⟩ := R2.drop.int
    exact bal_set (s := { s with heap := h2, toks := tk2 }) (R2.imp fun _ _ t => ⟨t.1, t.2.2⟩) hsrc fun h3 R3 => nx fr _ h3 _ R3 q1) (hs _ _)⟩
/-! ## a function's contract, from its body -/
/-- what a call gives: never the frame's own list -/
noncomputable def finR (Q : AV → Gs → Prop) (a : AV) (_ : Fr') (σ : Sto) : Prop := match a with
  | .held => False
  | a => (match σ with | ⟨g, _⟩ => Q a g)
noncomputable def finN (Q : AV → Gs → Prop) (_ : Fr') (σ : Sto) : Prop := match σ with | ⟨g, _⟩ => Q (.d .none) g
theorem finR_inv {Q : AV → Gs → Prop} {a : AV} {fr : Fr'} {σ : Sto} (h : finR Q a fr σ) : a ≠ .held ∧ Q a σ.g := by
  cases a with
  | held => exact False.elim h
  | _ => exact ⟨nofun, h⟩
/-- a scope that a plain call may enter -/
noncomputable def scOk (sc : Scope) : Bool := decide (sc.names.map (·.1)).Nodup && (sc.names.all (fun p => !(p.1 == ("__debug__" : Str)) && !(p.2 == .cell)) && (!sc.isCoroutine && (!sc.isGenerator && sc.kind == .function)))
inductive ScOk (sc : Scope) : Prop
  | mk : (sc.names.map (·.1)).Nodup → (∀ p ∈ sc.names, (p.1 == ("__debug__" : Str)) = false ∧ p.2 ≠ .cell) → sc.isCoroutine = false → sc.isGenerator = false → sc.kind = .function → ScOk sc
theorem ScOk.of {sc : Scope} (h : scOk sc = true) : ScOk sc := by
  have h1 := and2 h
  have h2 := and2 h1.2
  have h3 := and2 h2.2
  have h4 := and2 h3.2
  refine ⟨of_decide_eq_true h1.1, fun p hp => ?_, ?_, ?_, ?_⟩
  · have := and2 (List.all_eq_true.mp h2.1 p hp)
    exact ⟨by simpa using this.1, by simpa using this.2⟩
  · simpa using h3.1
  · simpa using h4.1
  · exact beq_true h4.2
theorem zip_lookup {ns : List Str} {vs : List Value} {i : Nat} {x : Str} {v : Value} (nd : ns.Nodup) (hx : ns[i]? = some x) (hv : vs[i]? = some v) : (ns.zip vs).reverse.lookup x = some v := by
  have h1 : (x, v) ∈ (ns.zip vs).reverse := List.mem_reverse.mpr (List.mem_of_getElem? (i := i) (by rw [List.getElem?_zip_eq_some]; exact ⟨hx, hv⟩))
  obtain ⟨j, hj⟩ := List.getElem?_of_mem h1
  refine lookup_of_nodup (i := j) ?_ hj
  rw [List.map_reverse, (List.reverse_perm _).nodup_iff]
  refine List.Sublist.nodup ?_ nd
  clear h1 hj hx hv nd
  induction ns generalizing vs with
  | nil => exact .slnil
  | cons n ns ih => cases vs with
    | nil => exact List.nil_sublist _
    | cons v vs => exact (ih (vs := vs)).cons_cons _
theorem entry_fr {ad : Ad} {lh : Addr} {c : CM} {sc : Scope} {ns : List Str} {vs : List Value} {as : List AV} {pad : Nat} (nd : (sc.names.map (·.1)).Nodup) (hns : sc.names.take ns.length = ns.map fun n => (n, NameKind.local)) (hlen : ns.length = as.length) (VL : VRL ad lh c vs as) :
    FrR ad lh c sc.names [] (as.map some ++ List.replicate pad none) (fun x => (ns.zip vs).reverse.lookup x) := fun i x k av hi hav => by
  have hil : i < as.length := by
    by_cases h : i < as.length
    · exact h
    · rw [List.getElem?_append_right (by simpa using h), List.getElem?_replicate] at hav
      split at hav <;> cases hav
  rw [List.getElem?_append_left (by simpa using hil), List.getElem?_map] at hav
  have ha : as[i]? = some av := by
    cases e : as[i]? with
    | none => rw [e] at hav; cases hav
    | some a => rw [e] at hav; cases hav; rfl
  obtain ⟨v, hv, r⟩ := VL.get ha
  rw [← List.getElem?_take_of_lt (hlen.symm ▸ hil), hns, List.getElem?_map] at hi
  cases e : ns[i]? with
  | none => rw [e] at hi; cases hi
  | some n =>
    rw [e] at hi; cases hi
    refine .loc (zip_lookup ?_ e hv) r
    have : List.Sublist ((sc.names.take ns.length).map (·.1)) (sc.names.map (·.1)) := (List.take_sublist _ _).map _
    rw [hns, List.map_map, show ((fun x : Str × NameKind => x.1) ∘ fun n => (n, NameKind.local)) = id from rfl, List.map_id] at this
    exact this.nodup nd
end
end Mine
/-! ## NC -/
namespace Mine
open PySem PySem.W PySem.Calls PyProof.Rows
/-! ## a function's contract -/
theorem fa0 {P : List Value → Prop} (h : P []) : ∀ vs, vs.length = 0 → P vs := fun vs e => by
  rcases vs with _ | _
  · exact h
  · exact nomatch e
theorem fa1 {P : List Value → Prop} (h : ∀ a, P [a]) : ∀ vs, vs.length = 1 → P vs := fun vs e => by
  obtain ⟨a, rfl⟩ := List.length_eq_one_iff.mp e
  exact h a
theorem faS {n : Nat} {P : List Value → Prop} (h : ∀ a vs, vs.length = n → P (a :: vs)) : ∀ vs, vs.length = n + 1 → P vs := fun vs e => by
  rcases vs with _ | ⟨a, r⟩
  · exact nomatch e
  · exact h a r (Nat.succ.inj e)
theorem fa2 {P : List Value → Prop} (h : ∀ a b, P [a, b]) : ∀ vs, vs.length = 2 → P vs := faS fun a => fa1 (h a)
theorem fa3 {P : List Value → Prop} (h : ∀ a b c, P [a, b, c]) : ∀ vs, vs.length = 3 → P vs := faS fun a => fa2 (h a)
theorem fa4 {P : List Value → Prop} (h : ∀ a b c d, P [a, b, c, d]) : ∀ vs, vs.length = 4 → P vs := faS fun a => fa3 (h a)
noncomputable def Binds (q : Str) (sg : Sig) (n : Nat) (ns : List Str) : Prop := ∀ nm kV doc pm an cdv ct s vs, vs.length = n → BindsTo s (fnOf nm q sg.params sg.body sg.scope .none kV doc pm an cdv ct) ⟨vs, []⟩ (ns.zip vs)
theorem noDef_none {f : Addr} {v : Value} (hd : (f == 436 || f == 56) = false) (h : noDef f v = true) : v = .none := by
  cases v with
  | none => rfl
  | _ => exact nomatch hd.symm.trans h
theorem SC.of {S : Stat} (j : Nat) {f : Addr} {q : Str} {i : Nat} {m : Option Nat} {sg : Sig} {as : List AV} {g : Gs} {Q : AV → Gs → Prop} {sl : SL} (ns : List Str) (pad : Nat) (hj : fnT[j]? = some (f, q, i, m)) (hs : sigAt i m = some sg) (hbind : Binds q sg ns.length ns)
    (hc : scOk sg.scope = true) (hns : sg.scope.names.take ns.length = ns.map fun n => (n, NameKind.local)) (hlen : ns.length = as.length) (hb : SSL S sg.scope.names sg.body sl)
    (hw : sl (as.map some ++ List.replicate pad none) ⟨g, none⟩ (finN Q) (finR Q)) (hd : (f == 436 || f == 56) = false := by rfl) : SC (S.lv (S.k + 1)) f as g Q := by
  refine ⟨fun A s c mu vs lh hA Hp GM VL QQ E ret => ?_⟩
  cases FnAt.of (S.fn j hj hs) with | @mk oc od osl nm dV kV doc pm an cdv ct ho hcd hdv =>
  obtain rfl := noDef_none hd hdv
  cases ScOk.of hc with | mk nd nm' co gen kd =>
  have hh : ∀ b o, S.hb.get? b = some o → s.heap.get? b = some o := fun b o e => Hp.sub _ _ (Hp.base _ _ e)
  refine wpAny_call (codeAny_call_def (binds := ns.zip vs) (Nat.lt_of_le_of_lt (Nat.le_add_right _ _) hA.depth) (hh _ _ (S.G.K _ _ ho)) rfl (S.G.nl.keeps hh) (codeRec_of (S.G.K.keeps hh) hcd) rfl (hbind nm kV doc pm an cdv ct s vs (VL.length.trans hlen.symm)) (fun x hx => (nm' x hx).2) (fun y hy => ?_) (fun h₁ hns₁ hk₁ => ?_) co gen kd)
  · obtain ⟨i, hi⟩ := List.getElem?_of_mem hy
    rw [List.getElem?_zip_eq_some] at hi
    have hil : i < ns.length := (List.getElem?_eq_some_iff.mp hi.1).1
    exact lookup_of_nodup (i := i) nd (by rw [← List.getElem?_take_of_lt hil, hns, List.getElem?_map, hi.1]; rfl)
  have X := Mine.Sx.enter Hp (Nat.le_refl _) hns₁ hk₁
  have R : Rl S sg.scope.names ⟨s.heap, c, mu.map (·.1), s.heap.objs.size, [], []⟩ Tm.nil (as.map some ++ List.replicate pad none) ⟨g, none⟩ h₁ :=
    ⟨c, _, mu, [], lh, (List.append_nil mu).symm ▸ X, GM, .none, entry_fr nd hns hlen VL, True.intro⟩
  refine hb.ex (T := Tm.nil) ⟨kd, rfl, rfl, rfl, rfl, rfl, nd, fun p hp => (nm' p hp).1⟩ (Rm.deeper hA) (fun _ _ _ t => t) R hw (fun fr' σ' h' tk' R' q => ?_) (fun v a fr' σ' h' tk' R' q => ?_)
  · cases R' with | mk c' m' mg' mh' lh' X' G' H' F' t =>
    exact ret .none h' tk' c' mg' (.d .none) σ'.g (X'.out (List.sublist_append_left _ _)) G' Rd.none q
  · cases R' with | mk c' m' mg' mh' lh' X' G' H' F' t =>
    obtain ⟨q1, q2⟩ := finR_inv q
    refine ret v h' tk' c' mg' a σ'.g (X'.out (List.sublist_append_left _ _)) G' ?_ q2
    have tv := t.1
    cases a with
    | held => exact absurd rfl q1
    | _ => exact tv
/-! ## a goal's steps -/
theorem brd {p : Prop} [Decidable p] {P Q : Prop} (h1 : p → P) (h2 : ¬p → Q) : br (decide p) P Q := br_of (fun h => h1 (of_decide_eq_true h)) fun h => h2 (of_decide_eq_false h)
/-- a text gives a value, whatever is behind -/
noncomputable def Val (x : X) (fr : Fr') (σ : Sto) (a : AV) (σ' : Sto) : Prop := ∀ K : AV → Sto → Prop, K a σ' → x fr σ K
section
variable {c x y : X} {t e b : SL} {fr : Fr'} {σ σ' σ₂ : Sto} {N : Fr' → Sto → Prop} {R : AV → Fr' → Sto → Prop} {u v : Bool}
theorem ifs_go (h : c fr σ fun a σ => isB a fun b => br b (t fr σ N R) (e fr σ N R)) : SX.ifs c t e fr σ N R := ⟨h⟩
/-- a fork, by its condition's value -/
theorem ifs_v (v : Bool) (hc : Val c fr σ (.d (.bool v)) σ') (h1 : v = true → t fr σ' N R) (h2 : v = false → e fr σ' N R) : SX.ifs c t e fr σ N R := ifs_go (hc _ (br_of h1 h2))
theorem ifs_d {p : Prop} [Decidable p] (hc : Val c fr σ (.d (.bool (decide p))) σ') (h1 : p → t fr σ' N R) (h2 : ¬p → e fr σ' N R) : SX.ifs c t e fr σ N R := ifs_go (hc _ (brd h1 h2))
theorem ifs_n {p : Prop} [Decidable p] (hc : Val c fr σ (.d (.bool (!decide p))) σ') (h1 : ¬p → t fr σ' N R) (h2 : p → e fr σ' N R) : SX.ifs c t e fr σ N R :=
  ifs_v _ hc (fun h => h1 (of_decide_eq_false ((Bool.not_not _).symm.trans (congrArg _ h)))) fun h => h2 (of_decide_eq_true ((Bool.not_not _).symm.trans (congrArg _ h)))
theorem ifs_t (hc : Val c fr σ (.d (.bool true)) σ') (h : t fr σ' N R) : SX.ifs c t e fr σ N R := ifs_go (hc _ h)
theorem ifs_f (hc : Val c fr σ (.d (.bool false)) σ') (h : e fr σ' N R) : SX.ifs c t e fr σ N R := ifs_go (hc _ h)
/-- what is behind a statement, once -/
theorem ifs_cut (P : Fr' → Sto → Prop) (k : ∀ N', (∀ fr σ, P fr σ → N' fr σ) → SX.ifs c t e fr σ N' R) (h : ∀ fr σ, P fr σ → N fr σ) : SX.ifs c t e fr σ N R := k N h
theorem val_and (h1 : Val x fr σ (.d (.bool u)) σ') (h2 : u = true → Val y fr σ' (.d (.bool v)) σ') : Val (.and x y) fr σ (.d (.bool (u && v))) σ' := fun K h => h1 _ (match u, h1, h2, h with
  | true, h1, h2, h => h2 rfl K h
  | false, _, _, h => h)
theorem val_or (h1 : Val x fr σ (.d (.bool u)) σ') (h2 : u = false → Val y fr σ' (.d (.bool v)) σ') : Val (.or x y) fr σ (.d (.bool (u || v))) σ' := fun K h => h1 _ (match u, h1, h2, h with
  | true, _, _, h => h
  | false, h1, h2, h => h2 rfl K h)
theorem SC.to {S : Stat} {k k' : Nat} {f : Addr} {as : List AV} {g g' : Gs} {a : AV} {Q : AV → Gs → Prop} (h : SC (S.lv k) f as g fun v g₂ => v = a ∧ g₂ = g') (q : Q a g') (hk : k ≤ k' := by exact Nat.le_refl _) : SC (S.lv k') f as g Q :=
  h.mono hk fun _ _ e => e.1 ▸ e.2 ▸ q
theorem br_and {K : AV → Sto → Prop} (h : K (.d (.bool (u && v))) σ) : br u (K (.d (.bool v)) σ) (K (.d (.bool false)) σ) := match u, h with
  | true, h => h
  | false, h => h
theorem Val.yes {p : Prop} [Decidable p] (hp : p) (hc : Val c fr σ (.d (.bool (decide p))) σ') : Val c fr σ (.d (.bool true)) σ' := by
  rw [decide_eq_true hp] at hc; exact hc
theorem Val.no {p : Prop} [Decidable p] (hp : ¬p) (hc : Val c fr σ (.d (.bool (decide p))) σ') : Val c fr σ (.d (.bool false)) σ' := by
  rw [decide_eq_false hp] at hc; exact hc
theorem nil_go (h : N fr σ) : SL.nil fr σ N R := h
/-- a value by a condition, given back -/
theorem ret_ife {a b : X} {r : SL} {N' : Fr' → Sto → Prop} (hc : Val c fr σ (.d (.bool v)) σ') (h1 : v = true → a fr σ' fun a σ => R a fr σ) (h2 : v = false → b fr σ' fun a σ => R a fr σ) : SL.cons (.ret (.ife c a b)) r fr σ N' R := hc _ (br_of h1 h2)
theorem grd_lt {n : Nat} {P : Prop} (h : n < 1000000000) (p : P) : grd (Nat.blt n 1000000000) P := by
  rw [show Nat.blt n 1000000000 = true from Nat.ble_eq_true_of_le h]; exact p
theorem grd_le {n : Nat} {P : Prop} (h : n ≤ 100000) (p : P) : grd (Nat.ble n 100000) P := by
  rw [show Nat.ble n 100000 = true from Nat.ble_eq_true_of_le h]; exact p
theorem whl_go (I : Nat → Fr' → Sto → Prop) (n : Nat) (h0 : I n fr σ) (h : ∀ n fr σ, I n fr σ → c fr σ fun a σ => isB a fun r => br r (b fr σ (fun fr σ => ∃ m, m < n ∧ I m fr σ) R) (N fr σ)) : SX.whl c b fr σ N R := ⟨I, n, h0, h⟩
end
end Mine
/-! ## ND -/
namespace Mine
open PySem PySem.W PySem.Calls PyProof.Rows Builtin Builtin.ObjectAttr
/-! ## Texts that may raise -/
@[reducible] noncomputable def RX := Fr' → Sto → (Fr' → Sto → Prop) → (AV → Fr' → Sto → Prop) → (Addr → Fr' → Sto → Prop) → Prop
@[reducible] noncomputable def RL := Fr' → Sto → (Fr' → Sto → Prop) → (AV → Fr' → Sto → Prop) → (Addr → Fr' → Sto → Prop) → Prop
/-- what a call finds on the stack, when it may raise -/
structure RP (base : Heap) (outer : List Env) (A : Around) (mod : List Addr) (h : Heap) : Prop where
  fr : A.frames = some outer
  stay : base.StaysIn h
  nomod : ∀ a ∈ mod, base.get? a = none
  ff : h.FunFrames base outer
  ffm : ∀ a ∈ outer.filterMap (·.frame), a ∉ mod
/-- kept, up to slots -/
noncomputable def KS (mod : List Addr) (h h' : Heap) : Prop := ∀ b o, h.get? b = some o → b ∉ mod → (∀ vs, o.data ≠ .fields vs) → ∃ sl, h'.get? b = some { o with slots := sl }
inductive Flew (base : Heap) (outer : List Env) (mod : List Addr) (h : Heap) (e c : Addr) (h' : Heap) : Prop
  | mk {a0} : Heap.FlyingW base outer e (.ref c) a0 h' → KS mod h h' → Flew base outer mod h e c h'
inductive SCR (S : Stat) (f : Addr) (args : List AV) (g : Gs) (Q : AV → Gs → Prop) (R : Addr → Prop) : Prop
  | mk : (∀ (A : Around) (s : Shared) (c : CM) (mu : List (Addr × Obj)) (vs : List Value) (lh : Addr) (base : Heap) (outer : List Env), Rm A S.k → Hp S.hb c mu s.heap → GM S.w S.ad c g mu → VRL S.ad lh c vs args → RP base outer A (mu.map (·.1)) s.heap →
    ∀ (QQ E : Value → Shared → Prop), (∀ v h' tk' c' mu' av g', Out s.heap c (mu.map (·.1)) mu' c' h' → GM S.w S.ad c' g' mu' → VR S.ad lh c' v av → Q av g' → QQ v { s with heap := h', toks := tk' }) →
      (∀ e x h' tk', Flew base outer (mu.map (·.1)) s.heap e x h' → R x → E (.ref e) { s with heap := h', toks := tk' }) →
      wpAny (model PG S.w) A (call (.ref f) vs) QQ E s) → SCR S f args g Q R
theorem SCR.mono {S : Stat} {k k' f args g} {Q Q' : AV → Gs → Prop} {R R' : Addr → Prop} (h : SCR (S.lv k) f args g Q R) (hk : k ≤ k') (q : ∀ a g, Q a g → Q' a g) (r : ∀ x, R x → R' x) : SCR (S.lv k') f args g Q' R' := by
  obtain ⟨h⟩ := h
  exact ⟨fun A s c mu vs lh base outer hA H M hv hp QQ E ret re => h A s c mu vs lh base outer (hA.less hk) H M hv hp QQ E (fun v h' tk' c' mu' av g' O M' V z => ret v h' tk' c' mu' av g' O M' V (q _ _ z)) fun e x h' tk' F z => re e x h' tk' F (r _ z)⟩
theorem SC.scr {S : Stat} {f args g} {Q : AV → Gs → Prop} {R : Addr → Prop} (h : SC S f args g Q) : SCR S f args g Q R := by
  obtain ⟨h⟩ := h
  exact ⟨fun A s c mu vs lh base outer hA H M hv hp QQ E ret re => h A s c mu vs lh hA H M hv QQ E ret⟩
noncomputable def callR (S : Stat) (f : Addr) (as : List AV) (σ : Sto) (Q : AV → Sto → Prop) (E : Addr → Sto → Prop) : Prop := match σ with | ⟨g0, h⟩ => SCR S f as g0 (fun r g => Q r ⟨g, h⟩) fun c => E c ⟨g0, h⟩
theorem callR_inv {S : Stat} {f : Addr} {as : List AV} {σ : Sto} {Q : AV → Sto → Prop} {E : Addr → Sto → Prop} (h : callR S f as σ Q E) : SCR S f as σ.g (fun r g => Q r { σ with g := g }) fun c => E c σ := h
noncomputable def RX.plain (s : SX) : RX := fun fr σ N R _ => s fr σ N R
noncomputable def RX.raise (S : Stat) (c : Addr) : RX := fun fr σ _ _ E => Nat.ble 1 S.k = true ∧ E c fr σ
noncomputable def RX.asgR (S : Stat) (i : Nat) (f : Addr) (xs : XL) : RX := fun fr σ N _ E => xs fr σ fun as σ => callR S f as σ (fun r σ => N (fr.set i (some r)) σ) fun c σ => E c fr σ
noncomputable def RX.asgPR (S : Stat) (is : List Nat) (f : Addr) (xs : XL) : RX := fun fr σ N _ E => xs fr σ fun as σ => callR S f as σ (fun r σ => isD r fun p => onT p fun ds => grd (Nat.beq ds.length is.length) (N (setP fr is ds) σ)) fun c σ => E c fr σ
noncomputable def RX.retTR (S : Stat) (f : Addr) (xs : XL) : RX := fun fr σ _ R E => xs fr σ fun as σ => callR S f as σ (fun r σ => isD r fun d => R (.d (.tuple [d])) fr σ) fun c σ => E c fr σ
inductive RX.ifs (c : X) (t e : RL) (fr : Fr') (σ : Sto) (N : Fr' → Sto → Prop) (R : AV → Fr' → Sto → Prop) (E : Addr → Fr' → Sto → Prop) : Prop
  | mk : (c fr σ fun a σ => isB a fun b => br b (t fr σ N R E) (e fr σ N R E)) → RX.ifs c t e fr σ N R E
inductive RX.whl (c : X) (b : RL) (fr : Fr') (σ : Sto) (N : Fr' → Sto → Prop) (R : AV → Fr' → Sto → Prop) (E : Addr → Fr' → Sto → Prop) : Prop
  | mk (I : Nat → Fr' → Sto → Prop) (n : Nat) : I n fr σ → (∀ n fr σ, I n fr σ → c fr σ fun a σ => isB a fun r => br r (b fr σ (fun fr σ => ∃ m, m < n ∧ I m fr σ) R E) (N fr σ)) → RX.whl c b fr σ N R E
noncomputable def RL.nil : RL := fun fr σ N _ _ => N fr σ
noncomputable def RL.cons (s : RX) (r : RL) : RL := fun fr σ N R E => s fr σ (fun fr σ => r fr σ N R E) R E
section
variable {c : X} {t e b : RL} {fr : Fr'} {σ σ' : Sto} {N : Fr' → Sto → Prop} {R : AV → Fr' → Sto → Prop} {E : Addr → Fr' → Sto → Prop}
theorem ifR_v (v : Bool) (hc : Val c fr σ (.d (.bool v)) σ') (h1 : v = true → t fr σ' N R E) (h2 : v = false → e fr σ' N R E) : RX.ifs c t e fr σ N R E := ⟨hc _ (br_of h1 h2)⟩
theorem ifR_d {p : Prop} [Decidable p] (hc : Val c fr σ (.d (.bool (decide p))) σ') (h1 : p → t fr σ' N R E) (h2 : ¬p → e fr σ' N R E) : RX.ifs c t e fr σ N R E := ⟨hc _ (brd h1 h2)⟩
theorem ifR_n {p : Prop} [Decidable p] (hc : Val c fr σ (.d (.bool (!decide p))) σ') (h1 : ¬p → t fr σ' N R E) (h2 : p → e fr σ' N R E) : RX.ifs c t e fr σ N R E :=
  ifR_v _ hc (fun h => h1 (of_decide_eq_false ((Bool.not_not _).symm.trans (congrArg _ h)))) fun h => h2 (of_decide_eq_true ((Bool.not_not _).symm.trans (congrArg _ h)))
theorem ifR_t (hc : Val c fr σ (.d (.bool true)) σ') (h : t fr σ' N R E) : RX.ifs c t e fr σ N R E := ⟨hc _ h⟩
theorem ifR_f (hc : Val c fr σ (.d (.bool false)) σ') (h : e fr σ' N R E) : RX.ifs c t e fr σ N R E := ⟨hc _ h⟩
theorem ifR_cut (P : Fr' → Sto → Prop) (k : ∀ N', (∀ fr σ, P fr σ → N' fr σ) → RX.ifs c t e fr σ N' R E) (h : ∀ fr σ, P fr σ → N fr σ) : RX.ifs c t e fr σ N R E := k N h
theorem whlR_go (I : Nat → Fr' → Sto → Prop) (n : Nat) (h0 : I n fr σ) (h : ∀ n fr σ, I n fr σ → c fr σ fun a σ => isB a fun r => br r (b fr σ (fun fr σ => ∃ m, m < n ∧ I m fr σ) R E) (N fr σ)) : RX.whl c b fr σ N R E := ⟨I, n, h0, h⟩
end
/-! ## the text's own exceptions -/
noncomputable abbrev pgB : List Value := [.type "ValueError", .type "Exception", .type "BaseException", .type "object"]
noncomputable abbrev pgMro : List Value := .ref 59 :: pgB
noncomputable abbrev pgObj (C N : Addr) (nm : Str) (k0 k1 k2 k3 k5 : Option Value) : Obj := excClassObj nm nm C N [.ref 59] pgMro true [] [] false none none k0 k1 k2 k3 k5 "ValueError.__new__"
inductive PCls (K : Frag) (C : Addr) : Prop
  | mk {nm N k0 k1 k2 k3 k5} : K.lookup C = some (pgObj C N nm k0 k1 k2 k3 k5) → findIn K (.ref C) "__init__" = some (some (.ref 56)) → findIn K (.ref C) "reason" = some none → findIn K (.ref C) "__setattr__" = some (some (.builtin "object.__setattr__")) → PCls K C
theorem Left.pc {K : Frag} (L : Left K) {C : Addr} {o : Obj} {nm N k0 k1 k2 k3 k5} (h : C ∈ ([84, 120] : List Addr)) (ho : K.lookup C = some (pgObj C N nm k0 k1 k2 k3 k5)) : PCls K C :=
  have h1 := and2 (List.all_eq_true.mp (L.at 9 rfl) C h)
  have h2 := and2 h1.1
  ⟨ho, beq_true h2.1, beq_true h2.2, beq_true h1.2⟩
theorem Left.fs {K : Frag} (L : Left K) (j : Nat) {f q i m sg} (hj : fnT[j]? = some (f, q, i, m)) (hs : sigAt i m = some sg) : fnSeen K f = some (q, sg) := by
  have h := congrArg (·[j]?) L.fn
  simp only [List.getElem?_map, hj, Option.map_some, hs, Option.some.injEq] at h
  exact h
inductive DefAt (K : Frag) (dv : Value) (T : Addr) (vs : List Value) : Prop
  | mk {t : Obj} {n} : dv = .ref T → K.lookup T = some t → t.data = .seq vs.toArray n → DefAt K dv T vs
theorem DefAt.of {K : Frag} {f T : Addr} {oc od osl} {fd : FuncData} {vs : List Value} (ho : K.lookup f = some ⟨oc, od, .func fd, osl⟩) (h : defaultsSeen K f = some (T, vs)) : DefAt K fd.defaults T vs := by
  unfold defaultsSeen at h
  rw [ho] at h
  obtain ⟨a, ha, h⟩ := Option.bind_eq_some_iff.mp (show (refOf fd.defaults).bind _ = _ from h)
  obtain ⟨t, ht, h⟩ := Option.bind_eq_some_iff.mp h
  obtain ⟨l, hl, h⟩ := Option.map_eq_some_iff.mp h
  cases h
  obtain ⟨n, hn⟩ := seqOf_inv hl
  exact ⟨refOf_inv ha, ht, hn⟩
theorem Left.pc84 {K : Frag} (L : Left K) : PCls K 84 := L.pc (o := badObj 84 83 75 "BadNumber" 308 316) (.head _) L.num
theorem Left.pc120 {K : Frag} (L : Left K) : PCls K 120 := L.pc (o := badObj 84 83 75 "BadNumber" 308 316) (.tail _ (.head _)) L.grp
section
variable {M : Model} {A : Around} {E : Value → Shared → Prop} {h : Heap} {g : Array GenState} {d : Drawn} {t : Nat} {os : OsState}
variable {nm : Str} {C N : Addr} {k0 k1 k2 k3 k5 : Option Value}
theorem pg_check_new {v : Value} {Q : Unit → Shared → Prop} (hC : h.get? C = some (pgObj C N nm k0 k1 k2 k3 k5)) (hq : Q () ⟨h, g, d, t, os⟩) : wpAny M A (checkBuiltinCall "ValueError.__new__" ⟨[.ref C, v], []⟩) Q E ⟨h, g, d, t, os⟩ := by
  have F := PySem.F.excBase_ValueError
  have hcont : (Value.ref C :: pgMro).contains (.type "ValueError") = true := by simp [pgMro, pgB]
  have hstar := F.noStar
  simp only [checkBuiltinCall, F.newKind, F.newSplit, F.newRow]
  repeat (first | refine wpAny_loadPart_at hC ?_ | (refine wpAny_isSubtype_exc hC ?_; rw [hcont]) | refine wpAny_staticBase_exc hC ?_ | refine wpAny_madeBy_exc hC ?_ | simp only [bne_self_eq_false, Bool.false_eq_true, if_false] | wp_step)
  exact hq
end
section
variable {prog : Program} {w : World} {A : Around} {R : Result → Shared → Prop} {h : Heap} {g : Array GenState} {d : Drawn} {t : Nat} {os : OsState}
variable {nm : Str} {C N : Addr} {k0 k1 k2 k3 k5 : Option Value}
theorem pg_new {v : Value} (hC : h.get? C = some (pgObj C N nm k0 k1 k2 k3 k5))
    (hq : R (.ok (.ret (.ref (h.objs.size + 1)))) ⟨(h.push { cls := .type "tuple", data := .seq [v].toArray }).push
      { cls := .ref C, data := .fields #[.ref h.objs.size, .none, .none, .none, .bool false, .none] }, g, d, t, os⟩) :
    codeAny (model prog w) A (.builtin "ValueError.__new__" ⟨[.ref C, v], []⟩) R ⟨h, g, d, t, os⟩ := by
  have F := PySem.F.excBase_ValueError
  have hends := F.ends
  have hcB : (Value.ref C :: pgMro).contains (.type "ValueError") = true := by simp [pgMro, pgB]
  have hcA : (Value.ref C :: pgMro).contains (.type "AttributeError") = false := by simp [pgMro, pgB]
  have hcN : (Value.ref C :: pgMro).contains (.type "NameError") = false := by simp [pgMro, pgB]
  refine codeAny_builtinAt F.entry ?_
  unfold Builtin.«BaseException.__new__»
  refine PySem.wpAt_bind ?_
  show PySem.wpAt _ _ _ (stack >>= _) _ _ _
  refine PySem.wpAt_bind (PySem.wpAt_stack fun p below => PySem.wpAt_of_wpAny ?_)
  wp_walk
  refine PySem.wpAt_of_wpAny ?_
  rw [F.owner]
  repeat (first | with_reducible refine wpAny_madeHere_exc F.canon hC ?_ | with_reducible refine wpAny_loadPart_at hC ?_ | (with_reducible refine wpAny_isSubtype_exc hC ?_; first | rw [hcB] | rw [hcA] | rw [hcN]) | wp_step)
  show R _ _
  rw [Heap.size_push]
  exact hq
/-- an exception of the text's own, made and set up -/
theorem pg_make {v : Value} (hC : h.get? C = some (pgObj C N nm k0 k1 k2 k3 k5)) (hi : Looks (model prog w) h (typeLookup (.ref C) "__init__") (some (.ref 56)))
    (hb : ∀ self, Looks (model prog w) h (bindSpecial (.ref 56) self) (.ref 56, [self]))
    (hq : codeAny (model prog w) (A.under (.builtin "type.__call__" ⟨[.ref C, v], []⟩)) (.call (.ref 56) ⟨[.ref (h.objs.size + 1), v], []⟩) (InitBack (h.objs.size + 1) R) ⟨(h.push { cls := .type "tuple", data := .seq [v].toArray }).push
      { cls := .ref C, data := .fields #[.ref h.objs.size, .none, .none, .none, .bool false, .none] }, g, d, t, os⟩) :
    codeAny (model prog w) A (.call (.ref C) ⟨[v], []⟩) R ⟨h, g, d, t, os⟩ := by
  have f1 := tc_lookup
  have f2 := tc_bind (.ref C)
  have hT : (⟨h, g, d, t, os⟩ : Shared).TypeIs (.ref C) "type" := ⟨_, hC, rfl⟩
  refine codeAny_of_tree ?_
  show wpAny _ _ (callAny (.ref C) _) _ _ _
  repeat (any_goals (first | assumption | with_reducible refine wpAny_loadPart_at hC ?_ | wp_step))
  refine ⟨rfl, ?_⟩
  refine codeAny_call_builtin_at (Code.quiet_builtin _ (by decide +kernel)) entry_typeCall (wpAny_check_type_call_sub hC ?_)
  repeat (first | with_reducible refine wpAny_loadPart_at hC ?_ | with_reducible refine wpAny_madeBy_exc hC ?_ | wp_step)
  refine codeAny_call_builtin_code (Code.quiet_builtin _ PySem.F.excBase_ValueError.quiet) (pg_check_new hC ?_)
  refine pg_new hC ?_
  show wpAny _ _ _ _ _ _
  let h2 := (h.push { cls := .type "tuple", data := .seq [v].toArray }).push { cls := .ref C, data := .fields #[.ref h.objs.size, .none, .none, .none, .bool false, .none] }
  have k : ∀ b o, h.get? b = some o → h2.get? b = some o := fun b o e => Heap.get?_push_of_some _ (Heap.get?_push_of_some _ e)
  have hx : h2.get? (h.objs.size + 1) = some { cls := .ref C, data := .fields #[.ref h.objs.size, .none, .none, .none, .bool false, .none] } := by show Heap.get? (Heap.push _ _) _ = _; heap_get
  have t1 : Looks (model prog w) h2 (typeOf (.ref (h.objs.size + 1))) (.ref C) := (Looks.ld hx).andThen .now
  have hcC : (Value.ref C :: pgMro).contains (.ref C) = true := by simp
  have s1 : Looks (model prog w) h2 (isSubtype (.ref C) (.ref C)) true := fun A Q E s kk q => by
    obtain ⟨hs, g', d', t', os'⟩ := s
    refine wpAny_isSubtype_exc (kk _ _ (k _ _ hC)) ?_
    rw [hcC]; exact q
  have i1 := hi.keeps k
  have b1 := (hb (.ref (h.objs.size + 1))).keeps k
  unfold isInstance callSpecial? specialOf
  repeat (first | with_reducible refine wpAny_call ?_ | lk)
  refine codeAny_mono hq fun r s' z => ?_
  rcases r with e | (v | _ | _ | _) <;> first | exact z | exact z.elim | skip
  obtain ⟨rfl, z⟩ := z
  exact wpAny_pure (wpAny_pure z)
end
noncomputable abbrev exObj (C t0 : Addr) (dd : Option Addr) : Obj := { cls := .ref C, dict := dd, data := .fields #[.ref t0, .none, .none, .none, .bool false, .none] }
section
variable {K : Frag} {w : World} {A : Around} {R : Result → Shared → Prop} {s : Shared} {C e t0 : Addr}
theorem pg_osa (P : PCls K C) (X : K.In s.heap) {tk : Tok} {v : Value} (he : s.heap.get? e = some (exObj C t0 none))
    (hq : ∀ h' tk', (∀ b o, b ≠ e → s.heap.get? b = some o → h'.get? b = some o) → (∃ dd, h'.get? e = some (exObj C t0 dd)) → R (.ok (.ret .none)) { s with heap := h', toks := tk' }) :
    codeAny (model PG w) A (.call (.builtin "object.__setattr__") ⟨[.ref e, .str "reason" tk, v], []⟩) R s := by
  have SF := PySem.F.store_ValueError
  cases P with | @mk nm N k0 k1 k2 k3 k5 hC Pini Prea Psat =>
  obtain ⟨h, g, d, t, os⟩ := s
  have hC' := X _ _ hC
  have t1 : Looks (model PG w) h (typeOf (.ref e)) (.ref C) := (Looks.ld he).andThen .now
  have hcO : (Value.ref C :: pgMro).contains (.type "object") = true := by simp [pgMro, pgB]
  have s1 : Looks (model PG w) h (isSubtype (.ref C) (.type "object")) true := fun A Q E s kk q => by
    obtain ⟨hs, g', d', t', os'⟩ := s
    refine wpAny_isSubtype_exc (kk _ _ hC') ?_
    rw [hcO]; exact q
  have sub : Looks (model PG w) h (isInstance (.ref e) (.type "object")) true := t1.andThen s1
  refine codeAny_call_builtin SF.slot.plain SF.entry (@check_slot (model PG w) _ _ _ "object.__setattr__" "object" "__setattr__" (.ref e) [.str "reason" tk, v] [] _ SF.kind SF.split sub (SF.args (.ref e) (.str "reason" tk) v) ?_)
  rw [osa_eq, refuse_eq]
  refine wpAny_bind (wpAny_bind (t1.at (wpAny_bind (wpAny_mroOf_exc hC' ?_))))
  rw [refuseLoop_ref, refuseLoop_ref, SF.passes]
  refine wpAny_pure (wpAny_bind (t1.at (wpAny_bind ((looks_findIn X Prea).at ?_))))
  unfold storeTaker?
  refine wpAny_bind (wpAny_pure ?_)
  show wpAny _ _ (storeInOwnDict _ _ _ _ _ _) _ _ _
  unfold storeInOwnDict ownStreamTells ownDictForStores instanceDict
  repeat (first | (with_reducible refine wpAny_loadPart_at he ?_) | wp_step)
  have hes : e ≠ h.objs.size := Nat.ne_of_lt (Heap.lt_size he)
  have he1 : (h.push { cls := .type "dict", data := .dict #[] }).get? e = some (exObj C t0 none) := Heap.get?_push_of_some _ he
  have D : ((h.push { cls := .type "dict", data := .dict #[] }).update e fun o => { cls := o.cls, dict := some h.objs.size, data := o.data, slots := o.slots }).get? h.objs.size = some { cls := .type "dict", data := .dict #[] } :=
    (Heap.get?_update_ne _ _ _ _ hes.symm).trans (Heap.get?_push_at rfl rfl)
  refine wpAny_askSetting (wpAny_pure (wpAny_bind (wpAny_mkText (wpAny_bind (wpAny_loadPart D ?_)))))
  have hno : aRefKeyMayBeTheName "reason" #[] = false := rfl
  dsimp only
  rw [hno]
  refine wpAny_updatePart D ?_
  refine wpAny_bind (wpAny_lookBehind (Heap.get?_update_self _ D rfl) (pastItsLine_dict (Nat.le_of_ble_eq_true rfl)) ?_)
  refine wpAny_pure (hq _ _ (fun b o hb hbo => ?_) ⟨some h.objs.size, ?_⟩)
  · rw [Heap.get?_update_other _ _ (Nat.ne_of_gt (Heap.lt_size hbo)), Heap.get?_update_other _ _ (Ne.symm hb)]
    exact Heap.get?_push_of_some _ hbo
  · rw [Heap.get?_update_other _ _ hes.symm]
    exact Heap.get?_update_self _ he1 rfl
theorem pg_init (P : PCls K C) (X : K.In s.heap) (nl : s.heap.NoLimit) (hroom : A.depth < recursionLimit) {v : Value} (he : s.heap.get? e = some (exObj C t0 none)) {name qual : Str} {params : Arguments} {scope : Scope} {dV kV doc pm cdv ct oc : Value} {an od : Option Addr} {osl : Array (Option Value)} {p1 p2 p3 p4 : Pos}
    (ho : K.lookup 56 = some ⟨oc, od, .func (fnOf name qual params [.Assign [.Attribute (.Name "self" p1) "reason" p2] (.Name "reason" p3) p4] scope dV kV doc pm an cdv ct), osl⟩) (hcd : codeIn K cdv qual = true)
    (hbind : ∀ (s : Shared) a b, K.In s.heap → BindsTo s (fnOf name qual params [.Assign [.Attribute (.Name "self" p1) "reason" p2] (.Name "reason" p3) p4] scope dV kV doc pm an cdv ct) ⟨[a, b], []⟩ [("self", a), ("reason", b)])
    (hns : scope.names = [(("self" : Str), NameKind.local), (("reason" : Str), NameKind.local)]) (hco : scope.isCoroutine = false) (hgen : scope.isGenerator = false) (hk : scope.kind = .function)
    (hq : ∀ h' tk', (∀ b o, b ≠ e → s.heap.get? b = some o → h'.get? b = some o) → (∃ dd, h'.get? e = some (exObj C t0 dd)) → R (.ok (.ret .none)) { s with heap := h', toks := tk' }) :
    codeAny (model PG w) A (.call (.ref 56) ⟨[.ref e, v], []⟩) R s := by
  refine codeAny_call_def hroom (X _ _ ho) rfl nl (codeRec_of X hcd) rfl (hbind s (.ref e) v X) (by show ∀ x ∈ scope.names, _; rw [hns]; decide) (by show ∀ x ∈ [(_, _), (_, _)], scope.names.lookup x.1 = _; rw [hns]; simp; decide) (fun h₀ hn hk₀ => ?_) hco hgen hk
  have hl : ∀ (x : Str), (x = "self" ∨ x = "reason") → (callEnv (fnOf name qual params [.Assign [.Attribute (.Name "self" p1) "reason" p2] (.Name "reason" p3) p4] scope dV kV doc pm an cdv ct) s.heap.objs.size 56).kindOf x = some .local := by
    rintro x (rfl | rfl) <;> (show scope.names.lookup _ = _; rw [hns]; rfl)
  refine wpAny_execs_cons (plainObj_wpAny_Assign_Attribute (wpAny_Name (wpAny_loadName_local (v := v) hk (hl _ (.inr rfl)) hn rfl ?_) (by decide)) ?_)
  · refine wpAny_Name (wpAny_loadName_local (v := .ref e) hk (hl _ (.inl rfl)) hn rfl ?_) (by decide)
    have X0 : K.In h₀ := fun b o q => hk₀ _ _ (X _ _ q)
    have I : InstAt h₀ e (exObj C t0 none) C none := ⟨hk₀ _ _ he, rfl, rfl, trivial⟩
    refine set_plain (s := ⟨h₀, _, _, _, _⟩) X0 I (by cases P with | mk _ _ _ z => exact z) (pg_osa P X0 (hk₀ _ _ he) fun h' tk' k1 k2 => ?_)
    refine wpAny_execs_nil ?_
    exact hq h' tk' (fun b o hb hbo => k1 b o hb (hk₀ _ _ hbo)) k2
  · rfl
theorem pg_call (L : Left K) (P : PCls K C) (X : K.In s.heap) (nl : s.heap.NoLimit) (hroom : A.depth + 1 < recursionLimit) {v : Value} {Q E : Value → Shared → Prop}
    (hq : ∀ e t0 h' tk', s.heap.get? e = none → (∀ b o, s.heap.get? b = some o → h'.get? b = some o) → (∃ dd, h'.get? e = some (exObj C t0 dd)) → Q (.ref e) { s with heap := h', toks := tk' }) :
    wpAny (model PG w) A (call (.ref C) [v]) Q E s := by
  have P0 := P
  cases P with | @mk nm N k0 k1 k2 k3 k5 hC Pini Prea Psat =>
  cases FnAt.of (L.fs 40 rfl rfl) with | mk ho hcd hdv =>
  cases DefAt.of ho L.pge with | mk dv hT hd =>
  obtain ⟨h, g, d, t, os⟩ := s
  refine wpAny_call (pg_make (X _ _ hC) (looks_findIn X Pini) (fun self => bind_fn X self (beq_true (and2 (L.at 7 rfl)).2)) ?_)
  have hlt : ∀ b o, h.get? b = some o → b ≠ h.objs.size + 1 := fun b o q => Nat.ne_of_lt (Nat.lt_succ_of_lt (Heap.lt_size q))
  refine pg_init (w := w) (C := C) (e := h.objs.size + 1) (t0 := h.objs.size) P0 (fun b o q => Heap.get?_push_of_some _ (Heap.get?_push_of_some _ (X _ _ q))) ?nl ?room (Heap.get?_push_at (by simp only [Heap.size_push]) rfl) ho hcd (fun s a b X' => binds_K X' dv hT hd rfl rfl) rfl rfl rfl rfl ?_
  case room =>
    rw [depth_under_kw]; exact hroom
  case nl => exact (nl.keeps (fun b o e => Heap.get?_push_of_some _ (Heap.get?_push_of_some _ e)))
  intro h' tk' h1 h2
  refine ⟨rfl, hq _ _ _ _ (Heap.get?_none_of_le (Nat.le_succ _)) (fun b o q => h1 b o (hlt b o q) (Heap.get?_push_of_some _ (Heap.get?_push_of_some _ q))) h2⟩
end
section
variable {K : Frag} {w : World} {A : Around} {E : Value → Shared → Prop} {s : Shared} {C : Addr} {env : Env}
variable {nm : Str} {N : Addr} {k0 k1 k2 k3 k5 : Option Value}
theorem pg_raiseStmt {M : Model} {x : Sem Value} {Q : Flow → Shared → Prop} (hh : A.handled = none)
    (h : wpAny M A x (fun v s₁ => ∃ e t dd, v = .ref e ∧ s₁.heap.get? C = some (pgObj C N nm k0 k1 k2 k3 k5) ∧ s₁.heap.get? e = some (exObj C t dd) ∧ E (.ref e) s₁) E s) :
    wpAny M A (raiseStmt env (some x) none) Q E s := by
  have hcB : (Value.ref C :: pgMro).contains (.type "BaseException") = true := by simp [pgMro, pgB]
  unfold raiseStmt
  refine wpAny_bind (wpAny_mono h (fun v s₁ h₁ => ?_) fun _ _ x => x)
  obtain ⟨e, t, dd, rfl, hC, he, hE⟩ := h₁
  obtain ⟨hp, g, d, tk, os⟩ := s₁
  repeat (first | with_reducible refine wpAny_loadPart_at he ?_ | with_reducible refine wpAny_loadPart_at hC ?_ | (with_reducible refine wpAny_isSubtype_exc hC ?_; rw [hcB]) | wp_step)
  exact wpAny_raiseNew_none hh hE
theorem pg_raise (L : Left K) (P : PCls K C) (X : K.In s.heap) (nl : s.heap.NoLimit) (hroom : A.depth + 1 < recursionLimit) (hh : A.handled = none) {x : Str} {np cpos pos cp : Pos} {msg : Str} {k : Nat} {Q : Flow → Shared → Prop}
    (hev : ∀ {QQ : Value → Shared → Prop}, QQ (.ref C) s → wpAny (model PG w) A (eval (.Name x np) env) QQ E s)
    (hq : ∀ e t0 h' tk', s.heap.get? e = none → (∀ b o, s.heap.get? b = some o → h'.get? b = some o) → (∃ dd, h'.get? e = some (exObj C t0 dd)) → E (.ref e) { s with heap := h', toks := tk' }) :
    wpAny (model PG w) A (exec (.Raise (some (.Call (.Name x np) [.Constant (.str msg) k cp] [] cpos)) none pos) env) Q E s := by
  have ⟨nm, N, k0, k1, k2, k3, k5, hC⟩ : ∃ nm N k0 k1 k2 k3 k5, K.lookup C = some (pgObj C N nm k0 k1 k2 k3 k5) := by cases P with | mk hC => exact ⟨_, _, _, _, _, _, _, hC⟩
  rw [arm_exec_Raise]
  simp only [evalOpt, Option.map]
  refine wpAny_bind (wpAny_standAt (pg_raiseStmt (C := C) (N := N) (nm := nm) (k0 := k0) (k1 := k1) (k2 := k2) (k3 := k3) (k5 := k5) hh (wpAny_bind (wpAny_mono (wpAny_Call_ofName (hev ?_)) (fun v s₃ h₃ => wpAny_bind (wpAny_standAt (wpAny_pure h₃))) fun _ _ x => x))))
  unfold callWith
  refine wpAny_bind (wpAny_holding (Calls.evalArgs_plain ?_))
  refine spliced_more (Constant_str ?_) rfl
  refine spliced_none ?_
  have hplain : (backTo cpos (starEach [Expr.Constant (Const.str msg) k cp] env)).any (·.1) = false := rfl
  obtain ⟨h, g, d, tk, os⟩ := s
  refine wpAny_bind (wpAny_standAt ?_)
  simp only [hplain]
  refine wpAny_bind (wpAny_keeperOf_exc (X _ _ hC) ?_)
  refine wpAny_bind (pg_call (s := ⟨h, g, d, tk + 1, os⟩) L P X nl hroom fun e t0 h' tk' h1 h2 h3 => wpAny_bind (wpAny_holding (wpAny_point (wpAny_pure ?_))))
  obtain ⟨dd, h3'⟩ := id h3
  exact ⟨e, t0, dd, rfl, h2 _ _ (X _ _ hC), h3', hq e t0 h' tk' h1 h2 h3⟩
end
end Mine
/-! ## NE -/
namespace Mine
open PySem PySem.W PySem.Calls PyProof.Rows
/-- what a frame knows of the stack -/
structure RF (base : Heap) (outer : List Env) (A : Around) (env : Env) (d : Dy) : Prop where
  fr : A.frames = some (env :: outer)
  f : env.frame = some d.L
  stay : base.StaysIn d.s₀
  nomod : ∀ a ∈ d.mod, base.get? a = none
  ff : d.s₀.FunFrames base outer
  ffm : ∀ a ∈ outer.filterMap (·.frame), a ∉ d.mod
theorem ff_of {h h' base : Heap} : ∀ {l : List Env}, h.FunFrames base l → (∀ a ∈ l.filterMap (·.frame), ∀ o, h.get? a = some o → h'.get? a = some o) → h'.FunFrames base l
  | [], _, _ => trivial
  | env :: r, ⟨hk, ⟨L, o, hf, hn, ho, hd⟩, hr⟩, k => by
    refine ⟨hk, ⟨L, o, hf, hn, k L ?_ o ho, hd⟩, ff_of hr fun a ha o ho => k a ?_ o ho⟩
    · simp [hf]
    · rw [List.filterMap_cons, hf]; exact .tail _ ha
theorem ff_mem {h base : Heap} : ∀ {l : List Env}, h.FunFrames base l → ∀ a ∈ l.filterMap (·.frame), base.get? a = none ∧ ∃ o, h.get? a = some o ∧ ∀ vs, o.data ≠ .fields vs
  | env :: r, ⟨hk, ⟨L, o, hf, hn, ho, hd⟩, hr⟩, a, ha => by
    rw [List.filterMap_cons, hf] at ha
    rcases List.mem_cons.mp ha with rfl | ha
    · exact ⟨hn, o, ho, hd⟩
    · exact ff_mem hr a ha
section
variable {S : Stat} {ks : List (Str × NameKind)} {d : Dy} {T : Tm} {fr : Fr'} {σ : Sto} {A : Around} {env : Env} {base : Heap} {outer : List Env}
theorem base_none {h base : Heap} (k : base.StaysIn h) {a : Addr} (e : h.get? a = none) : base.get? a = none := by
  cases q : base.get? a with
  | none => rfl
  | some o => rw [k _ _ q] at e; cases e
theorem RF.stays (F : RF base outer A env d) {c : CM} {m : Str → Option Value} {mu : List (Addr × Obj)} {h : Heap} (Sx : Mine.Sx S.hb d.s₀ d.c₀ d.mod c d.L m mu h) : base.StaysIn h :=
  fun b o e => Sx.kept _ _ (F.stay _ _ e) fun q => by rw [F.nomod _ q] at e; cases e
theorem RF.ffs (F : RF base outer A env d) (H : EnvOk ks d env) {c : CM} {m : Str → Option Value} {mu : List (Addr × Obj)} {h : Heap} (Sx : Mine.Sx S.hb d.s₀ d.c₀ d.mod c d.L m mu h) : h.FunFrames base (env :: outer) := by
  obtain ⟨oL, es, ep, hL, hd, _⟩ := Sx.ns
  refine ⟨by rw [H.kind]; decide, ⟨d.L, oL, F.f, ?_, hL, by rw [hd]; intro vs q; cases q⟩, ff_of F.ff fun a ha o ho => Sx.kept _ _ ho (F.ffm _ ha)⟩
  rcases Sx.sizeL with z | z
  · exact F.nomod _ z
  · exact base_none F.stay z
theorem RF.rp (F : RF base outer A env d) (H : EnvOk ks d env) {c : CM} {m : Str → Option Value} {pass rest : List (Addr × Obj)} {h : Heap} (Sx : Mine.Sx S.hb d.s₀ d.c₀ d.mod c d.L m (pass ++ rest) h) : RP base (env :: outer) A (pass.map (·.1)) h where
  fr := F.fr
  stay := F.stays Sx
  nomod := fun a ha => by
    obtain ⟨p, hp, rfl⟩ := List.mem_map.mp ha
    rcases (Sx.own p (List.mem_append_left _ hp)).2.2.2 with z | z
    · exact F.nomod _ z
    · exact base_none F.stay z
  ff := F.ffs H Sx
  ffm := fun a ha q => by
    obtain ⟨p, hp, rfl⟩ := List.mem_map.mp q
    have own := Sx.own p (List.mem_append_left _ hp)
    rw [List.filterMap_cons, F.f] at ha
    rcases List.mem_cons.mp ha with z | ha
    · exact own.2.1 z
    · rcases own.2.2.2 with z | z
      · exact F.ffm _ ha z
      · obtain ⟨_, o, ho, _⟩ := ff_mem F.ff _ ha
        rw [z] at ho; cases ho
/-- an exception that is on its way within a frame -/
inductive FrN (S : Stat) (ks : List (Str × NameKind)) (d : Dy) (fr : Fr') (h' : Heap) : Prop
  | mk {c lh m} : h'.Ns d.L m → FrR S.ad lh c ks d.cl fr m → FrN S ks d fr h'
theorem FrN.slots {h h' : Heap} (x : FrN S ks d fr h) (u : h.UpToSlots h') : FrN S ks d fr h' := by
  cases x with | mk a b => exact ⟨u.ns a, b⟩
inductive XcS (base : Heap) (l : List Env) (c e L : Addr) (h' : Heap) : Prop
  | fresh {t0 dd} : base.StaysIn h' → h'.FunFrames base l → base.get? e = none → h'.get? e = some (exObj c t0 dd) → XcS base l c e L h'
  | fly {a0} : Heap.FlyingW base l e (.ref c) a0 h' → XcS base l c e L h'
  | held {a0} : Heap.HeldW base l e (.ref c) a0 L h' → XcS base l c e L h'
inductive Xc (S : Stat) (ks : List (Str × NameKind)) (base : Heap) (l : List Env) (d : Dy) (fr : Fr') (c e : Addr) (h' : Heap) : Prop
  | mk : FrN S ks d fr h' → XcS base l c e d.L h' → KS d.mod d.s₀ h' → Xc S ks base l d fr c e h'
theorem KS.slots {mod : List Addr} {h h' h'' : Heap} (k : KS mod h h') (u : h'.UpToSlots h'') : KS mod h h'' := fun b o e hm hn => by
  obtain ⟨sl, z⟩ := k b o e hm hn
  obtain ⟨sl', z'⟩ := u b _ z hn
  exact ⟨sl', z'⟩
theorem ex_leaves {M : Model} {E : Value → Shared → Prop} {c e : Addr} {s : Shared} {Q : Unit → Shared → Prop} (F : RF base outer A env d) (x : Xc S ks base (env :: outer) d fr c e s.heap)
    (h : ∀ a0 h', Heap.FlyingW base outer e (.ref c) a0 h' → KS d.mod d.s₀ h' → Q () { s with heap := h' }) : wpAny M A (leaving env (.ref e)) Q E s := by
  cases x with | mk _ x ks =>
  cases x with
  | fresh x1 x2 x3 x4 =>
    refine wpAny_leaving_firstW F.fr x2 F.f x4 x1 x3 rfl rfl rfl fun h' hL => ?_
    obtain ⟨k1, ⟨_, _, k2⟩, k3, k4⟩ := hL
    exact h _ h' ⟨k1, x3, k2, k3⟩ (ks.slots k4)
  | fly x => exact wpAny_leaves_onW F.fr F.f x fun h' k1 k2 => h _ h' k1 (ks.slots k2)
  | held x =>
    unfold leaving
    refine wpAny_bind (wpAny_noteFrame_againW F.f x.2.2.2 (wpAny_landsW x fun h' k1 k2 => ?_))
    obtain ⟨a, b, ⟨_, _, c⟩, d⟩ := k1
    exact h _ h' ⟨a, b, c, d⟩ (ks.slots k2)
theorem ex_noted {M : Model} {E : Value → Shared → Prop} {c e : Addr} {s : Shared} {Q : Unit → Shared → Prop} (F : RF base outer A env d) (x : Xc S ks base (env :: outer) d fr c e s.heap)
    (h : ∀ a0 h', Heap.HeldW base (env :: outer) e (.ref c) a0 d.L h' → KS d.mod d.s₀ h' → FrN S ks d fr h' → Q () { s with heap := h' }) : wpAny M A (noteFrame (.ref e) env) Q E s := by
  cases x with | mk fn x ks =>
  cases x with
  | fresh x1 x2 x3 x4 =>
    unfold noteFrame
    rw [F.f]
    dsimp only
    refine wpAny_bind (wpAny_field (x := .none) x4 rfl rfl ?_)
    rw [if_neg (show ¬ ((Value.none != Value.none) = true) from by simp)]
    refine wpAny_entryW F.fr x2 F.f x4 x1 x3 rfl (Nat.lt_of_succ_le (Nat.le_of_ble_eq_true rfl)) rfl fun h' hN => ?_
    obtain ⟨k1, k2, k3, k4⟩ := hN
    exact h _ h' ⟨k1, x3, k2, k3⟩ (ks.slots k4) (fn.slots k4)
  | fly x => exact wpAny_looks_onW F.fr F.f x fun h' k1 k2 => h _ h' k1 (ks.slots k2) (fn.slots k2)
  | held x => exact wpAny_noteFrame_againW F.f x.2.2.2 (h _ s.heap x ks fn)
theorem ex_back {M : Model} {E : Value → Shared → Prop} {c e : Addr} {a0 : Value} {s : Shared} (F : RF base outer A env d) (x : Heap.HeldW base (env :: outer) e (.ref c) a0 d.L s.heap) (kk : KS d.mod d.s₀ s.heap) (fn : FrN S ks d fr s.heap)
    (h : ∀ h', Xc S ks base (env :: outer) d fr c e h' → E (.ref e) { s with heap := h' }) : cameBackBy M A env E (.ref e) s := by
  obtain ⟨f1, f2, f3, oe, vs, T, oT, ts, he, hcls, hd, h1, hnT, hTe, hT, hdT, h3⟩ := x
  have hsz3 : 3 < ts.size := (Array.getElem?_eq_some_iff.mp h3).1
  have other : ∀ b, b ≠ T → (s.heap.update T (Obj.mapFields (·.setIfInBounds 3 ((some d.L : Option Addr).elim Value.none fun f => rawInt f)))).get? b = s.heap.get? b :=
    fun b hb => Heap.get?_update_other _ _ (Ne.symm hb)
  have noRecord : ∀ b o, s.heap.get? b = some o → (∀ vs, o.data ≠ .fields vs) → b ≠ T := fun b o hb hnf q => by
    rw [q, hT] at hb; injection hb with hb; subst hb; exact hnf ts hdT
  unfold cameBackBy
  refine wpAny_bind (wpAny_field he hd h1 ?_)
  rw [if_neg (show ¬ ((Value.ref T == Value.none) = true) from by simp)]
  rw [F.f]
  unfold setFlight
  show wpAny M A (field (Value.ref e) 1 >>= _) _ _ _
  refine wpAny_bind (wpAny_field he hd h1 ?_)
  rw [if_pos (show (Value.ref T != Value.none) = true from by simp)]
  refine wpAny_setField hT hdT hsz3 (h _ ⟨fn.slots fun b o hb hnf => ⟨o.slots, (other b (noRecord b o hb hnf)).trans hb⟩, .held (a0 := a0) ⟨fun b o hbo => (other b fun q => by rw [q, hnT] at hbo; cases hbo).trans (f1 b o hbo), f2, ?_, ?_⟩, fun b o hb hm hn => ?_⟩)
  · exact f3.of_keeps fun b o hb hnf => ⟨o, (other b (noRecord b o hb hnf)).trans hb, rfl⟩
  · exact ⟨oe, vs, T, _, _, (other e (Ne.symm hTe)).trans he, hcls, hd, h1, hnT, hTe, Heap.get?_update_self _ hT (Obj.isFreed_of_fields (Obj.data_mapFields hdT _)), Obj.data_mapFields hdT _, by simp [hsz3]⟩
  · obtain ⟨sl, z⟩ := kk b o hb hm hn
    exact ⟨sl, (other b (noRecord b _ z hn)).trans z⟩
end
/-! ## statements that may raise -/
theorem ks_ns {mod : List Addr} {h h' : Heap} {L : Addr} {m : Str → Option Value} (k : KS mod h h') (n : h.Ns L m) (hL : L ∉ mod) : h'.Ns L m := by
  obtain ⟨oL, es, ep, hLo, hd, hr⟩ := n
  obtain ⟨sl, z2⟩ := k _ _ hLo hL (by rw [hd]; intro vs q; cases q)
  exact ⟨_, es, ep, z2, hd, hr⟩
theorem Sx.kept2 {hb s₀ : Heap} {c₀ c : CM} {mod : List Addr} {L : Addr} {m : Str → Option Value} {pass rest : List (Addr × Obj)} {h h' : Heap} (X : Sx hb s₀ c₀ mod c L m (pass ++ rest) h) (k : KS (pass.map (·.1)) h h') : KS mod s₀ h' := fun b o hb hm hn => by
  refine k b o (X.kept _ _ hb hm) (fun q => ?_) hn
  obtain ⟨p, hp, rfl⟩ := List.mem_map.mp q
  rcases (X.own p (List.mem_append_left _ hp)).2.2.2 with z | z
  · exact hm z
  · exact nomatch z.symm.trans hb
section
variable {S : Stat} {ks : List (Str × NameKind)}
theorem scr_sound {d : Dy} {env : Env} {T : Tm} {fr : Fr'} {σ : Sto} {A : Around} {E : Value → Shared → Prop} {s : Shared} {base : Heap} {outer : List Env} {QQ : Value → Shared → Prop} {f : Addr} {as : List AV} {vs : List Value} {Q : AV → Sto → Prop} {R' : Addr → Sto → Prop}
    (H : EnvOk ks d env) (F : RF base outer A env d) (hA : Rm A S.k) (R : Rl S ks d (Tm.l S.ad vs as T) fr σ s.heap) (C : callR S f as σ Q R')
    (ret : ∀ v a σ' h' tk', Rl S ks d (Tm.v S.ad v a T) fr σ' h' → Q a σ' → QQ v { s with heap := h', toks := tk' })
    (re : ∀ e x h' tk', Xc S ks base (env :: outer) d fr x e h' → R' x σ → E (.ref e) { s with heap := h', toks := tk' }) : wpAny (model PG S.w) A (call (.ref f) vs) QQ E s := by
  have C := callR_inv C
  obtain ⟨C⟩ := C
  cases R with | mk c m mg mh lh X G Hh FF t =>
  refine C A s c mg vs lh base (env :: outer) hA X.hp G t.1 (F.rp H X) QQ E (fun v h' tk' c' mu' av g' O M' V z => ret v av { σ with g := g' } h' tk' ⟨c', m, mu', mh, lh, X.back O, M', Hh.mono O.grow, FF.mono O.grow, V, T.mono O.grow t.2⟩ z) fun e x h' tk' fl z => ?_
  cases fl with | mk fl kk =>
  refine re e x h' tk' ⟨⟨ks_ns kk X.ns fun q => ?_, FF⟩, .fly fl, X.kept2 kk⟩ z
  obtain ⟨p, hp, e⟩ := List.mem_map.mp q
  exact (X.own p (List.mem_append_left _ hp)).2.1 e
theorem call_r {d : Dy} {env : Env} {T : Tm} {fr : Fr'} {σ : Sto} {A : Around} {E : Value → Shared → Prop} {s : Shared} {base : Heap} {outer : List Env} {QQ : Value → Shared → Prop} {i j : Nat} {x : Str} {f : Addr} {es : List Expr} {xs : XL} {xp pos : Pos}
    {Q : AV → Sto → Prop} {R' : Addr → Sto → Prop} (hi : ks[i]? = some (x, .globalImplicit)) (hj : gfun[j]? = some (x, f)) (h : SEL S ks es xs)
    (H : EnvOk ks d env) (F : RF base outer A env d) (hA : Rm A S.k) (R : Rl S ks d T fr σ s.heap) (hx : xs fr σ fun as σ => callR S f as σ Q R')
    (ret : ∀ v a σ' h' tk', Rl S ks d (Tm.v S.ad v a T) fr σ' h' → Q a σ' → QQ v { s with heap := h', toks := tk' })
    (re : ∀ e x σ' h' tk', Xc S ks base (env :: outer) d fr x e h' → R' x σ' → E (.ref e) { s with heap := h', toks := tk' }) :
    wpAny (model PG S.w) A (eval (.Call (.Name x xp) es [] pos) env) QQ E s :=
  eval_call (ev_glob H R hi (S.gf (List.mem_of_getElem? hj)).1 (callWith_ h H hA R (S.gf (List.mem_of_getElem? hj)).2 hx fun vs as σ' h1 tk1 R1 C => scr_sound (s := { s with heap := h1, toks := tk1 }) H F hA R1 C ret fun e x h' tk' X q => re e x σ' h' tk' X q))
/-- a text that may raise is sound -/
noncomputable def ExR (S : Stat) (ks : List (Str × NameKind)) (run : Env → Sem Flow) (x : RX) : Prop :=
  ∀ {d env T fr σ A E s base outer} {QQ : Flow → Shared → Prop} {N : Fr' → Sto → Prop} {Rt : AV → Fr' → Sto → Prop} {Re : Addr → Fr' → Sto → Prop}, EnvOk ks d env → RF base outer A env d → Rm A S.k → T.Free → Rl S ks d T fr σ s.heap → x fr σ N Rt Re →
    (∀ fr' σ' h' tk', Rl S ks d T fr' σ' h' → N fr' σ' → QQ .next { s with heap := h', toks := tk' }) →
    (∀ v a fr' σ' h' tk', Rl S ks d (Tm.v S.ad v a T) fr' σ' h' → Rt a fr' σ' → QQ (.ret v) { s with heap := h', toks := tk' }) →
    (∀ e c fr' σ' h' tk', Xc S ks base (env :: outer) d fr' c e h' → Re c fr' σ' → E (.ref e) { s with heap := h', toks := tk' }) → wpAny (model PG S.w) A (run env) QQ E s
structure SSR (S : Stat) (ks : List (Str × NameKind)) (st : Stmt) (x : RX) : Prop where
  ex : ExR S ks (exec st) x
structure SSLR (S : Stat) (ks : List (Str × NameKind)) (sts : List Stmt) (x : RL) : Prop where
  ex : ExR S ks (execs sts) x
theorem SSLR.nil : SSLR S ks [] .nil := ⟨fun {d env T fr σ A E s base outer QQ N Rt Re} H F hA hT R hx n r re => wpAny_execs_nil (n fr σ s.heap s.toks R hx)⟩
theorem SSLR.cons {st : Stmt} {sts : List Stmt} {x : RX} {xs : RL} (h : SSR S ks st x) (r : SSLR S ks sts xs) : SSLR S ks (st :: sts) (.cons x xs) := ⟨fun {d env T fr σ A E s base outer QQ N Rt Re} H F hA hT R hx n rt re =>
  wpAny_execs_cons (h.ex H F hA hT R hx (fun fr' σ' h' tk' R' q => r.ex (s := { s with heap := h', toks := tk' }) H F hA hT R' q n rt re) rt re)⟩
theorem SSR.plain {st : Stmt} {x : SX} (h : SS S ks st x) : SSR S ks st (.plain x) := ⟨fun {d env T fr σ A E s base outer QQ N Rt Re} H F hA hT R hx n rt re => h.ex H hA hT R hx n rt⟩
theorem SSR.ifs {pos : Pos} {e : Expr} {x : X} {b o : List Stmt} {t f : RL} (h : SE S ks e x) (hb : SSLR S ks b t) (ho : SSLR S ks o f) : SSR S ks (.If e b o pos) (.ifs x t f) := ⟨fun {d env T fr σ A E s base outer QQ N Rt Re} H F hA hT R hx n rt re =>
  wpAny_If (h.tr H hA R (Q := fun b σ => br b (t fr σ N Rt Re) (f fr σ N Rt Re)) (by obtain ⟨h⟩ := hx; exact h) fun c σ' h' tk' R' q => match c, q with
    | true, q => hb.ex (s := { s with heap := h', toks := tk' }) H F hA hT R' q n rt re
    | false, q => ho.ex (s := { s with heap := h', toks := tk' }) H F hA hT R' q n rt re)⟩
theorem SSR.whl {pos : Pos} {e : Expr} {x : X} {b : List Stmt} {t : RL} (h : SE S ks e x) (hb : SSLR S ks b t) : SSR S ks (.While e b [] pos) (.whl x t) := ⟨fun {d env T fr σ A E s base outer QQ N Rt Re} H F hA hT R hx nx r re => by
  obtain ⟨I, n, h0, step⟩ := hx
  refine wpAny_While (codeAny_whileLoop (fun j s' => ∃ fr' σ' h' tk', s' = { s with heap := h', toks := tk' } ∧ Rl S ks d T fr' σ' h' ∧ I j fr' σ') ?_ n ⟨fr, σ, s.heap, s.toks, rfl, R, h0⟩)
  rintro j s' ⟨fr', σ', h', tk', rfl, R', hw⟩
  refine h.tr (s := { s with heap := h', toks := tk' }) H hA R' (Q := fun r σ => br r (t fr' σ (fun fr σ => ∃ m, m < j ∧ I m fr σ) Rt Re) (N fr' σ)) (step j fr' σ' hw) fun c σ2 h2 tk2 R2 q => ?_
  cases c with
  | true => exact hb.ex (s := { s with heap := h2, toks := tk2 }) H F hA hT R2 q (fun fr3 σ3 h3 tk3 R3 ⟨m, hm, q⟩ => ⟨m, hm, fr3, σ3, h3, tk3, rfl, R3, q⟩) r fun e c fr3 σ3 h3 tk3 x q =>
      ex_noted (s := { s with heap := h3, toks := tk3 }) F x fun a0 h4 h5 kk fn => ex_back (s := { s with heap := h4, toks := tk3 }) F h5 kk fn fun h6 x6 => re _ _ _ _ _ _ x6 q
  | false => exact wpAny_execs_nil (nx _ _ _ _ R2 q)⟩
theorem SSR.asgR (i i' j : Nat) {n : Str} {np pos : Pos} {x : Str} {f : Addr} {es : List Expr} {xs : XL} {xp cpos : Pos} (hi : ks[i]? = some (n, .local)) (hi' : ks[i']? = some (x, .globalImplicit)) (hj : gfun[j]? = some (x, f)) (h : SEL S ks es xs)
    (hs : ∀ l env, swapsWith (.Call (.Name x xp) es [] cpos) (some (.Name n np)) l env = pure false := by intro _ _; rfl) :
    SSR S ks (.Assign [.Name n np] (.Call (.Name x xp) es [] cpos) pos) (.asgR S i f xs) := ⟨fun {d env T fr σ A E s base outer QQ N Rt Re} H F hA hT R hx nx r re =>
  wpAny_Assign_Name (call_r hi' hj h H F hA R hx (fun v a σ' h' tk' R' q => st_sound (s := { s with heap := h', toks := tk' }) H hi R' fun h' tk' R2 => nx _ _ _ _ R2 q) fun e c σ' h' tk' x q => re e c fr σ' h' tk' x q) (hs _ _)⟩
theorem SSR.asgPR {es : List Expr} {is : List Nat} {k : Nat} {tp pos : Pos} (i' j : Nat) {x : Str} {f : Addr} {as : List Expr} {xs : XL} {xp cpos : Pos} (hn : NmE ks is es) (hi' : ks[i']? = some (x, .globalImplicit)) (hj : gfun[j]? = some (x, f)) (h : SEL S ks as xs)
    (hs : ∀ l env, swapsWithSole [.Tuple es k tp] (.Call (.Name x xp) as [] cpos) l env = pure false := by intro _ _; rfl) (hw : ∀ env, swappedStores [.Tuple es k tp] (.Call (.Name x xp) as [] cpos) env = pure none := by intro _; rfl) :
    SSR S ks (.Assign [.Tuple es k tp] (.Call (.Name x xp) as [] cpos) pos) (.asgPR S is f xs) := ⟨fun {d env T fr σ A E s base outer QQ N Rt Re} H F hA hT R hx nx r re =>
  Assign_Tuple (call_r hi' hj h H F hA R hx (fun v a σ' h' tk' R' q => by
    obtain ⟨ds, L, hl, q⟩ := tupP q R'
    cases L with | mk ev ht hlen R2 =>
    subst ev
    exact assign_Tuple_tuple hA.handled ht (by rw [hn.len, List.size_toArray, hlen, hl]) hn.star fun h2 he => stores (s := { s with heap := h2, toks := tk' }) H hn.t hl (R2.keeps fun b o e => he b o (Nat.ne_of_lt (Heap.lt_size e)) e) fun h3 tk3 R4 => nx _ _ _ _ R4 q) fun e c σ' h' tk' x q => re e c fr σ' h' tk' x q) (hs _ _) (hw _)⟩
theorem SSR.retTR (i' j : Nat) {x : Str} {f : Addr} {as : List Expr} {xs : XL} {xp cpos tp pos : Pos} {k : Nat} (hi' : ks[i']? = some (x, .globalImplicit)) (hj : gfun[j]? = some (x, f)) (h : SEL S ks as xs)
    (hst : ∀ env, starEach [Expr.Call (.Name x xp) as [] cpos] env = [(false, eval (.Call (.Name x xp) as [] cpos) env)] := by intro _; rfl) :
    SSR S ks (.Return (some (.Tuple [.Call (.Name x xp) as [] cpos] k tp)) pos) (.retTR S f xs) := ⟨fun {d env T fr σ A E s base outer QQ N Rt Re} H F hA hT R hx nx r re =>
  wpAny_Return_some (wpAny_Tuple (spliced_more (call_r hi' hj h H F hA R hx (fun v a σ' h' tk' R' q => spliced_none (by
    obtain ⟨dd, rfl, q⟩ := isD_inv q
    refine ⟨Nat.le_of_ble_eq_true rfl, ?_⟩
    have R1 : Rl S ks d (Tm.dl [v] [dd] T) fr σ' h' := R'.imp fun c lh t => ⟨.cons t.1 .nil, t.2⟩
    exact r _ (.d (.tuple [dd])) _ _ _ tk' (R1.pushed fun c lh e t => ⟨Rd.tuple e rfl rfl t.1, t.2⟩) q)) fun e c σ' h' tk' x q => re e c fr σ' h' tk' x q) (hst _)))⟩
theorem SSR.raise (i : Nat) {c : Addr} {x : Str} {np cpos pos cp : Pos} {msg : Str} {k : Nat} (hi : ks[i]? = some (x, .globalImplicit)) (P : PCls S.K c) (hg : nsIn S.K mainGlobals x = some (some (.ref c))) :
    SSR S ks (.Raise (some (.Call (.Name x np) [.Constant (.str msg) k cp] [] cpos)) none pos) (.raise S c) := ⟨fun {d env T fr σ A E s base outer QQ N Rt Re} H F hA hT R hx nx r re => by
  have h1 := Nat.le_of_ble_eq_true hx.1
  have hd := hA.depth
  refine pg_raise S.G.L P R.K (S.G.nl.keeps R.keep) (by omega) hA.handled (fun {QQ} q => ev_glob H R hi hg q) fun e t0 h' tk' e1 e2 e3 => ?_
  cases R with | mk c1 m mg mh lh X G Hh FF tt =>
  obtain ⟨dd, e3⟩ := e3
  exact re e c fr σ h' tk' ⟨⟨X.ns.keeps e2, FF⟩, .fresh (fun b o q => e2 _ _ (F.stays X _ _ q)) (ff_of (F.ffs H X) fun a ha o ho => e2 _ _ ho) (base_none (F.stays X) e1) e3, fun b o hb hm hn => ⟨o.slots, e2 _ _ (X.kept _ _ hb hm)⟩⟩ hx.2⟩
end
/-- a contract that may raise, from the body -/
theorem SCR.of {S : Stat} (j : Nat) {f : Addr} {q : Str} {i : Nat} {m : Option Nat} {sg : Sig} {as : List AV} {g : Gs} {Q : AV → Gs → Prop} {RR : Addr → Prop} {sl : RL} (ns : List Str) (pad : Nat) (hj : fnT[j]? = some (f, q, i, m)) (hs : sigAt i m = some sg) (hbind : Binds q sg ns.length ns)
    (hc : scOk sg.scope = true) (hns : sg.scope.names.take ns.length = ns.map fun n => (n, NameKind.local)) (hlen : ns.length = as.length) (hb : SSLR S sg.scope.names sg.body sl)
    (hw : sl (as.map some ++ List.replicate pad none) ⟨g, none⟩ (finN Q) (finR Q) fun c _ _ => RR c) (hd : (f == 436 || f == 56) = false := by rfl) : SCR (S.lv (S.k + 1)) f as g Q RR := by
  refine ⟨fun A s c mu vs lh base outer hA Hp GM VL P QQ E ret re => ?_⟩
  cases FnAt.of (S.fn j hj hs) with | @mk oc od osl nm dV kV doc pm an cdv ct ho hcd hdv =>
  obtain rfl := noDef_none hd hdv
  cases ScOk.of hc with | mk nd nm' co gen kd =>
  have hh : ∀ b o, S.hb.get? b = some o → s.heap.get? b = some o := fun b o e => Hp.sub _ _ (Hp.base _ _ e)
  refine wpAny_call (codeAny_call_def (binds := ns.zip vs) (Nat.lt_of_le_of_lt (Nat.le_add_right _ _) hA.depth) (hh _ _ (S.G.K _ _ ho)) rfl (S.G.nl.keeps hh) (codeRec_of (S.G.K.keeps hh) hcd) rfl (hbind nm kV doc pm an cdv ct s vs (VL.length.trans hlen.symm)) (fun x hx => (nm' x hx).2) (fun y hy => ?_) (fun h₁ hns₁ hk₁ => ?_) co gen kd)
  · obtain ⟨i, hi⟩ := List.getElem?_of_mem hy
    rw [List.getElem?_zip_eq_some] at hi
    have hil : i < ns.length := (List.getElem?_eq_some_iff.mp hi.1).1
    exact lookup_of_nodup (i := i) nd (by rw [← List.getElem?_take_of_lt hil, hns, List.getElem?_map, hi.1]; rfl)
  have X := Mine.Sx.enter Hp (Nat.le_refl _) hns₁ hk₁
  have R : Rl S sg.scope.names ⟨s.heap, c, mu.map (·.1), s.heap.objs.size, [], []⟩ Tm.nil (as.map some ++ List.replicate pad none) ⟨g, none⟩ h₁ :=
    ⟨c, _, mu, [], lh, (List.append_nil mu).symm ▸ X, GM, .none, entry_fr nd hns hlen VL, True.intro⟩
  have F : RF base outer (A.deeper (callEnv (fnOf nm q sg.params sg.body sg.scope .none kV doc pm an cdv ct) s.heap.objs.size f)) (callEnv (fnOf nm q sg.params sg.body sg.scope .none kV doc pm an cdv ct) s.heap.objs.size f) ⟨s.heap, c, mu.map (·.1), s.heap.objs.size, [], []⟩ := ⟨congrArg (Option.map _) P.fr, rfl, P.stay, P.nomod, P.ff, P.ffm⟩
  refine hb.ex (T := Tm.nil) ⟨kd, rfl, rfl, rfl, rfl, rfl, nd, fun p hp => (nm' p hp).1⟩ F (Rm.deeper hA) (fun _ _ _ t => t) R hw (fun fr' σ' h' tk' R' q => ?_) (fun v a fr' σ' h' tk' R' q => ?_) fun e x fr' σ' h' tk' ex q => ?_
  · cases R' with | mk c' m' mg' mh' lh' X' G' H' F' t =>
    exact ret .none h' tk' c' mg' (.d .none) σ'.g (X'.out (List.sublist_append_left _ _)) G' Rd.none q
  · cases R' with | mk c' m' mg' mh' lh' X' G' H' F' t =>
    obtain ⟨q1, q2⟩ := finR_inv q
    refine ret v h' tk' c' mg' a σ'.g (X'.out (List.sublist_append_left _ _)) G' ?_ q2
    have tv := t.1
    cases a with
    | held => exact absurd rfl q1
    | _ => exact tv
  · exact ex_leaves F ex fun a0 h'' fl ks => re e x h'' tk' ⟨fl, ks⟩ q
theorem SCR.to {S : Stat} {k k' : Nat} {f : Addr} {as : List AV} {g : Gs} {Q Q' : AV → Gs → Prop} {R R' : Addr → Prop} (h : SCR (S.lv k) f as g Q R) (q : ∀ a g, Q a g → Q' a g) (r : ∀ x, R x → R' x) (hk : k ≤ k' := by exact Nat.le_refl _) : SCR (S.lv k') f as g Q' R' := h.mono hk q r
end Mine
/-! ## NF -/
namespace Mine
open PySem PySem.W PySem.Calls PyProof.Rows
/-! ## list comprehensions -/
inductive CK where
  | chars | pair | enum
noncomputable def pairs : List PyData → (List (List PyData) → Prop) → Prop
  | [], K => K []
  | p :: r, K => onT p fun ds => pairs r fun ts => match ds with
    | [a, b] => K ([a, b] :: ts)
    | _ => False
noncomputable def enums : Nat → List PyData → List (List PyData)
  | _, [] => []
  | i, d :: r => [.int i, d] :: enums (i + 1) r
noncomputable def turnsK (kd : CK) (d : PyData) (K : List (List PyData) → Prop) : Prop := match kd with
  | .chars => onS d fun x => K (x.cps.toList.map fun c => [.str ⟨#[c]⟩])
  | .pair => onL d fun ds => pairs ds K
  | .enum => onL d fun ds => K (enums 0 ds)
noncomputable def capOk (fr : Fr') (o : Option Nat) : Bool := match o with | none => true | some j => (nth fr j).isSome
noncomputable def baseOf (caps : List (Option Nat)) (fr : Fr') : Fr' := caps.map fun o => o.bind (nth fr)
noncomputable def compGo (turn : List PyData → List PyData → Sto → (List PyData → Sto → Prop) → Prop) (fin : List PyData → Sto → Prop) : List (List PyData) → List PyData → Sto → Prop
  | [], acc, σ => fin acc σ
  | t :: r, acc, σ => turn t acc σ fun acc' σ' => compGo turn fin r acc' σ'
/-- what a turn does -/
noncomputable def turnW (base : Fr') (is : List Nat) (xt : Option X) (x : X) (t acc : List PyData) (σ : Sto) (K : List PyData → Sto → Prop) : Prop := match xt with
  | none => x (setP base is t) σ fun v σ => isD v fun d' => K (acc ++ [d']) σ
  | some xt => xt (setP base is t) σ fun v σ => isB v fun r => br r (x (setP base is t) σ fun v σ => isD v fun d' => K (acc ++ [d']) σ) (K acc σ)
noncomputable def X.compX (kd : CK) (caps : List (Option Nat)) (is : List Nat) (s : X) (xt : Option X) (x : X) : X := fun fr σ Q => grd (caps.all (capOk fr)) (s fr σ fun a σ => isD a fun d => turnsK kd d fun ts => ts.length ≤ 100000 ∧
  compGo (turnW (baseOf caps fr) is xt x) (fun acc σ => Q (.d (.list acc)) σ) ts [] σ)
theorem compGo_nil {turn : List PyData → List PyData → Sto → (List PyData → Sto → Prop) → Prop} {fin : List PyData → Sto → Prop} {l : List (List PyData)} {i : Nat} {acc : List PyData} {σ : Sto} (h : compGo turn fin (l.drop i) acc σ) (k : l.length ≤ i) : fin acc σ := by
  rw [List.drop_of_length_le k] at h; exact h
theorem compGo_cons {turn : List PyData → List PyData → Sto → (List PyData → Sto → Prop) → Prop} {fin : List PyData → Sto → Prop} {l : List (List PyData)} {i : Nat} {acc : List PyData} {σ : Sto} (h : compGo turn fin (l.drop i) acc σ) (k : i < l.length) :
    turn l[i] acc σ fun acc' σ' => compGo turn fin (l.drop (i + 1)) acc' σ' := by
  rw [List.drop_eq_getElem_cons k] at h; exact h
/-- a comprehension's loop, whatever its target and its tests -/
theorem compLoop_all {prog : Program} {w : World} {A : Around} {R : Result → Shared → Prop} {s : Shared} {elt target iter : Expr} {ifs : List Expr} {scope : Scope} {pos : Pos} {it acc : Value} {env : Env} (I : Nat → Shared → Prop)
    (turn : ∀ n s, I n s → wpAny (model prog w) A (pyNext it) (fun r s₁ => match r with
      | none => R (.ok .next) s₁
      | some v => wpAny (model prog w) A (letOwnedTupleGo target it v) (fun _ s₀ => wpAny (model prog w) A (assign target env v) (fun _ s₂ =>
          wpAny (model prog w) A (forIn ifs true fun c r => if r = true then do let ok ← isTrue c env (eval c env); pure (ForInStep.yield ok) else pure (ForInStep.yield r)) (fun ok s₃ =>
            if ok = true then wpAny (model prog w) A (eval elt env) (fun x s₄ =>
              wpAny (model prog w) A (call (.builtin "list.append") [acc, x]) (fun _ s₅ => ∃ m, m < n ∧ I m s₅) (notedBy (model prog w) A env fun e s' => R (.error e) s') s₄) (notedBy (model prog w) A env fun e s' => R (.error e) s') s₃
            else ∃ m, m < n ∧ I m s₃) (notedBy (model prog w) A env fun e s' => R (.error e) s') s₂) (notedBy (model prog w) A env fun e s' => R (.error e) s') s₀) (notedBy (model prog w) A env fun e s' => R (.error e) s') s₁) (notedBy (model prog w) A env fun e s' => R (.error e) s') s)
    (n : Nat) (h : I n s) : codeAny (model prog w) A (.compLoop (.ListComp elt [⟨target, iter, ifs, 0⟩] scope pos) 0 it acc env) R s := by
  refine codeAny_loop rfl I (fun n s hI => ?_) n h
  show wpAny _ A ((compTurn (.ListComp elt [⟨target, iter, ifs, 0⟩] scope pos) 0 it acc env).onRaise (fun x => do noteFrame x env; theTreesLotGoes x)) _ _ s
  refine wpAny_noted ?_
  rw [compTurn_list]
  refine wpAny_bind (wpAny_standAt (wpAny_bind (wpAny_mono (turn n s hI) (fun r s₁ h₁ => ?_) fun _ _ h' => h')))
  cases r with
  | none => exact wpAny_pure h₁
  | some v =>
    refine wpAny_bind (wpAny_mono h₁ (fun _ s₀ h₀ => ?_) fun _ _ h' => h')
    refine wpAny_bind (wpAny_mono h₀ (fun _ s₂ h₂ => wpAny_bind (wpAny_mono h₂ (fun ok s₃ h₃ => ?_) fun _ _ h' => h')) fun _ _ h' => h')
    cases ok with
    | false => exact wpAny_pure ⟨rfl, h₃⟩
    | true =>
      exact wpAny_bind (wpAny_bind (wpAny_mono h₃ (fun x s₄ h₄ => wpAny_bind (wpAny_mono h₄ (fun _ s₅ h₅ => wpAny_pure (wpAny_pure ⟨rfl, h₅⟩)) fun _ _ h' => h')) fun _ _ h' => h'))
/-- what a source of turns does -/
structure Src (S : Stat) (target : Expr) (I : Addr) (ks' : List (Str × NameKind)) (is : List Nat) (ts : List (List PyData)) (T₀ : Tm) (as : List Addr) (It : Nat → List (Addr × Obj) → Prop) : Prop where
  addr : ∀ {i itx}, It i itx → itx.map (·.1) = as
  item : ∀ {i : Nat} {dd : Dy} {rest itx fr σ T A E s cenv} {QQ : Unit → Shared → Prop} {N : Shared → Prop} (hi : i < ts.length), EnvOk ks' dd cenv → Rm A S.k → (∀ c lh, T.on c lh → T₀.on c lh) → It i itx → Rl S ks' { dd with ex := itx ++ rest } T fr σ s.heap →
    (∀ h' tk' itx', It (i + 1) itx' → Rl S ks' { dd with ex := itx' ++ rest } T (setP fr is ts[i]) σ h' → QQ () { s with heap := h', toks := tk' }) →
    wpAny (model PG S.w) A (pyNext (.ref I)) (fun r s₁ => match r with | none => N s₁ | some v => wpAny (model PG S.w) A (letOwnedTupleGo target (.ref I) v) (fun _ s₀ => wpAny (model PG S.w) A (assign target cenv v) QQ E s₀) E s₁) E s
  done : ∀ {ks''} {dd : Dy} {rest itx fr σ T A E s} {QQ : Option Value → Shared → Prop}, A.handled = none → (∀ c lh, T.on c lh → T₀.on c lh) → It ts.length itx → Rl S ks'' { dd with ex := itx ++ rest } T fr σ s.heap →
    (∀ h' tk', (∀ b o, b ∉ as → s.heap.get? b = some o → h'.get? b = some o) → QQ none { s with heap := h', toks := tk' }) → wpAny (model PG S.w) A (pyNext (.ref I)) QQ E s
  self : ∀ {ks''} {dd : Dy} {rest itx fr σ T A E s} {QQ : Value → Shared → Prop}, A.handled = none → (∀ c lh, T.on c lh → T₀.on c lh) → It 0 itx → Rl S ks'' { dd with ex := itx ++ rest } T fr σ s.heap → QQ (.ref I) s → wpAny (model PG S.w) A (pyIter (.ref I)) QQ E s
/-- the frame of a comprehension is well laid -/
structure CompOk (S : Stat) (ks ks' : List (Str × NameKind)) (caps : List (Option Nat)) (scope : Scope) : Prop where
  cell : ∀ y ∈ scope.names, y.2 ≠ .cell
  kind : scope.kind = .function
  loc : ∀ y ∈ scope.names, y.2 = .local → scope.names.lookup y.1 = some .local
  nd : (ks'.map (·.1)).Nodup
  dbg : ∀ p ∈ ks', (p.1 == ("__debug__" : Str)) = false
  rel : ∀ env d, EnvOk ks d env → (relabel scope env).names = ks'
  clos : ∀ env d fr c lh m, EnvOk ks d env → FrR S.ad lh c ks d.cl fr m → caps.all (capOk fr) = true →
    ∃ cl', closureFor scope env = pure cl' ∧ ∀ c', c.le c' → ∀ m', FrR S.ad lh c' ks' cl' (baseOf caps fr) m'
inductive CT (S : Stat) (ks' : List (Str × NameKind)) : List Expr → Option X → Prop
  | none : CT S ks' [] none
  | one {e x} : SE S ks' e x → CT S ks' [e] (some x)
theorem Sx.upds {hb s₀ h h' : Heap} {c₀ c : CM} {mod : List Addr} {L : Addr} {m : Str → Option Value} {mu as as' : List (Addr × Obj)} (X : Sx hb s₀ c₀ mod c L m (mu ++ as) h) (ha : as'.map (·.1) = as.map (·.1)) (hn : ∀ p ∈ as', h'.get? p.1 = some p.2) (he : ∀ b o, b ∉ as.map (·.1) → h.get? b = some o → h'.get? b = some o) : Sx hb s₀ c₀ mod c L m (mu ++ as') h' := by
  have own : ∀ b ∈ as.map (·.1), c b = none ∧ b ≠ L ∧ (b ∈ mod ∨ s₀.get? b = none) := fun b hb => by
    obtain ⟨p, hp, rfl⟩ := List.mem_map.mp hb
    have q := X.own p (List.mem_append_right _ hp)
    exact ⟨q.2.2.1, q.2.1, q.2.2.2⟩
  have nd := X.nd
  have e1 : (mu ++ as').map (·.1) = (mu ++ as).map (·.1) := by rw [List.map_append, List.map_append, ha]
  have nd2 := nd
  rw [List.map_append, List.nodup_append] at nd2
  obtain ⟨oL, es, ep, hL, hr⟩ := X.ns
  refine ⟨⟨oL, es, ep, he _ _ (fun q => (own _ q).2.1 rfl) hL, hr⟩, X.base, X.grow, fun b o e => he _ _ (fun q => nomatch (own _ q).1.symm.trans e) (X.sub _ _ e), X.new,
    fun b o e k => he _ _ (fun q => (own _ q).2.2.elim k fun z => nomatch z.symm.trans e) (X.kept _ _ e k), X.noL, fun p hp => ?_, e1 ▸ nd, X.sizeb, X.sizeL, fun b o e => ?_⟩
  · rcases List.mem_append.mp hp with hp | hp
    · have q := X.own p (List.mem_append_left _ hp)
      exact ⟨he _ _ (fun z => nd2.2.2 p.1 (List.mem_map_of_mem hp) _ z rfl) q.1, q.2⟩
    · have q := own p.1 (ha ▸ List.mem_map_of_mem hp)
      exact ⟨hn p hp, q.2.1, q.1, q.2.2⟩
  · obtain ⟨o', z⟩ := X.alive _ _ e
    by_cases q : b ∈ as.map (·.1)
    · rw [← ha] at q
      obtain ⟨p, hp, rfl⟩ := List.mem_map.mp q
      exact ⟨_, hn p hp⟩
    · exact ⟨o', he _ _ q z⟩
section
variable {S : Stat} {ks ks' : List (Str × NameKind)} {d dd : Dy} {T : Tm} {fr : Fr'} {σ : Sto} {h h' : Heap}
theorem ex_perm (mg mh as ex : List (Addr × Obj)) : List.Perm (mg ++ (mh ++ (as ++ ex))) ((mg ++ (mh ++ ex)) ++ as) := by
  rw [List.append_assoc, List.append_assoc]; exact (List.perm_append_comm.append_left _).append_left _
theorem Rl.updExs {as as' ex : List (Addr × Obj)} (R : Rl S ks { d with ex := as ++ ex } T fr σ h) (ha : as'.map (·.1) = as.map (·.1)) (hn : ∀ p ∈ as', h'.get? p.1 = some p.2)
    (he : ∀ b o, b ∉ as.map (·.1) → h.get? b = some o → h'.get? b = some o) : Rl S ks { d with ex := as' ++ ex } T fr σ h' := by
  cases R with | mk c m mg mh lh X G H F tt =>
  exact ⟨c, m, mg, mh, lh, ((X.perm (ex_perm mg mh as ex).symm).upds ha hn he).perm (ex_perm mg mh as' ex), G, H, F, tt⟩
theorem Rl.updMid {as ex : List (Addr × Obj)} {D : Addr} {o o' : Obj} (R : Rl S ks { d with ex := as ++ (D, o) :: ex } T fr σ h) (hs : Heap.SameBut D h h') (hD : h'.get? D = some o') : Rl S ks { d with ex := as ++ (D, o') :: ex } T fr σ h' := by
  cases R with | mk c m mg mh lh X G H F tt =>
  have e : ∀ r : List (Addr × Obj), mg ++ (mh ++ (as ++ r)) = (mg ++ (mh ++ as)) ++ r := fun r => by rw [List.append_assoc, List.append_assoc]
  refine ⟨c, m, mg, mh, lh, ?_, G, H, F, tt⟩
  have X : Sx _ _ _ _ _ _ _ (mg ++ (mh ++ (as ++ (D, o) :: ex))) _ := X
  rw [e] at X
  show Sx _ _ _ _ _ _ _ (mg ++ (mh ++ (as ++ (D, o') :: ex))) _
  rw [e]
  exact X.upd hs hD
theorem Rl.getMid {as ex : List (Addr × Obj)} {D : Addr} {o : Obj} (R : Rl S ks { d with ex := as ++ (D, o) :: ex } T fr σ h) : h.get? D = some o := by
  cases R with | mk c m mg mh lh X G H F tt =>
  exact (X.own (D, o) (List.mem_append_right _ (List.mem_append_right _ (List.mem_append_right _ (.head _))))).1
theorem Rl.toBase {base : Fr'} (R : Rl S ks' dd T fr σ h) (k : ∀ c lh, T.on c lh → ∀ m, FrR S.ad lh c ks' dd.cl base m) : Rl S ks' dd T base σ h := by
  cases R with | mk c m mg mh lh X G H F tt => exact ⟨c, m, mg, mh, lh, X, G, H, k _ _ tt m, tt⟩
theorem Out.withL {hb s₀ : Heap} {c₀ c : CM} {mod : List Addr} {L : Addr} {m : Str → Option Value} {mu : List (Addr × Obj)} {h : Heap} {oL : Obj} (X : Sx hb s₀ c₀ mod c L m mu h) (e : h.get? L = some oL) : Out s₀ c₀ mod ((L, oL) :: mu) c h where
  grow := X.grow
  sub := X.sub
  new := X.new
  kept := X.kept
  own := fun p hp => by
    rcases List.mem_cons.mp hp with rfl | hp
    · exact ⟨e, X.noL, X.sizeL⟩
    · exact ⟨(X.own p hp).1, (X.own p hp).2.2⟩
  nd := List.nodup_cons.mpr ⟨fun q => by obtain ⟨p, hp, e⟩ := List.mem_map.mp q; exact (X.own p hp).2.1 e, X.nd⟩
  alive := X.alive
end
end Mine
/-! ## NG -/
namespace Mine
open PySem PySem.W PySem.Calls PyProof.Rows
section
variable {S : Stat} {ks ks' : List (Str × NameKind)} {dd : Dy} {ex : List (Addr × Obj)} {T T₀ : Tm} {It : Nat → List (Addr × Obj) → Prop} {D I : Addr} {G : Nat → List PyData → Sto → Prop} {s₂ : Shared} {A : Around} {cenv : Env}
  {elt target iter : Expr} {ifs : List Expr} {xt : Option X} {x : X} {is : List Nat} {ts : List (List PyData)} {as : List Addr} {base : Fr'}
/-- a comprehension's loop, between its turns -/
inductive CSt (S : Stat) (ks' : List (Str × NameKind)) (dd : Dy) (ex : List (Addr × Obj)) (T : Tm) (It : Nat → List (Addr × Obj) → Prop) (D : Addr) (n : Nat) (G : Nat → List PyData → Sto → Prop) (s₂ : Shared) (j : Nat) (s' : Shared) : Prop
  | mk {i fr h tk itx oD vs acc σ} : j = n - i → s' = { s₂ with heap := h, toks := tk } → i ≤ n → It i itx → LObj oD vs → acc.length ≤ i → Rl S ks' { dd with ex := itx ++ (D, oD) :: ex } (Tm.dl vs acc T) fr σ h → G i acc σ → CSt S ks' dd ex T It D n G s₂ j s'
theorem CSt.go {n j : Nat} {s' : Shared} {C : Shared → Prop} (q : CSt S ks' dd ex T It D n G s₂ j s')
    (k : ∀ i fr h tk itx oD vs acc σ, j = n - i → i ≤ n → It i itx → LObj oD vs → acc.length ≤ i → Rl S ks' { dd with ex := itx ++ (D, oD) :: ex } (Tm.dl vs acc T) fr σ h → G i acc σ → C { s₂ with heap := h, toks := tk }) : C s' := by
  cases q with | mk a e b c d f R g => subst e; exact k _ _ _ _ _ _ _ _ _ a b c d f R g
/-- an item comes into the list -/
theorem comp_item {itx : List (Addr × Obj)} {oD : Obj} {vs : List Value} {acc : List PyData} {fr : Fr'} {σ : Sto} {h : Heap} {tk : Nat} {P : Shared → Prop} {E' : Value → Shared → Prop} {K : List PyData → Sto → Prop} (helt : SE S ks' elt x) (H : EnvOk ks' dd cenv) (hA : Rm A S.k) (hO : LObj oD vs) (hacc : acc.length ≤ 100000)
    (R : Rl S ks' { dd with ex := itx ++ (D, oD) :: ex } (Tm.dl vs acc T) fr σ h) (hx : x fr σ fun v σ => isD v fun d' => K (acc ++ [d']) σ)
    (next : ∀ h' tk' oD' vs' d' σ', LObj oD' vs' → Rl S ks' { dd with ex := itx ++ (D, oD') :: ex } (Tm.dl vs' (acc ++ [d']) T) fr σ' h' → K (acc ++ [d']) σ' → P { s₂ with heap := h', toks := tk' }) :
    wpAny (model PG S.w) A (eval elt cenv) (fun y s₄ => wpAny (model PG S.w) A (call (.builtin "list.append") [.ref D, y]) (fun _ s₅ => P s₅) E' s₄) E' { s₂ with heap := h, toks := tk } :=
  helt.ev (s := { s₂ with heap := h, toks := tk }) (H.ex _) hA R hx fun v a σ5 h5 tk5 R5 q => by
    obtain ⟨d', rfl, q⟩ := isD_inv q
    have hl := dl_len R5.drop
    refine wpAny_list_append_plain (s := { s₂ with heap := h5, toks := tk5 }) (hO.plain R5.getMid) (fun h6 hp hs => ?_) (by rw [sizeLine_eq, List.size_toArray]; omega)
    obtain ⟨n', ho'⟩ := hp
    refine next h6 tk5 { cls := .type "list", data := .seq (vs ++ [v]).toArray n' } (vs ++ [v]) d' σ5 ⟨n', rfl⟩ ?_ q
    exact (R5.updMid hs (by rw [ho']; simp)).imp fun c lh t => ⟨t.2.1.append (.cons t.1 .nil), t.2.2⟩
/-- one turn -/
theorem comp_turn {Qfin : List PyData → Sto → Prop} {E' : Value → Shared → Prop} (Sr : Src S target I ks' is ts T₀ as It) (helt : SE S ks' elt x) (hifs : CT S ks' ifs xt) (H : EnvOk ks' dd cenv) (hA : Rm A S.k) (hT : ∀ c lh, T.on c lh → T₀.on c lh)
    (hB : ∀ c lh, T.on c lh → ∀ m, FrR S.ad lh c ks' dd.cl base m) (hlen : ts.length ≤ 100000) {i : Nat} {fr : Fr'} {h : Heap} {tk : Nat} {itx : List (Addr × Obj)} {oD : Obj} {vs : List Value} {acc : List PyData} {σ : Sto} (hi : i < ts.length) (hIt : It i itx) (hO : LObj oD vs) (hacc : acc.length ≤ i)
    (R : Rl S ks' { dd with ex := itx ++ (D, oD) :: ex } (Tm.dl vs acc T) fr σ h) (g : compGo (turnW base is xt x) Qfin (ts.drop i) acc σ) {P : Shared → Prop}
    (next : ∀ s', CSt S ks' dd ex T It D ts.length (fun i acc σ => compGo (turnW base is xt x) Qfin (ts.drop i) acc σ) s₂ (ts.length - (i + 1)) s' → P s') {N : Shared → Prop} :
    wpAny (model PG S.w) A (pyNext (.ref I)) (fun r s₁ => match r with
      | none => N s₁
      | some v => wpAny (model PG S.w) A (letOwnedTupleGo target (.ref I) v) (fun _ s₀ => wpAny (model PG S.w) A (assign target cenv v) (fun _ s₂ =>
          wpAny (model PG S.w) A (forIn ifs true fun c r => if r = true then do let ok ← isTrue c cenv (eval c cenv); pure (ForInStep.yield ok) else pure (ForInStep.yield r)) (fun ok s₃ =>
            if ok = true then wpAny (model PG S.w) A (eval elt cenv) (fun x s₄ => wpAny (model PG S.w) A (call (.builtin "list.append") [.ref D, x]) (fun _ s₅ => P s₅) E' s₄) E' s₃
            else P s₃) E' s₂) E' s₀) E' s₁) E' { s₂ with heap := h, toks := tk } := by
  refine Sr.item (T := Tm.dl vs acc T) (s := { s₂ with heap := h, toks := tk }) hi H hA (fun c lh t => hT _ _ t.2) hIt (R.toBase fun c lh t m => hB _ _ t.2 m) fun h3 tk3 itx3 hIt3 R3 => ?_
  have g := compGo_cons g hi
  have stop : ∀ {h4 tk4 oD' vs' acc' σ4}, LObj oD' vs' → acc'.length ≤ i + 1 → Rl S ks' { dd with ex := itx3 ++ (D, oD') :: ex } (Tm.dl vs' acc' T) (setP base is ts[i]) σ4 h4 → compGo (turnW base is xt x) Qfin (ts.drop (i + 1)) acc' σ4 → P { s₂ with heap := h4, toks := tk4 } :=
    fun hO' ha R' q => next _ ⟨rfl, rfl, hi, hIt3, hO', ha, R', q⟩
  have more : ∀ {h4 tk4 σ4}, Rl S ks' { dd with ex := itx3 ++ (D, oD) :: ex } (Tm.dl vs acc T) (setP base is ts[i]) σ4 h4 → (x (setP base is ts[i]) σ4 fun v σ => isD v fun d' => compGo (turnW base is xt x) Qfin (ts.drop (i + 1)) (acc ++ [d']) σ) →
      wpAny (model PG S.w) A (eval elt cenv) (fun y s₄ => wpAny (model PG S.w) A (call (.builtin "list.append") [.ref D, y]) (fun _ s₅ => P s₅) E' s₄) E' { s₂ with heap := h4, toks := tk4 } :=
    fun R4 hx => comp_item (K := fun acc σ => compGo (turnW base is xt x) Qfin (ts.drop (i + 1)) acc σ) helt H hA hO (by omega) R4 hx fun h' tk' oD' vs' d' σ' hO' R' q => stop hO' (by rw [List.length_append]; exact Nat.succ_le_succ hacc) R' q
  cases hifs with
  | none => exact wpAny_tests_nil (by rw [if_pos rfl]; exact more R3 g)
  | @one e xe ht =>
    refine wpAny_tests_one (ht.tr (s := { s₂ with heap := h3, toks := tk3 }) (H.ex _) hA R3 (Q := fun b σ => br b (x (setP base is ts[i]) σ fun v σ => isD v fun d' => compGo (turnW base is (some xe) x) Qfin (ts.drop (i + 1)) (acc ++ [d']) σ) (compGo (turnW base is (some xe) x) Qfin (ts.drop (i + 1)) acc σ)) g fun b σ4 h4 tk4 R4 q => ?_)
    cases b with
    | true => rw [if_pos rfl]; exact more R4 q
    | false => rw [if_neg (by decide)]; exact stop hO (Nat.le_succ_of_le hacc) R4 q
end
end Mine
/-! ## NH -/
namespace Mine
open PySem PySem.W PySem.Calls PyProof.Rows
theorem perm_mid {α : Type} (a : α) (l1 l2 l3 l4 : List α) : List.Perm (l1 ++ (l2 ++ (l3 ++ a :: l4))) (a :: (l1 ++ (l2 ++ (l3 ++ l4)))) := by
  rw [← List.append_assoc, ← List.append_assoc, ← List.append_assoc, ← List.append_assoc]; exact List.perm_middle
noncomputable def Tm.in (S : Stat) (ks : List (Str × NameKind)) (cl : List (Str × Addr)) (lh₀ : Addr) (fr : Fr') (m : Str → Option Value) (T : Tm) : Tm :=
  ⟨fun c lh => lh = lh₀ ∧ FrR S.ad lh c ks cl fr m ∧ T.on c lh, fun k h => ⟨h.1, h.2.1.mono k, T.mono k h.2.2⟩⟩
section
variable {S : Stat} {ks ks' : List (Str × NameKind)} {d : Dy} {T T₀ : Tm} {It : Nat → List (Addr × Obj) → Prop} {I : Addr} {A : Around} {env : Env}
  {elt target iter : Expr} {ifs : List Expr} {xt : Option X} {x : X} {is : List Nat} {ts : List (List PyData)} {as : List Addr} {fr : Fr'} {σ : Sto} {cl' : List (Str × Addr)}
/-- the frame around, again -/
inductive CEnd (S : Stat) (ks : List (Str × NameKind)) (d : Dy) (T : Tm) (fr : Fr') (σ : Sto) (h : Heap) (D C : Addr) (acc : List PyData) (itx : List (Addr × Obj)) : Prop
  | mk {oC m} : Rl S ks { d with ex := itx ++ (C, oC) :: d.ex } (Tm.v S.ad (.ref D) (.d (.list acc)) T) fr σ h → (∀ h' : Heap, h'.get? C = some oC → h'.Ns C m) → CEnd S ks d T fr σ h D C acc itx
theorem comp_end {c : CM} {m : Str → Option Value} {lh : Addr} {D C : Addr} {H2 h' : Heap} {oD0 oD : Obj} {mg mh itx itx' : List (Addr × Obj)} {vs : List Value} {acc : List PyData} {fr' : Fr'} {σ' : Sto} (X : Sx S.hb d.s₀ d.c₀ d.mod c d.L m ((D, oD0) :: (mg ++ (mh ++ (itx ++ d.ex)))) H2) (hD : d.s₀.get? D = none)
    (R : Rl S ks' ⟨H2, c, ((D, oD0) :: (mg ++ (mh ++ (itx ++ d.ex)))).map (·.1), C, cl', itx' ++ (D, oD) :: d.ex⟩ (Tm.dl vs acc (Tm.in S ks d.cl lh fr m T)) fr' σ' h') (hO : LObj oD vs) : CEnd S ks d T fr σ' h' D C acc itx' := by
  cases R with | mk c' m' mg' mh' lh' X' G' H' F' t =>
  obtain ⟨tdl, rfl, tF, tT⟩ := t
  obtain ⟨oC, es, ep, hoC, hr⟩ := X'.ns
  have SB := Mine.Sx.back (pass := (D, oD0) :: (mg ++ (mh ++ (itx ++ d.ex)))) (rest := []) (by rw [List.append_nil]; exact X) (Out.withL X' hoC)
  rw [List.append_nil] at SB
  have SP := SB.perm (mu' := (D, oD) :: (mg' ++ (mh' ++ (itx' ++ (C, oC) :: d.ex)))) (((perm_mid _ _ _ _ _).cons _).trans ((List.Perm.swap _ _ _).trans ((perm_mid _ _ _ _ _).symm.cons _)))
  have SF := SP.freeze hD
  have le : c'.le (c'.put D oD) := CM.le_put (SP.own _ (.head _)).2.2.1
  obtain ⟨nD, hOe⟩ := hO
  exact ⟨⟨_, _, mg', mh', lh', SF, G'.mono le, H'.mono le, tF.mono le, Rd.list CM.put_at (by rw [hOe]) (by rw [hOe]) (tdl.mono le), T.mono le tT⟩, fun h' e => ⟨oC, es, ep, e, hr⟩⟩
theorem comp_core {scope : Scope} {pos : Pos} {caps : List (Option Nat)} {s₂ : Shared} {itx : List (Addr × Obj)} {RR : Value → Addr → Result → Shared → Prop} {E : Value → Shared → Prop} {Qfin : List PyData → Sto → Prop}
    (CO : CompOk S ks ks' caps scope) (Sr : Src S target I ks' is ts T₀ as It) (helt : SE S ks' elt x) (hifs : CT S ks' ifs xt)
    (H : EnvOk ks d env) (hA : Rm A S.k) (hT : ∀ c lh, T.on c lh → T₀.on c lh) (hB : ∀ c lh, T.on c lh → ∀ m', FrR S.ad lh c ks' cl' (baseOf caps fr) m') (h0 : It 0 itx) (R : Rl S ks { d with ex := itx ++ d.ex } T fr σ s₂.heap) (hnew : ∀ a ∈ as, d.s₀.get? a = none)
    (hlen : ts.length ≤ 100000) (hw : compGo (turnW (baseOf caps fr) is xt x) Qfin ts [] σ)
    (fin : ∀ C D σ' h tk oC acc m, Rl S ks { d with ex := (C, oC) :: d.ex } (Tm.v S.ad (.ref D) (.d (.list acc)) T) fr σ' h → (∀ h' : Heap, h'.get? C = some oC → h'.Ns C m) → d.s₀.get? C = none → Qfin acc σ' → RR (.ref D) C (.ok .next) { s₂ with heap := h, toks := tk }) :
    wpAny (model PG S.w) A (newList []) (fun acc s₃ => wpAny (model PG S.w) A (newFunctionEnv scope env.globals cl' [] env.qual none .none (some env)) (fun cenv s₄ =>
      codeAny (model PG S.w) A (.compStart (.ListComp elt [⟨target, iter, ifs, 0⟩] scope pos) 0 (.ref I) acc { cenv with scope := relabel scope env }) (RR acc cenv.locals) s₄) E s₃) E s₂ := by
  cases R with | mk c m mg mh lh X G Hh F tt =>
  refine wpAny_newObj_type (wpAny_newFunctionEnv CO.cell (by intro y hy; simp at hy) (fun h₁ hns₁ hsb₁ => ?_) CO.kind)
  dsimp only at hns₁ hsb₁ ⊢
  have XD := X.pushMu (o := { cls := .type "list", data := .seq ([] : List Value).toArray }) (Heap.get?_push_size s₂.heap rfl) (Nat.le_refl _) (push_keeps _ _)
  have hDnew : d.s₀.get? s₂.heap.objs.size = none := X.ofNone (get_none_of_size (Nat.le_refl _))
  generalize s₂.heap.objs.size = D at *
  generalize hH2 : s₂.heap.push { cls := .type "list", dict := none, data := .seq ([] : List Value).toArray } = H2 at *
  have hCnew : d.s₀.get? H2.objs.size = none := XD.ofNone (get_none_of_size (Nat.le_refl _))
  have SI := Mine.Sx.enter (Mine.Sx.hp (rest := []) (by rw [List.append_nil]; exact XD)) (Nat.le_refl _) hns₁ (fun b o e => hsb₁.extBut b o (Nat.ne_of_lt (Heap.lt_size e)) (Heap.get?_push_of_some _ e))
  generalize H2.objs.size = C at *
  have R1 : Rl S ks' ⟨H2, c, ((D, ({ cls := .type "list", data := .seq ([] : List Value).toArray } : Obj)) :: (mg ++ (mh ++ (itx ++ d.ex)))).map (·.1), C, cl', itx ++ (D, { cls := .type "list", data := .seq ([] : List Value).toArray }) :: d.ex⟩ (Tm.dl [] [] (Tm.in S ks d.cl lh fr m T)) (baseOf caps fr) σ h₁ :=
    ⟨c, _, mg, mh, lh, SI.perm (perm_mid _ _ _ _ _), G, Hh, hB _ _ tt _, .nil, rfl, F, tt⟩
  have Hc : EnvOk ks' ⟨H2, c, ((D, ({ cls := .type "list", data := .seq ([] : List Value).toArray } : Obj)) :: (mg ++ (mh ++ (itx ++ d.ex)))).map (·.1), C, cl', []⟩ (compEnvC scope cl' C env) := ⟨CO.kind, CO.rel env d H, rfl, H.glob, H.blt, rfl, CO.nd, CO.dbg⟩
  have loop : ∀ tk, codeAny (model PG S.w) A (.compLoop (.ListComp elt [⟨target, iter, ifs, 0⟩] scope pos) 0 (.ref I) (.ref D) (compEnvC scope cl' C env)) (RR (.ref D) C) { s₂ with heap := h₁, toks := tk } := fun tk =>
    compLoop_all (CSt S ks' ⟨H2, c, ((D, ({ cls := .type "list", data := .seq ([] : List Value).toArray } : Obj)) :: (mg ++ (mh ++ (itx ++ d.ex)))).map (·.1), C, cl', []⟩ d.ex (Tm.in S ks d.cl lh fr m T) It D ts.length (fun i acc σ => compGo (turnW (baseOf caps fr) is xt x) Qfin (ts.drop i) acc σ) s₂)
      (fun n s' q => q.go fun i fr' h' tk' itx' oD vs acc σ' ej hi hIt hO hacc R2 g => by
        by_cases hlt : i < ts.length
        · exact comp_turn (T := Tm.in S ks d.cl lh fr m T) Sr helt hifs Hc hA (fun c lh t => hT _ _ t.2.2) (fun c lh t => hB _ _ t.2.2) hlen hlt hIt hO hacc R2 g fun s' q => ⟨_, ej ▸ Nat.sub_lt_sub_left hlt (Nat.lt_succ_self i), q⟩
        · obtain rfl : i = ts.length := by omega
          cases comp_end XD hDnew R2 hO with | mk R3 hC =>
          refine Sr.done (T := Tm.v S.ad (.ref D) (.d (.list acc)) T) (s := { s₂ with heap := h', toks := tk' }) hA.handled (fun c lh t => hT _ _ t.2) hIt R3 fun h2 tk2 hk2 => ?_
          have ha := Sr.addr hIt
          exact fin C D σ' h2 tk2 _ acc _ (R3.endExs (fun p hp => hnew _ (ha ▸ List.mem_map_of_mem hp)) fun b o hb e => hk2 b o (ha ▸ hb) e) hC hCnew (compGo_nil g (Nat.le_refl _)))
      (ts.length - 0) ⟨rfl, rfl, Nat.zero_le _, h0, ⟨0, rfl⟩, Nat.le_refl _, R1, hw⟩
  exact codeAny_compStart_list (loop _) (Sr.self (T := Tm.dl [] [] (Tm.in S ks d.cl lh fr m T)) (dd := ⟨H2, c, ((D, ({ cls := .type "list", data := .seq ([] : List Value).toArray } : Obj)) :: (mg ++ (mh ++ (itx ++ d.ex)))).map (·.1), C, cl', []⟩) hA.handled (fun c lh t => hT _ _ t.2.2.2) h0 R1 (loop _))
end
end Mine
/-! ## NI -/
namespace Mine
open PySem PySem.W PySem.Calls PyProof.Rows
theorem strWalks {prog : Program} {w : World} {A : Around} (hh : A.handled = none) (I : Addr) (x : Str) (t : Tok) : Walks prog w A I [I] [I] x.cps.size (SignAt x) (fun i h => h.IsStrIter I (strIterType x) x t i) := by
  unfold strIterType
  cases ha : x.cps.all (· < 128)
  · exact Walks.strWide hh I x t
  · exact Walks.strAscii hh I x t
inductive StrIt (I : Addr) (x : Str) (t : Tok) (i : Nat) : List (Addr × Obj) → Prop
  | mk {o : Obj} : o.cls = .type (strIterType x) → o.data = .fields #[.str x t, .int i 0] → StrIt I x t i [(I, o)]
inductive ListIt (I ax : Addr) (i : Nat) : List (Addr × Obj) → Prop
  | mk {o : Obj} : o.cls = .type "list_iterator" → o.data = .fields #[.ref ax, .int i 0] → ListIt I ax i [(I, o)]
theorem notin1 {I b : Addr} (h : b ∉ [I]) : b ≠ I := fun q => h (q ▸ .head _)
section
variable {S : Stat} {ks ks' : List (Str × NameKind)}
theorem Rl.upd1 {d : Dy} {T : Tm} {fr : Fr'} {σ : Sto} {h h' : Heap} {I : Addr} {o o' : Obj} {rest : List (Addr × Obj)} (R : Rl S ks { d with ex := [(I, o)] ++ rest } T fr σ h) (ho : h'.get? I = some o') (he : ∀ b o, b ∉ [I] → h.get? b = some o → h'.get? b = some o) : Rl S ks { d with ex := [(I, o')] ++ rest } T fr σ h' :=
  R.updExs (as := [(I, o)]) (as' := [(I, o')]) rfl (fun p hp => by obtain rfl := List.mem_singleton.mp hp; exact ho) he
theorem src_chars {I : Addr} {x : Str} {t : Tok} {iN : Nat} {n : Str} {np : Pos} (hi : ks'[iN]? = some (n, .local)) : Src S (.Name n np) I ks' [iN] (x.cps.toList.map fun c => [.str ⟨#[c]⟩]) Tm.nil [I] (StrIt I x t) where
  addr := fun h => by cases h; rfl
  item := fun {i dd rest itx fr σ T A E s cenv QQ N} hlt H hA hT hIt R ret => by
    cases hIt with | @mk o hc hd =>
    have hlt2 : i < x.cps.size := by rw [List.length_map, Array.length_toList] at hlt; exact hlt
    refine (strWalks (A := A) hA.handled I x t).item i s _ _ hlt2 ⟨o, Rl.getEx R, hc, hd⟩ fun v h' tk hP hst hk => ?_
    obtain ⟨cc, tt, hcc, rfl⟩ := hP
    obtain ⟨o', ho', hc', hd'⟩ := hst
    have R2 := Rl.upd1 R ho' hk
    refine wpAny_of_eq (a := ()) rfl (wpAny_assign_Name (st_sound (s := { s with heap := h', toks := tk }) (H.ex _) hi (R2.val (x := .str ⟨#[cc]⟩) fun c => .str _ _) fun h3 tk3 R3 => ret h3 tk3 _ ⟨hc', hd'⟩ ?_))
    rw [Array.getElem?_eq_getElem hlt2] at hcc
    cases hcc
    rw [List.getElem_map, Array.getElem_toList]; exact R3
  done := fun {ks'' dd rest itx fr σ T A E s QQ} hh hT hIt R ret => by
    cases hIt with | @mk o hc hd =>
    rw [List.length_map, Array.length_toList] at hd
    exact (strWalks (A := A) hh I x t).done s _ _ ⟨o, Rl.getEx R, hc, hd⟩ fun h' tk hk => ret h' tk hk
  self := fun {ks'' dd rest itx fr σ T A E s QQ} hh hT hIt R ret => by
    cases hIt with | @mk o hc hd =>
    exact (strWalks (A := A) hh I x t).self 0 s _ _ ⟨o, Rl.getEx R, hc, hd⟩ ret
inductive Prs : List PyData → List (List PyData) → Prop
  | nil : Prs [] []
  | cons {a b ds ts} : Prs ds ts → Prs (.tuple [a, b] :: ds) ([a, b] :: ts)
theorem pairs_inv {ds : List PyData} {K : List (List PyData) → Prop} (h : pairs ds K) : ∃ ts, Prs ds ts ∧ K ts := by
  induction ds generalizing K with
  | nil => exact ⟨[], .nil, h⟩
  | cons p r ih =>
    obtain ⟨l, rfl, h⟩ := onT_inv h
    obtain ⟨ts, e, h⟩ := ih h
    rcases l with _ | ⟨a, _ | ⟨b, _ | ⟨c, l⟩⟩⟩
    · exact False.elim h
    · exact False.elim h
    · exact ⟨_, .cons e, h⟩
    · exact False.elim h
theorem Prs.length {ds : List PyData} {ts : List (List PyData)} (h : Prs ds ts) : ds.length = ts.length := by
  induction h with
  | nil => rfl
  | cons _ ih => exact congrArg (· + 1) ih
theorem Prs.get {ds : List PyData} {ts : List (List PyData)} (h : Prs ds ts) : ∀ {i : Nat} (hi : i < ts.length), ∃ a b, ds[i]? = some (.tuple [a, b]) ∧ ts[i] = [a, b] := by
  induction h with
  | nil => exact fun hi => absurd hi (Nat.not_lt_zero _)
  | @cons a b _ _ _ ih =>
    intro i hi
    cases i with
    | zero => exact ⟨a, b, rfl, rfl⟩
    | succ i => exact ih (Nat.lt_of_succ_lt_succ hi)
theorem tup_keep {h h' : Heap} {I ta : Addr} {o : Obj} {us : Array Value} (ho : h.get? I = some o) (hc : o.cls = .type "list_iterator") (hs : Heap.SameBut I h h') (ht : IsTup h ta us) : IsTup h' ta us := by
  obtain ⟨ot, hot, r⟩ := ht
  refine ⟨ot, (hs.2 ta fun q => ?_).trans hot, r⟩
  subst q
  rw [ho] at hot
  cases hot
  rw [hc] at r
  exact absurd r.1 (by decide)
theorem src_pairs {I ax : Addr} {ds : List PyData} {ts : List (List PyData)} {es : List Expr} {is : List Nat} {k : Nat} {tp : Pos} (hn : NmE ks' is es) (hl2 : is.length = 2) (hts : Prs ds ts) :
    Src S (.Tuple es k tp) I ks' is ts (Tm.v S.ad (.ref ax) (.d (.list ds)) Tm.nil) [I] (ListIt I ax) where
  addr := fun h => by cases h; rfl
  item := fun {i dd rest itx fr σ T A E s cenv QQ N} hlt H hA hT hIt R ret => by
    cases hIt with | @mk o hc hd =>
    obtain ⟨a, b, hab, hts2⟩ := hts.get hlt
    have ho := Rl.getEx R
    have R0 : Rl S ks' { dd with ex := [(I, o)] ++ rest } (Tm.v S.ad (.ref ax) (.d (.list ds)) T) fr σ s.heap := R.imp fun c lh t => ⟨(hT _ _ t).1, t⟩
    cases list_at R0 with | mk e hl hvl R1 =>
    cases e
    obtain ⟨v, hv, R2⟩ := dl_get R1 hab
    refine wpAny_pyNext_list_item ⟨o, ho, hc, hd⟩ hl (by rw [List.getElem?_toArray]; exact hv) fun h' hit' hs' => ?_
    cases tup_at R2 with | mk ev ht hul R3 =>
    subst ev
    obtain ⟨o', ho', hc', hd'⟩ := id hit'
    have R4 := Rl.upd1 R3 ho' fun b o hb e => hs'.extBut b o (notin1 hb) e
    refine wpAny_letOwnedTupleGo_listiter (s := { s with heap := h' }) hit' (assign_Tuple_tuple (s := { s with heap := h' }) hA.handled (tup_keep ho hc hs' ht) (by rw [hn.len, hl2, List.size_toArray, hul]; rfl) hn.star fun h2 he => ?_)
    refine stores (s := { s with heap := h2 }) (H.ex _) hn.t (by rw [hl2]; rfl) (R4.keeps fun b o e => he b o (Nat.ne_of_lt (Heap.lt_size e)) e) fun h3 tk3 R6 => ret h3 tk3 _ ⟨hc', hd'⟩ ?_
    rw [hts2]; exact R6
  done := fun {ks'' dd rest itx fr σ T A E s QQ} hh hT hIt R ret => by
    cases hIt with | @mk o hc hd =>
    have R0 : Rl S ks'' { dd with ex := [(I, o)] ++ rest } (Tm.v S.ad (.ref ax) (.d (.list ds)) T) fr σ s.heap := R.imp fun c lh t => ⟨(hT _ _ t).1, t⟩
    cases list_at R0 with | mk e hl hvl R1 =>
    cases e
    exact wpAny_pyNext_list_end hh ⟨o, Rl.getEx R, hc, hd⟩ hl (by rw [List.getElem?_toArray, List.getElem?_eq_none_iff, hvl, hts.length]; exact Nat.le_refl _) fun h' he => ret h' s.toks fun b o hb e => he b o (notin1 hb) e
  self := fun {ks'' dd rest itx fr σ T A E s QQ} hh hT hIt R ret => by
    cases hIt with | @mk o hc hd =>
    exact wpAny_pyIter_listiter (i := 0) ⟨o, Rl.getEx R, hc, hd⟩ ret
end
end Mine
/-! ## NJ -/
namespace Mine
open PySem PySem.W PySem.Calls PyProof.Rows
section
variable {S : Stat} {ks ks' : List (Str × NameKind)}
theorem Rl.newEx2 {d : Dy} {T : Tm} {fr : Fr'} {σ : Sto} {h h' : Heap} {I J : Addr} {o o2 : Obj} (R : Rl S ks d T fr σ h) (hI : h'.get? I = some o) (hJ : h'.get? J = some o2) (hf : h.objs.size ≤ I) (hf2 : h.objs.size ≤ J) (hne : J ≠ I) (hk : ∀ b o, h.get? b = some o → h'.get? b = some o) :
    Rl S ks { d with ex := (J, o2) :: (I, o) :: d.ex } T fr σ h' ∧ d.s₀.get? I = none ∧ d.s₀.get? J = none := by
  cases R with | mk c m mg mh lh X G H F tt =>
  have S1 := X.pushMu hI hf hk
  have n2 : d.s₀.get? J = none := X.ofNone (get_none_of_size hf2)
  have S2 : Mine.Sx S.hb d.s₀ d.c₀ d.mod c d.L m ((J, o2) :: (I, o) :: (mg ++ (mh ++ d.ex))) h' :=
    ⟨S1.ns, S1.base, S1.grow, S1.sub, S1.new, S1.kept, S1.noL, fun p hp => by
      rcases List.mem_cons.mp hp with rfl | hp
      · exact ⟨hJ, Nat.ne_of_gt (Nat.lt_of_lt_of_le X.lt hf2), X.fresh hf2, .inr n2⟩
      · exact S1.own p hp, List.nodup_cons.mpr ⟨fun q => by
        obtain ⟨p, hp, e⟩ := List.mem_map.mp q
        rcases List.mem_cons.mp hp with rfl | hp
        · exact hne e.symm
        · exact Nat.lt_irrefl _ (Nat.lt_of_lt_of_le (Heap.lt_size (X.own p hp).1) (e ▸ hf2)), S1.nd⟩, S1.sizeb, S1.sizeL, S1.alive⟩
  refine ⟨⟨c, m, mg, mh, lh, S2.perm ?_, G, H, F, tt⟩, X.ofNone (get_none_of_size hf), n2⟩
  show List.Perm (mg ++ (mh ++ (J, o2) :: (I, o) :: d.ex)) ((J, o2) :: (I, o) :: (mg ++ (mh ++ d.ex)))
  rw [← List.append_assoc, ← List.append_assoc]
  exact List.perm_middle.trans (List.perm_middle.cons _)
noncomputable def enObj (it : Addr) (i : Int) (old : Value) : Obj := { cls := .type "enumerate", dict := none, data := .fields #[.none, .bool false, .ref it, rawInt i, .none, old], slots := #[] }
noncomputable def enOut (it : Addr) (i : Int) (x : Value) (T : Addr) : Obj := { cls := .type "enumerate", dict := none, data := .fields #[rawInt T, .bool false, .ref it, rawInt i, .none, x], slots := #[] }
inductive EnIt (e it ax : Addr) (i : Nat) : List (Addr × Obj) → Prop
  | mk {o : Obj} {old} : o.cls = .type "list_iterator" → o.data = .fields #[.ref ax, .int i 0] → EnIt e it ax i [(e, enObj it i old), (it, o)]
theorem enums_len {ds : List PyData} {k : Nat} : (enums k ds).length = ds.length := by
  induction ds generalizing k with
  | nil => rfl
  | cons d r ih => exact congrArg (· + 1) ih
theorem enums_get {ds : List PyData} {k i : Nat} (h : i < (enums k ds).length) : ∃ x, ds[i]? = some x ∧ (enums k ds)[i] = [.int ((k + i : Nat) : Int), x] := by
  induction ds generalizing k i with
  | nil => exact absurd h (Nat.not_lt_zero _)
  | cons d r ih =>
    cases i with
    | zero => exact ⟨d, rfl, rfl⟩
    | succ i =>
      obtain ⟨x, h1, h2⟩ := ih (k := k + 1) (i := i) (Nat.lt_of_succ_lt_succ h)
      exact ⟨x, h1, by rw [show k + (i + 1) = k + 1 + i by omega]; exact h2⟩
theorem upd2 {d : Dy} {T : Tm} {fr : Fr'} {σ : Sto} {h h' : Heap} {I J : Addr} {o o' q q' : Obj} {rest : List (Addr × Obj)} (R : Rl S ks { d with ex := [(I, o), (J, q)] ++ rest } T fr σ h) (ho : h'.get? I = some o') (hq : h'.get? J = some q') (he : ∀ b o, b ∉ [I, J] → h.get? b = some o → h'.get? b = some o) : Rl S ks { d with ex := [(I, o'), (J, q')] ++ rest } T fr σ h' :=
  R.updExs (as := [(I, o), (J, q)]) (as' := [(I, o'), (J, q')]) rfl (fun p hp => by
    rcases List.mem_cons.mp hp with rfl | hp
    · exact ho
    · obtain rfl := List.mem_singleton.mp hp; exact hq) he
/-- a list is neither of the iterators -/
theorem ax_ne {h : Heap} {e ax : Addr} {o : Obj} {us : Array Value} (he : h.get? e = some o) (hl : h.IsList ax us) (hc : o.cls ≠ .type "list") : ax ≠ e := fun q => by
  obtain ⟨oa, hoa, hca, _⟩ := hl
  subst q
  rw [he] at hoa
  cases hoa
  exact hc hca
theorem en_cls : Value.type "enumerate" ≠ .type "list" := by decide
theorem src_enum {e it ax : Addr} {ds : List PyData} {es : List Expr} {is : List Nat} {k : Nat} {tp : Pos} (hn : NmE ks' is es) (hl2 : is.length = 2) (hne : e ≠ it) :
    Src S (.Tuple es k tp) e ks' is (enums 0 ds) (Tm.v S.ad (.ref ax) (.d (.list ds)) Tm.nil) [e, it] (EnIt e it ax) where
  addr := fun h => by cases h; rfl
  item := fun {i dd rest itx fr σ T A E s cenv QQ N} hlt H hA hT hIt R ret => by
    cases hIt with | @mk o old hc hd =>
    have he := Rl.getExs R _ (.head _)
    have ho := Rl.getExs R _ (.tail _ (.head _))
    have R0 : Rl S ks' { dd with ex := [(e, enObj it i old), (it, o)] ++ rest } (Tm.v S.ad (.ref ax) (.d (.list ds)) T) fr σ s.heap := R.imp fun c lh t => ⟨(hT _ _ t).1, t⟩
    cases list_at R0 with | @mk _ vs e0 hl hvl R1 =>
    cases e0
    have ne1 := ax_ne he hl en_cls
    have ne2 := ax_ne ho hl (by rw [hc]; decide)
    obtain ⟨x, hx, hts⟩ := enums_get hlt
    obtain ⟨v, hv, R2⟩ := dl_get R1 hx
    have W := WalksT.enumerate (prog := PG) (w := S.w) hA.handled e it ax hne ne1 ne2 vs.toArray
    refine W.item i s _ _ (by rw [List.size_toArray, hvl]; rw [enums_len] at hlt; exact hlt) ⟨⟨old, he⟩, ⟨o, ho, hc, hd⟩, hl⟩ fun T' vals h' tk hP hsz htup hM hk => ?_
    obtain ⟨tt, x', hx', rfl⟩ := hP
    rw [List.getElem?_toArray, hv] at hx'
    cases hx'
    obtain ⟨⟨x2, hE⟩, ⟨o', ho', hc', hd'⟩, hl', hT1, hT2⟩ := id hM
    have R3 := upd2 (o' := enOut it ((i : Int) + 1) x2 T') R2 hE ho' hk
    refine W.go es k tp i T' { s with heap := h', toks := tk } _ _ hM fun h2 hst hk2 => ?_
    obtain ⟨⟨old2, hE2⟩, ⟨o2, ho2, hc2, hd2⟩, hl2'⟩ := id hst
    have R4 := upd2 (o' := enObj it ((i + 1 : Nat) : Int) old2) R3 hE2 ho2 hk2
    have htup2 : IsTup h2 T' #[.int i tt, v] := by
      obtain ⟨ot, hot, r⟩ := htup
      exact ⟨ot, hk2 _ _ (by simp [hT1, hT2]) hot, r⟩
    refine assign_Tuple_tuple (s := { s with heap := h2, toks := tk }) hA.handled htup2 (by rw [hn.len, hl2]; rfl) hn.star fun h3 he3 => ?_
    have R6 : Rl S ks' _ (Tm.dl [.int i tt, v] [.int i, x] T) fr σ h3 := (R4.keeps fun b o e => he3 b o (Nat.ne_of_lt (Heap.lt_size e)) e).imp fun c lh t => ⟨.cons (.int _ _) (.cons t.1 .nil), t.2⟩
    refine stores (s := { s with heap := h3, toks := tk }) (H.ex _) hn.t (by rw [hl2]; rfl) R6 fun h4 tk4 R7 => ret h4 tk4 _ (.mk (old := old2) hc2 hd2) ?_
    rw [hts, Nat.zero_add]; exact R7
  done := fun {ks'' dd rest itx fr σ T A E s QQ} hh hT hIt R ret => by
    cases hIt with | @mk o old hc hd =>
    have he := Rl.getExs R _ (.head _)
    have ho := Rl.getExs R _ (.tail _ (.head _))
    have R0 : Rl S ks'' { dd with ex := [(e, enObj it (enums 0 ds).length old), (it, o)] ++ rest } (Tm.v S.ad (.ref ax) (.d (.list ds)) T) fr σ s.heap := R.imp fun c lh t => ⟨(hT _ _ t).1, t⟩
    cases list_at R0 with | @mk _ vs e0 hl hvl R1 =>
    cases e0
    refine (WalksT.enumerate (prog := PG) (w := S.w) hh e it ax hne (ax_ne he hl en_cls) (ax_ne ho hl (by rw [hc]; decide)) vs.toArray).done s _ _ ?_ fun h' tk hk => ret h' tk hk
    rw [List.size_toArray, hvl]
    rw [enums_len] at he hd
    exact ⟨⟨old, he⟩, ⟨o, ho, hc, hd⟩, hl⟩
  self := fun {ks'' dd rest itx fr σ T A E s QQ} hh hT hIt R ret => by
    cases hIt with | @mk o old hc hd => exact wpAny_pyIter_enum (Rl.getExs R _ (.head _)) ret
end
end Mine
/-! ## NK -/
namespace Mine
open PySem PySem.W PySem.Calls PyProof.Rows
noncomputable def Tm.base (S : Stat) (ks' : List (Str × NameKind)) (cl' : List (Str × Addr)) (base : Fr') (T : Tm) : Tm :=
  ⟨fun c lh => (∀ m', FrR S.ad lh c ks' cl' base m') ∧ T.on c lh, fun k h => ⟨fun m' => (h.1 m').mono k, T.mono k h.2⟩⟩
/-- a source of turns, laid -/
inductive SrcAt' (S : Stat) (ks ks' : List (Str × NameKind)) (d : Dy) (T : Tm) (target : Expr) (is : List Nat) (fr : Fr') (σ : Sto) (h : Heap) (ts : List (List PyData)) (I : Addr) : Prop
  | mk {as It itx T₀ T1} : Src S target I ks' is ts T₀ as It → It 0 itx → (∀ a ∈ as, d.s₀.get? a = none) → (∀ c lh, T1.on c lh → T₀.on c lh) → (∀ c lh, T1.on c lh → T.on c lh) →
      Rl S ks { d with ex := itx ++ d.ex } T1 fr σ h → SrcAt' S ks ks' d T target is fr σ h ts I
/-- the source of a comprehension, from its expression -/
noncomputable def SrcE (S : Stat) (ks ks' : List (Str × NameKind)) (kd : CK) (iter : Expr) (xs : X) (target : Expr) (is : List Nat) : Prop :=
  ∀ {d env T fr σ A E s} {QQ : Value → Shared → Prop} {Q : List (List PyData) → Sto → Prop}, EnvOk ks d env → Rm A S.k → Rl S ks d T fr σ s.heap → xs fr σ (fun a σ => isD a fun D => turnsK kd D fun ts => Q ts σ) →
    (∀ I ts σ' h' tk', SrcAt' S ks ks' d T target is fr σ' h' ts I → Q ts σ' → QQ (.ref I) { s with heap := h', toks := tk' }) → wpAny (model PG S.w) A (eval iter env) (fun v s₁ => wpAny (model PG S.w) A (pyIter v) QQ E s₁) E s
theorem all1 {I : Addr} {P : Addr → Prop} (h : P I) : ∀ a ∈ [I], P a := fun a ha => List.mem_singleton.mp ha ▸ h
section
variable {S : Stat} {ks ks' : List (Str × NameKind)}
theorem SrcE.chars {iter : Expr} {xs : X} {iN : Nat} {n : Str} {np : Pos} (h : SE S ks iter xs) (hi : ks'[iN]? = some (n, .local)) : SrcE S ks ks' .chars iter xs (.Name n np) [iN] := fun {d env T fr σ A E s QQ Q} H hA R hx ret =>
  h.ev H hA R hx fun v a σ' h' tk' R' q => by
    obtain ⟨D, rfl, q⟩ := isD_inv q
    obtain ⟨x, rfl, q⟩ := onS_inv q
    obtain ⟨t, rfl⟩ : ∃ t, v = .str x t := let ⟨_, _, r⟩ := R'.rd; r.str_inv
    refine wpAny_pyIter_strU ?_
    obtain ⟨R2, hn⟩ := R'.drop.newEx (o := { cls := .type (strIterType x), data := .fields #[.str x t, .int 0 0] }) (Heap.get?_push_size h' rfl) (Nat.le_refl _) (push_keeps _ _)
    exact ret _ _ σ' _ tk' ⟨src_chars hi, ⟨rfl, rfl⟩, all1 hn, fun _ _ _ => True.intro, fun _ _ t => t, R2⟩ q
theorem SrcE.pairs {iter : Expr} {xs : X} {es : List Expr} {is : List Nat} {k : Nat} {tp : Pos} (h : SE S ks iter xs) (hn : NmE ks' is es) (hl2 : is.length = 2) : SrcE S ks ks' .pair iter xs (.Tuple es k tp) is := fun {d env T fr σ A E s QQ Q} H hA R hx ret =>
  h.ev H hA R hx fun v a σ' h' tk' R' q => by
    obtain ⟨D, rfl, q⟩ := isD_inv q
    obtain ⟨ds, rfl, q⟩ := onL_inv q
    obtain ⟨ts, e, q⟩ := pairs_inv q
    cases list_at R' with | @mk ax vs ev hl hlen _ =>
    subst ev
    refine wpAny_pyIter_list hl ?_
    obtain ⟨R2, hnw⟩ := R'.newEx (o := { cls := .type "list_iterator", data := .fields #[.ref ax, .int 0 0] }) (Heap.get?_push_size h' rfl) (Nat.le_refl _) (push_keeps _ _)
    exact ret _ _ σ' _ tk' ⟨src_pairs (ax := ax) hn hl2 e, ⟨rfl, rfl⟩, all1 hnw, fun _ _ (t : (Tm.v S.ad (.ref ax) (.d (.list ds)) T).on _ _) => ⟨t.1, True.intro⟩, fun _ _ t => t.2, R2⟩ q
theorem SrcE.enum {iter : Expr} {xs : X} {es : List Expr} {is : List Nat} {k iE : Nat} {tp ep cp : Pos} (hi : ks[iE]? = some (("enumerate" : Str), NameKind.globalImplicit)) (h : SE S ks iter xs) (hn : NmE ks' is es) (hl2 : is.length = 2) :
    SrcE S ks ks' .enum (.Call (.Name "enumerate" ep) [iter] [] cp) xs (.Tuple es k tp) is := fun {d env T fr σ A E s QQ Q} H hA R hx ret =>
  eval_call (ev_b 4 H R hi rfl (PyProof.Rows.callWith_type1 (spliced_more (h.ev H hA R hx fun v a σ' h' tk' R' q => spliced_none (by
    obtain ⟨D, rfl, q⟩ := isD_inv q
    obtain ⟨ds, rfl, q⟩ := onL_inv q
    cases list_at R' with | @mk ax vs ev hl hlen _ =>
    subst ev
    refine call_enumerate_list (s := { s with heap := h', toks := tk' }) hl fun h2 hE hI hsz hk => ?_
    refine wpAny_pyIter_enum (s := { s with heap := h2, toks := tk' }) hE ?_
    obtain ⟨oi, hoi, hic, hid⟩ := id hI
    obtain ⟨R3, hn1, hn2⟩ := R'.newEx2 (I := h'.objs.size) (J := h'.objs.size + 1) (o := oi) (o2 := enObj h'.objs.size 0 .none) (h' := h2) hoi hE (Nat.le_refl _) (Nat.le_succ _) (Nat.succ_ne_self _) hk
    exact ret _ _ σ' _ tk' ⟨src_enum (ax := ax) hn hl2 (Nat.succ_ne_self _), ⟨hic, hid⟩, List.forall_mem_cons.mpr ⟨hn2, all1 hn1⟩, fun _ _ (t : (Tm.v S.ad (.ref ax) (.d (.list ds)) T).on _ _) => ⟨t.1, True.intro⟩, fun _ _ t => t.2, R3⟩ q)) (h.star _ _)) (h.star _ _)))
theorem comp_run {kd : CK} {elt target iter : Expr} {ifs : List Expr} {xs x : X} {xt : Option X} {scope : Scope} {cpos pos : Pos} {caps : List (Option Nat)} {is : List Nat} {use : Option (Value → Sem Unit)} {d : Dy} {env : Env} {T : Tm} {fr : Fr'} {σ : Sto} {A : Around} {E : Value → Shared → Prop} {s : Shared}
    {QC : Value → Shared → Prop} {Q : AV → Sto → Prop} (CO : CompOk S ks ks' caps scope) (hsrc : SrcE S ks ks' kd iter xs target is) (helt : SE S ks' elt x) (hifs : CT S ks' ifs xt) (hfold : ∀ env v, foldedSetIterable iter env v = pure v)
    (H : EnvOk ks d env) (hA : Rm A S.k) (R : Rl S ks d T fr σ s.heap) (hx : X.compX kd caps is xs xt x fr σ Q)
    (fin : ∀ C D σ' h tk oC acc m, Rl S ks { d with ex := (C, oC) :: d.ex } (Tm.v S.ad (.ref D) (.d (.list acc)) T) fr σ' h → (∀ h' : Heap, h'.get? C = some oC → h'.Ns C m) → d.s₀.get? C = none → Q (.d (.list acc)) σ' → compPost (model PG S.w) A E use QC (.ref D) C (.ok .next) { s with heap := h, toks := tk }) :
    wpAny (model PG S.w) A (comprehension (.ListComp elt [⟨target, iter, ifs, 0⟩] scope pos) scope env cpos (newList []) false (eval iter env) use) QC E s := by
  obtain ⟨hcap, hx⟩ := grd_inv hx
  have ⟨cl', hcl, R1⟩ : ∃ cl', closureFor scope env = pure cl' ∧ Rl S ks d (Tm.base S ks' cl' (baseOf caps fr) T) fr σ s.heap := by
    cases R with | mk c m mg mh lh X G Hh F tt =>
    obtain ⟨cl', hcl, hB⟩ := CO.clos env d fr c lh m H F hcap
    exact ⟨cl', hcl, c, m, mg, mh, lh, X, G, Hh, F, fun m' => hB c (CM.le.refl c) m', tt⟩
  refine wpAny_comprehension_free rfl (hfold env) hcl CO.kind CO.loc (hsrc H hA R1 (Q := fun ts σ => ts.length ≤ 100000 ∧ compGo (turnW (baseOf caps fr) is xt x) (fun acc σ => Q (.d (.list acc)) σ) ts [] σ) hx fun I ts σ' h' tk' q hw => ?_)
  cases q with | mk hS h0 hnew hT0 hT R2 =>
  exact comp_core (s₂ := { s with heap := h', toks := tk' }) CO hS helt hifs H hA hT0 (fun c lh t m' => (hT _ _ t).1 m') h0 R2 hnew hw.1 hw.2 fun C D σ'' h2 tk2 oC acc m2 R3 hns hC q =>
    fin C D σ'' h2 tk2 oC acc m2 (R3.imp fun c lh t => ⟨t.1, (hT _ _ t.2).2⟩) hns hC q
theorem SE.compX {kd : CK} {elt target iter : Expr} {ifs : List Expr} {xs x : X} {xt : Option X} {scope : Scope} {pos : Pos} {caps : List (Option Nat)} {is : List Nat} (CO : CompOk S ks ks' caps scope) (hsrc : SrcE S ks ks' kd iter xs target is) (hifs : CT S ks' ifs xt) (helt : SE S ks' elt x) (hfold : ∀ env v, foldedSetIterable iter env v = pure v := by intro _ _; rfl) :
    SE S ks (.ListComp elt [⟨target, iter, ifs, 0⟩] scope pos) (.compX kd caps is xs xt x) := .plain fun {d env T fr σ A E s QQ Q} H hA R hx ret => by
  rw [eval_ListComp]
  exact comp_run (use := none) CO hsrc helt hifs hfold H hA R hx fun C D σ' h tk oC acc m R2 hns hC q => ⟨m, hns _ R2.getEx, fun h2 hs => ret _ _ _ _ _ (R2.endEx hC hs.extBut) q⟩
theorem SS.asgC (i : Nat) {n : Str} {np spos : Pos} {kd : CK} {elt target iter : Expr} {ifs : List Expr} {xs x : X} {xt : Option X} {scope : Scope} {pos : Pos} {caps : List (Option Nat)} {is : List Nat} (hi : ks[i]? = some (n, .local)) (CO : CompOk S ks ks' caps scope) (hsrc : SrcE S ks ks' kd iter xs target is) (hifs : CT S ks' ifs xt) (helt : SE S ks' elt x)
    (hfold : ∀ env v, foldedSetIterable iter env v = pure v := by intro _ _; rfl)
    (hsw : ∀ env : Env, env.scope.kind = .function → env.kindOf n = some .local → swapsWith (.ListComp elt [⟨target, iter, ifs, 0⟩] scope pos) (some (.Name n np)) spos.line env = pure true) :
    SS S ks (.Assign [.Name n np] (.ListComp elt [⟨target, iter, ifs, 0⟩] scope pos) spos) (.asg i (.compX kd caps is xs xt x)) := ⟨fun {d env T fr σ A E s QQ N Rt} H hA hT R hx nx r => by
  rw [exec_Assign_Name_used _ _ _ _ (hsw env H.kind (H.kindOf hi)), arm_evalThenUse_ListComp]
  refine wpAny_bind (wpAny_standAt (wpAny_bind (wpAny_bind ?_)))
  refine comp_run (use := some (assign (.Name n np) env)) (Q := fun a σ => N (fr.set i (some a)) σ) CO hsrc helt hifs hfold H hA R hx fun C D σ' h tk oC acc m R2 hns hC q => ?_
  exact wpAny_assign_Name (st_sound (s := { s with heap := h, toks := tk }) (H.ex _) hi R2 fun h3 tk3 R3 => ⟨m, hns _ R3.getEx, fun h4 hs => wpAny_pure (wpAny_pure (nx _ _ _ _ (R3.endEx hC hs.extBut) q))⟩)⟩
/-- comps with nothing of the frame around -/
theorem CompOk.free {scope : Scope} (hf : (scope.names.all fun y => !(y.2 == .free) && !(y.2 == .cell)) = true) (hk : scope.kind = .function) (nd : decide (scope.names.map (·.1)).Nodup = true) (dbg : (scope.names.all fun p => !(p.1 == ("__debug__" : Str))) = true) :
    CompOk S ks scope.names (scope.names.map fun _ => none) scope := by
  have hf : ∀ y ∈ scope.names, y.2 ≠ .free ∧ y.2 ≠ .cell := fun y hy => by
    have := List.all_eq_true.mp hf y hy
    exact ⟨fun q => (by rw [q] at this; exact (nomatch this)), fun q => (by rw [q] at this; exact (nomatch this))⟩
  refine ⟨fun y hy => (hf y hy).2, hk, fun y hy e => ?_, of_decide_eq_true nd, fun p hp => ?_, fun env d H => ?_, fun env d fr c lh m H F hcap => ⟨[], closureFor_none fun y hy => (hf y hy).1, fun c' le m' i x k av hi hfr => ?_⟩⟩
  · obtain ⟨i, hi⟩ := List.getElem?_of_mem hy
    exact lookup_of_nodup (i := i) (of_decide_eq_true nd) (by rw [hi, ← e])
  · have := List.all_eq_true.mp dbg p hp
    cases e : p.1 == ("__debug__" : Str) with
    | false => rfl
    | true => rw [e] at this; exact nomatch this
  · unfold relabel
    exact map_eq_self (l := scope.names) (fun x hx => by
      obtain ⟨n, k⟩ := x
      have : (k == NameKind.free) = false := beq_eq_false_iff_ne.mpr (hf _ hx).1
      simp [this])
  · rw [baseOf, List.map_map, List.getElem?_map, hi] at hfr
    exact nomatch hfr
end
end Mine
/-! ## NL -/
namespace Mine
open PySem PySem.W PySem.Calls PyProof.Rows Builtin Builtin.ObjectAttr
section
variable {M : Model} {A : Around} {E : Value → Shared → Prop} {h : Heap} {g : Array GenState} {d : Drawn} {t : Nat} {os : OsState}
theorem pg_match {e c C N N' : Addr} {nm nm' : Str} {k0 k1 k2 k3 k5 j0 j1 j2 j3 j5 : Option Value} {oe : Obj} {Q : Bool → Shared → Prop} (hC : h.get? C = some (pgObj C N nm k0 k1 k2 k3 k5)) (hc : h.get? c = some (pgObj c N' nm' j0 j1 j2 j3 j5)) (he : h.get? e = some oe) (hcls : oe.cls = .ref c) (hne : C ≠ 59)
    (hq : Q (decide (c = C)) ⟨h, g, d, t, os⟩) : wpAny M A (excMatches (.ref e) (.ref C)) Q E ⟨h, g, d, t, os⟩ := by
  have hcB : (Value.ref C :: pgMro).contains (.type "BaseException") = true := by simp [pgMro, pgB]
  have hcC : (Value.ref c :: pgMro).contains (.ref C) = decide (c = C) := by
    have e1 : decide (C = 59) = false := by simp [hne]
    by_cases q : c = C
    · simp [q]
    · have q' : ¬ C = c := fun z => q z.symm
      simp [pgMro, pgB, q, q', hne]
  have f := tc_notTuple
  unfold excMatches
  repeat (first | (with_reducible refine wpAny_loadPart_at he ?_; rw [hcls]) | with_reducible refine wpAny_loadPart_at hC ?_ | (with_reducible refine wpAny_isSubtype_exc hC ?_; rw [hcB]) | (with_reducible refine wpAny_isSubtype_exc hc ?_; rw [hcC]) | wp_step)
  cases hb : decide (c = C) <;> (rw [hb] at hq; wp_walk; exact hq)
end
section
variable {S : Stat} {ks : List (Str × NameKind)} {d : Dy} {env : Env} {A : Around} {E : Value → Shared → Prop} {outer : List Env}
theorem mainName {x : Str} {p : Pos} {v : Value} {i : Nat} {s : Shared} {QQ : Value → Shared → Prop} (H : EnvOk ks d env) (hk : S.hb.StaysIn s.heap) (hx : ks[i]? = some (x, .globalImplicit))
    (e : nsIn S.K mainGlobals x = some (some v)) (h : QQ v s) : wpAny (model PG S.w) A (eval (.Name x p) env) QQ E s := by
  obtain ⟨_, g⟩ := S.G.g
  exact Name_function_global H.kind (H.kindOf hx) (loadGlobal_global (H.glob ▸ g.keeps hk) (mg_of S.G.K g e) h) (H.dbg' hx)
/-- one handler looks at a flying exception -/
theorem hand_one {e c C : Addr} {a0 : Value} {s : Shared} {x : Str} {np pos : Pos} {iC : Nat} {b₀ : Stmt} {suite : List Stmt} {rest : List ExceptHandler} {QQ : Flow → Shared → Prop} {l : List Env} (H : EnvOk ks d env) (fl : Heap.FlyingW S.hb l e (.ref c) a0 s.heap)
    (Pc : PCls S.K c) (PC : PCls S.K C) (hne : C ≠ 59) (hx : ks[iC]? = some (x, .globalImplicit)) (eC : nsIn S.K mainGlobals x = some (some (.ref C)))
    (yes : c = C → ∀ h', Heap.FlyingW S.hb l e (.ref c) a0 h' → s.heap.UpToSlots h' → wpAny (model PG S.w) (A.mark (some (.ref e))) (execs (b₀ :: suite) env) QQ (fun _ _ => False) { s with heap := h' })
    (no : c ≠ C → wpAny (model PG S.w) A (handleBy (.ref e) env rest) QQ E s) :
    wpAny (model PG S.w) A (handleBy (.ref e) env (.ExceptHandler (some (.Name x np)) none (b₀ :: suite) pos :: rest)) QQ E s := by
  cases PC with | mk hC =>
  cases Pc with | mk hc =>
  have keep : ∀ b o, S.K.lookup b = some o → s.heap.get? b = some o := fun b o q => fl.1 _ _ (S.G.K _ _ q)
  obtain ⟨oe, he, hcls⟩ := fl.there
  refine wpAny_handleBy_cons (codeAny_handlers_test (mainName H fl.1 hx eC ?_)) (by intro q; cases q)
  obtain ⟨h, g, dr, t, os⟩ := s
  refine pg_match (keep _ _ hC) (keep _ _ hc) he hcls hne ?_
  by_cases q : c = C
  · simp only [q, decide_true, if_true]
    refine codeAny_handlers_suite ?_
    refine lands_againW fl fun h₆ hfl₆ hsm₆ => ?_
    exact wpAny_mono (yes q h₆ hfl₆ hsm₆) (fun _ _ z => z) fun _ _ z => z.elim
  · simp only [q, decide_false, Bool.false_eq_true, if_false]
    exact no q
/-- the suites of the two handlers -/
theorem suite_none {s : Shared} {QQ : Flow → Shared → Prop} {k : Int} {iW t : Nat} {m : Str → Option Value} {p1 p2 p3 p4 p5 p6 : Pos} {els : Expr} {u1 u2 : Nat} (H : EnvOk ks d env) (hn : s.heap.Ns d.L m) (hi : ks[iW]? = some (("way" : Str), .local)) (hm : m "way" = some (.int k t))
    (h : ∀ tk', QQ (.ret .none) { s with toks := tk' }) : wpAny (model PG S.w) A (execs [.Return (some (.IfExp (.Compare (.Name "way" p1) [.Eq] [.Constant (.int k) u1 p2] p3) (.Constant .none u2 p4) els p5)) p6] env) QQ E s := by
  refine wpAny_execs_cons (wpAny_Return_some (IfExp_ (wpAny_isTrue_Compare1 ?_ rfl)))
  refine wpAny_Name (wpAny_loadName_local (m := m) H.kind (H.kindOf hi) (H.loc ▸ hn) hm ?_) (H.dbg' hi)
  refine wpAny_Constant_int (P.eq_int (wpAny_truthy_bool ?_))
  rw [if_pos (by simp)]
  exact Constant_none (h _)
end
/-- a call that catches: it comes back as said, or what was mutable is lost -/
inductive SCM (S : Stat) (f : Addr) (args : List AV) (g : Gs) (Q : AV → Gs → Prop) (Lost : Prop) : Prop
  | mk : (∀ (A : Around) (s : Shared) (c : CM) (mu : List (Addr × Obj)) (vs : List Value) (lh : Addr) (outer : List Env), Rm A S.k → Hp S.hb c mu s.heap → GM S.w S.ad c g mu → VRL S.ad lh c vs args → RP S.hb outer A (mu.map (·.1)) s.heap →
    ∀ (QQ E : Value → Shared → Prop), (∀ v h' tk' c' mu' av g', Out s.heap c (mu.map (·.1)) mu' c' h' → GM S.w S.ad c' g' mu' → VR S.ad lh c' v av → Q av g' → QQ v { s with heap := h', toks := tk' }) →
      (Lost → ∀ h' tk', S.hb.StaysIn h' → KS (mu.map (·.1)) s.heap h' → QQ .none { s with heap := h', toks := tk' }) →
      wpAny (model PG S.w) A (call (.ref f) vs) QQ E s) → SCM S f args g Q Lost
theorem FrN.way {S : Stat} {ks : List (Str × NameKind)} {d : Dy} {fr : Fr'} {h : Heap} {k : Int} (x : FrN S ks d fr h) (hi : ks[0]? = some (("way" : Str), NameKind.local)) (hk : fr[0]? = some (some (.d (.int k)))) : ∃ m t, h.Ns d.L m ∧ m "way" = some (.int k t) := by
  cases x with | mk n F =>
  cases F 0 _ _ _ hi hk with | loc hm hv =>
  obtain ⟨t, rfl⟩ := (show Rd _ _ (.int k) from hv).int_inv
  exact ⟨_, t, n, hm⟩
/-- the contract of the one call that catches -/
theorem SCM.of {S : Stat} (j : Nat) {f : Addr} {q : Str} {i : Nat} {m : Option Nat} {sg : Sig} {as : List AV} {g : Gs} {Q : AV → Gs → Prop} {Lost : Prop} {tb : List Stmt} {p0 n1 n2 h1 h2 a1 a2 a3 a4 a5 a1' b1 b2 b3 b4 b5 b1' : Pos} {e1 e2 : Expr} {u1 u2 u3 u4 : Nat} {sl : RL} (ns : List Str) (pad iG iB : Nat) (hj : fnT[j]? = some (f, q, i, m)) (hs : sigAt i m = some sg) (hbind : Binds q sg ns.length ns)
    (hc : scOk sg.scope = true) (hns : sg.scope.names.take ns.length = ns.map fun n => (n, NameKind.local)) (hlen : ns.length = as.length)
    (hbody : sg.body = [.Try tb [.ExceptHandler (some (.Name "BadGroup" n1)) none [.Return (some (.IfExp (.Compare (.Name "way" a1) [.Eq] [.Constant (.int 5) u1 a2] a3) (.Constant .none u2 a4) e1 a5)) a1'] h1, .ExceptHandler (some (.Name "BadNumber" n2)) none [.Return (some (.IfExp (.Compare (.Name "way" b1) [.Eq] [.Constant (.int 6) u3 b2] b3) (.Constant .none u4 b4) e2 b5)) b1'] h2] [] [] p0])
    (hiG : sg.scope.names[iG]? = some (("BadGroup" : Str), NameKind.globalImplicit)) (hiB : sg.scope.names[iB]? = some (("BadNumber" : Str), NameKind.globalImplicit)) (eG : nsIn S.K mainGlobals "BadGroup" = some (some (.ref 120))) (eB : nsIn S.K mainGlobals "BadNumber" = some (some (.ref 84))) (hi0 : sg.scope.names[0]? = some (("way" : Str), NameKind.local)) (hb : SSLR S sg.scope.names tb sl)
    (hw : sl (as.map some ++ List.replicate pad none) ⟨g, none⟩ (fun _ _ => False) (finR Q) fun c fr _ => Lost ∧ (c = 120 ∧ fr[0]? = some (some (.d (.int 5))) ∨ c = 84 ∧ fr[0]? = some (some (.d (.int 6))))) (hd : (f == 436 || f == 56) = false := by rfl) : SCM (S.lv (S.k + 1)) f as g Q Lost := by
  refine ⟨fun A s c mu vs lh outer hA Hp GM VL P QQ E ret re => ?_⟩
  cases FnAt.of (S.fn j hj hs) with | @mk oc od osl nm dV kV doc pm an cdv ct ho hcd hdv =>
  obtain rfl := noDef_none hd hdv
  cases ScOk.of hc with | mk nd nm' co gen kd =>
  have hh : ∀ b o, S.hb.get? b = some o → s.heap.get? b = some o := fun b o e => Hp.sub _ _ (Hp.base _ _ e)
  refine wpAny_call (codeAny_call_def (binds := ns.zip vs) (Nat.lt_of_le_of_lt (Nat.le_add_right _ _) hA.depth) (hh _ _ (S.G.K _ _ ho)) rfl (S.G.nl.keeps hh) (codeRec_of (S.G.K.keeps hh) hcd) rfl (hbind nm kV doc pm an cdv ct s vs (VL.length.trans hlen.symm)) (fun x hx => (nm' x hx).2) (fun y hy => ?_) (fun h₁ hns₁ hk₁ => ?_) co gen kd)
  · obtain ⟨i, hi⟩ := List.getElem?_of_mem hy
    rw [List.getElem?_zip_eq_some] at hi
    have hil : i < ns.length := (List.getElem?_eq_some_iff.mp hi.1).1
    exact lookup_of_nodup (i := i) nd (by rw [← List.getElem?_take_of_lt hil, hns, List.getElem?_map, hi.1]; rfl)
  have X := Mine.Sx.enter Hp (Nat.le_refl _) hns₁ hk₁
  have R : Rl S sg.scope.names ⟨s.heap, c, mu.map (·.1), s.heap.objs.size, [], []⟩ Tm.nil (as.map some ++ List.replicate pad none) ⟨g, none⟩ h₁ :=
    ⟨c, _, mu, [], lh, (List.append_nil mu).symm ▸ X, GM, .none, entry_fr nd hns hlen VL, True.intro⟩
  have F : RF S.hb outer (A.deeper (callEnv (fnOf nm q sg.params sg.body sg.scope .none kV doc pm an cdv ct) s.heap.objs.size f)) (callEnv (fnOf nm q sg.params sg.body sg.scope .none kV doc pm an cdv ct) s.heap.objs.size f) ⟨s.heap, c, mu.map (·.1), s.heap.objs.size, [], []⟩ := ⟨congrArg (Option.map _) P.fr, rfl, P.stay, P.nomod, P.ff, P.ffm⟩
  have He : EnvOk sg.scope.names ⟨s.heap, c, mu.map (·.1), s.heap.objs.size, [], []⟩ (callEnv (fnOf nm q sg.params sg.body sg.scope .none kV doc pm an cdv ct) s.heap.objs.size f) := ⟨kd, rfl, rfl, rfl, rfl, rfl, nd, fun p hp => (nm' p hp).1⟩
  generalize callEnv (fnOf nm q sg.params sg.body sg.scope .none kV doc pm an cdv ct) s.heap.objs.size f = env at *
  show wpAny _ _ (execs sg.body env) _ _ _
  rw [hbody]
  refine wpAny_execs_cons (wpAny_Try_except (hb.ex (T := Tm.nil) He F (Rm.deeper hA) (fun _ _ _ t => t) R hw (fun fr' σ' h' tk' R' q => q.elim) (fun v a fr' σ' h' tk' R' q => ?_) fun e x fr' σ' h' tk' ex q => ?_))
  · cases R' with | mk c' m' mg' mh' lh' X' G' H' F' t =>
    obtain ⟨q1, q2⟩ := finR_inv q
    refine ret v h' tk' c' mg' a σ'.g (X'.out (List.sublist_append_left _ _)) G' ?_ q2
    have tv := t.1
    cases a with
    | held => exact absurd rfl q1
    | _ => exact tv
  · obtain ⟨lost, q⟩ := q
    refine ex_noted F ex fun a0 h4 hh4 kk4 fn4 => wpAny_landsW hh4 fun h5 fl5 u5 => ?_
    have kk5 := kk4.slots u5
    have fn5 := fn4.slots u5
    rcases q with ⟨rfl, h5'⟩ | ⟨rfl, h6'⟩
    · refine hand_one (C := 120) He fl5 S.G.L.pc120 S.G.L.pc120 (by decide) hiG eG (fun _ h6 f6 u6 => ?_) fun ne => (ne rfl).elim
      obtain ⟨m6, t, n6, hm6⟩ := (fn5.slots u6).way hi0 h5'
      exact suite_none (s := { s with heap := h6, toks := tk' }) He n6 hi0 hm6 fun tk => re lost h6 tk f6.1 (kk5.slots u6)
    · refine hand_one (C := 120) He fl5 S.G.L.pc84 S.G.L.pc120 (by decide) hiG eG (fun q => by cases q) fun _ => hand_one (C := 84) He fl5 S.G.L.pc84 S.G.L.pc84 (by decide) hiB eB (fun _ h6 f6 u6 => ?_) fun ne => (ne rfl).elim
      obtain ⟨m6, t, n6, hm6⟩ := (fn5.slots u6).way hi0 h6'
      exact suite_none (s := { s with heap := h6, toks := tk' }) He n6 hi0 hm6 fun tk => re lost h6 tk f6.1 (kk5.slots u6)
end Mine
/-! ## NM -/
namespace Mine
open PySem PySem.W PySem.Calls PyProof.Rows
theorem forGo_inv {turn : PyData → Fr' → Sto → (Fr' → Sto → Prop) → Prop} {fin : Fr' → Sto → Prop} (I : Nat → Fr' → Sto → Prop) (l : List PyData) : ∀ (fr : Fr') (σ : Sto), I l.length fr σ →
    (∀ k d fr σ K, d ∈ l → I (k + 1) fr σ → (∀ fr σ, I k fr σ → K fr σ) → turn d fr σ K) → (∀ fr σ, I 0 fr σ → fin fr σ) → forGo turn fin l fr σ := by
  induction l with
  | nil => exact fun fr σ h st f => f fr σ h
  | cons d r ih => exact fun fr σ h st f => st r.length d fr σ _ (.head _) h fun fr σ h => ih fr σ h (fun k d fr σ K hd h hK => st k d fr σ K (.tail _ hd) h hK) f
theorem Sx.coldAt {hb s₀ h : Heap} {c₀ c : CM} {mod : List Addr} {L a : Addr} {m : Str → Option Value} {mu : List (Addr × Obj)} {o : Obj} (S : Sx hb s₀ c₀ mod c L m mu h) (ha : h.get? a = some o) (hc : c a = none) (hL : a ≠ L) (hs : s₀.get? a = none) (hm : ∀ p ∈ mu, p.1 ≠ a) :
    Sx hb s₀ c₀ mod (c.put a o) L m mu h := by
  refine ⟨S.ns, S.base, S.grow.trans (CM.le_put hc), ?_, ?_, S.kept, ?_, ?_, S.nd, S.sizeb, S.sizeL, S.alive⟩
  · intro b x e
    unfold CM.put at e
    by_cases q : b = a
    · rw [if_pos q] at e; cases e; rw [q]; exact ha
    · rw [if_neg q] at e; exact S.sub _ _ e
  · intro b x e
    unfold CM.put at e
    by_cases q : b = a
    · rw [q]; exact .inr hs
    · rw [if_neg q] at e; exact S.new _ _ e
  · unfold CM.put; rw [if_neg (Ne.symm hL)]; exact S.noL
  · intro p hp
    obtain ⟨r1, r2, r3, r4⟩ := S.own p hp
    refine ⟨r1, r2, ?_, r4⟩
    unfold CM.put
    rw [if_neg (hm p hp)]; exact r3
noncomputable abbrev rowN : List (Str × NameKind) := [(".0", .local), ("mark", .local), ("_law_take", .globalImplicit), ("ord", .globalImplicit), ("pool", .free)]
noncomputable abbrev rowN' : List (Str × NameKind) := [(".0", .local), ("mark", .local), ("_law_take", .globalImplicit), ("ord", .globalImplicit), ("pool", .cell)]
theorem CO_row {S : Stat} {ks : List (Str × NameKind)} {scope : Scope} (hN : scope.names = rowN) (hk : scope.kind = .function) (h0 : ks[0]? = some (("pool" : Str), NameKind.cell)) : CompOk S ks rowN' [none, none, none, none, some 0] scope where
  cell := by rw [hN]; decide +kernel
  kind := hk
  loc := by rw [hN]; decide +kernel
  nd := by decide +kernel
  dbg := by decide +kernel
  rel := fun env d H => by
    unfold relabel
    have e1 : env.kindOf "pool" = some .cell := H.kindOf h0
    show scope.names.map _ = _
    rw [hN]
    simp [H.kind, e1]
  clos := fun env d fr c lh m H F hcap => by
    have hc4 : (nth fr 0).isSome = true := List.all_eq_true.mp hcap (some 0) (by simp)
    obtain ⟨av, hav⟩ := Option.isSome_iff_exists.mp hc4
    cases F 0 _ _ _ h0 (nth_eq hav) with | @cel v ca o hl hc ho hv =>
    refine ⟨[("pool", ca)], ?_, fun c' le m' i x k a hi ha => ?_⟩
    · unfold closureFor
      rw [hN]
      have e2 : cellOf env "pool" = pure ca := by unfold cellOf; rw [H.cells, hl]
      simp only [List.forIn_cons, List.forIn_nil, bind_assoc]
      rw [e2]
      rfl
    · have : i = 4 := by
        rcases i with _ | _ | _ | _ | _ | i <;> first | rfl | exact nomatch ha
      subst this
      cases hi
      have ha : some (nth fr 0) = some (some a) := ha
      rw [hav] at ha
      cases ha
      exact .cel rfl (le _ _ hc) ho (hv.mono le)
noncomputable def scOkC (sc : Scope) : Bool := decide (sc.names.map (·.1)).Nodup && (sc.names.all (fun p => !(p.1 == ("__debug__" : Str))) && (!sc.isCoroutine && (!sc.isGenerator && sc.kind == .function)))
/-- a contract of a function whose one parameter lies in a cell -/
theorem SC.ofCell {S : Stat} (j : Nat) {f : Addr} {q : Str} {i : Nat} {m : Option Nat} {sg : Sig} {a0 : AV} {g : Gs} {Q : AV → Gs → Prop} {sl : SL} (x : Str) (pad : Nat) (hj : fnT[j]? = some (f, q, i, m)) (hs : sigAt i m = some sg)
    (hbind : ∀ nm kV doc pm an cdv ct v, bindArgs (fnOf nm q sg.params sg.body sg.scope .none kV doc pm an cdv ct) ⟨[v], []⟩ = pure [(x, v)]) (hcells : ∀ n, cellsFrom n sg.scope.names [] = [(x, n)]) (hc : scOkC sg.scope = true) (h0 : sg.scope.names[0]? = some (x, .cell))
    (hb : SSL S sg.scope.names sg.body sl) (hw : sl (some a0 :: List.replicate pad none) ⟨g, none⟩ (finN Q) (finR Q)) (hd : (f == 436 || f == 56) = false := by rfl) : SC (S.lv (S.k + 1)) f [a0] g Q := by
  refine ⟨fun A s c mu vs lh hA Hp GM VL QQ E ret => ?_⟩
  cases FnAt.of (S.fn j hj hs) with | @mk oc od osl nm dV kV doc pm an cdv ct ho hcd hdv =>
  obtain rfl := noDef_none hd hdv
  have c1 := and2 hc
  have nd := of_decide_eq_true c1.1
  have c2 := and2 c1.2
  have c3 := and2 c2.2
  have c4 := and2 c3.2
  have hh : ∀ b o, S.hb.get? b = some o → s.heap.get? b = some o := fun b o e => Hp.sub _ _ (Hp.base _ _ e)
  have hlk : sg.scope.names.lookup x = some .cell := lookup_of_nodup nd h0
  cases VL with
  | @cons v vs a as hv0 hr =>
  cases hr
  refine wpAny_call (codeAny_call_cells (vals := [v]) (binds := [(x, v)]) (Nat.lt_of_le_of_lt (Nat.le_add_right _ _) hA.depth) (hh _ _ (S.G.K _ _ ho)) rfl (S.G.nl.keeps hh) (codeRec_of (S.G.K.keeps hh) hcd) rfl (hbind nm kV doc pm an cdv ct v) rfl ?_ (fun s₁ X => ?_) (by simpa using c3.1) (by simpa using c4.1) (beq_true c4.2))
  · intro y hy
    obtain rfl := List.mem_singleton.mp hy
    refine .inr ⟨hlk, ?_⟩
    show ((cellsFrom _ sg.scope.names []).lookup x).isSome = true
    rw [hcells, List.lookup, beq_self_eq_true]; rfl
  obtain ⟨⟨h₁, tk₁, rfl⟩, hns, hk₁, hfresh⟩ := X.toInCall
  clear hfresh
  obtain ⟨m0, hns⟩ : ∃ m0, h₁.Ns s.heap.objs.size m0 := ⟨_, hns⟩
  have hcl : cellsFrom (s.heap.objs.size + 1) sg.scope.names [] = [(x, s.heap.objs.size + 1)] := hcells _
  have hkn : (callEnvC (fnOf nm q sg.params sg.body sg.scope .none kV doc pm an cdv ct) s.heap.objs.size f).kindOf x = some .cell := hlk
  have hcell := X.cell x (s.heap.objs.size + 1) (by show (cellsFrom (s.heap.objs.size + 1) sg.scope.names []).lookup x = _; rw [hcl, List.lookup, beq_self_eq_true])
  have hcm : bindC (callEnvC (fnOf nm q sg.params sg.body sg.scope .none kV doc pm an cdv ct) s.heap.objs.size f).kindOf [(x, v)] (fun _ => none) x = some v := by
    simp [bindC, hkn]
  rw [hcm] at hcell
  obtain ⟨o, hoc, hod⟩ := hcell
  have SI := Mine.Sx.enter Hp (Nat.le_refl _) hns hk₁
  have hcn : c (s.heap.objs.size + 1) = none := by
    cases e : c (s.heap.objs.size + 1) with
    | none => rfl
    | some o => exact absurd (Heap.lt_size (Hp.sub _ _ e)) (Nat.not_lt.mpr (Nat.le_succ _))
  have hsn : s.heap.get? (s.heap.objs.size + 1) = none := get_none_of_size (Nat.le_succ _)
  have SI2 := SI.coldAt hoc hcn (Nat.succ_ne_self _) hsn (fun p hp q => by have := (Hp.own p hp).1; rw [q, hsn] at this; cases this)
  have le : c.le (c.put (s.heap.objs.size + 1) o) := CM.le_put hcn
  have R : Rl S sg.scope.names ⟨s.heap, c, mu.map (·.1), s.heap.objs.size, [(x, s.heap.objs.size + 1)], []⟩ Tm.nil (some a0 :: List.replicate pad none) ⟨g, none⟩ h₁ := by
    refine ⟨c.put (s.heap.objs.size + 1) o, m0, mu, [], lh, (List.append_nil mu).symm ▸ SI2, GM.mono le, .none, ?_, True.intro⟩
    intro i y k av hi hav
    cases i with
    | succ i => rw [List.getElem?_cons_succ, List.getElem?_replicate] at hav; split at hav <;> cases hav
    | zero =>
      rw [h0] at hi
      cases hi
      cases hav
      exact .cel (by show List.lookup x [(x, _)] = _; rw [List.lookup, beq_self_eq_true]) CM.put_at hod (hv0.mono le)
  have He : EnvOk sg.scope.names ⟨s.heap, c, mu.map (·.1), s.heap.objs.size, [(x, s.heap.objs.size + 1)], []⟩ (callEnvC (fnOf nm q sg.params sg.body sg.scope .none kV doc pm an cdv ct) s.heap.objs.size f) := ⟨beq_true c4.2, rfl, rfl, rfl, rfl, hcl, nd, fun p hp => by simpa using List.all_eq_true.mp c2.1 p hp⟩
  refine hb.ex (s := { s with heap := h₁, toks := tk₁ }) (T := Tm.nil) He (Rm.deeper hA) (fun _ _ _ t => t) R hw (fun fr' σ' h' tk' R' q => ?_) (fun v a fr' σ' h' tk' R' q => ?_)
  · cases R' with | mk c' m' mg' mh' lh' X' G' H' F' t =>
    exact ret .none h' tk' c' mg' (.d .none) σ'.g (X'.out (List.sublist_append_left _ _)) G' Rd.none q
  · cases R' with | mk c' m' mg' mh' lh' X' G' H' F' t =>
    obtain ⟨q1, q2⟩ := finR_inv q
    refine ret v h' tk' c' mg' a σ'.g (X'.out (List.sublist_append_left _ _)) G' ?_ q2
    have tv := t.1
    cases a with
    | held => exact absurd rfl q1
    | _ => exact tv
end Mine
/-! ## T1 -/
namespace Mine
open PySem PySem.W PySem.Calls PyProof.Rows
theorem eqv_int (a b : Int) : PyData.eqv (.int a) (.int b) = decide (a = b) := by
  by_cases h : a = b <;> simp [PyData.eqv, h]
theorem eqv_tk (a b : Tk) : PyData.eqv (tkd a) (tkd b) = decide (a = b) := by
  obtain ⟨a1, a2⟩ := a
  obtain ⟨b1, b2⟩ := b
  by_cases h1 : a1 = b1 <;> by_cases h2 : a2 = b2 <;> simp [tkd, PyData.eqv, PyData.eqvAll, h1, h2]
noncomputable def otk : Option Tk → PyData
  | none => .none
  | some t => tkd t
noncomputable def fnd (x : Option Tk × Int × Int) : PyData := .tuple [otk x.1, .int x.2.1, .int x.2.2]
noncomputable def TokOk (t : Tk) : Prop := (t.1 = 0 ∨ t.1 = 1 ∨ t.1 = 2 ∨ t.1 = 8 ∨ t.1 = 10 ∨ t.1 = 11 ∨ t.1 = 12 ∨ t.1 = 13) ∧ 0 ≤ t.2 ∧ t.2 ≤ 255
noncomputable def brc (t : Tk) : Int := if t.1 = 1 then 1 else if t.1 = 2 then -1 else 0
noncomputable def rd1 : List Tk → Option Tk × Int × Int
  | [] => (none, 99, 0)
  | t :: _ => if t.1 = 0 ∧ (t.2 = 0 ∨ t.2 = 1) then (some t, 77, t.2) else if t.1 = 0 ∨ t.1 = 13 then (some t, 0, 256) else (some t, t.1, t.2)
noncomputable def brc1 : List Tk → Int
  | [] => 0
  | t :: _ => brc t
section
variable (S : Stat) (g : Gs) (n : Nat)
theorem c_is_whole (a b c : Int) : SC (S.lv (n + 1)) 133 [.d (.int a), .d (.int b), .d (.int c)] g (fun v g' => v = .d (.bool (decide (b ≤ a) && decide (a ≤ c))) ∧ g' = g) := by
  refine SC.of (S := S.lv (n)) 0 ["value", "low", "high"] 0 rfl rfl (fun _ _ _ _ _ _ _ _ => fa3 fun a b c => BindsTo.of_eq rfl) (by decide +kernel) rfl rfl (.cons (SS.ret (SE.and (SE.isi 3 4 rfl rfl (SE.loc 0 rfl)) (SE.and (SE.not (SE.isb 3 5 rfl rfl (SE.loc 0 rfl))) (SE.one (SE.cmp2 (SE.loc 1 rfl) (SE.loc 0 rfl) (SE.loc 2 rfl))))))
 .nil) ?_
  conv => whnf
  refine br_of (fun h => ?_) (fun h => ?_)
  · conv => whnf
    exact ⟨by rw [h]; rfl, rfl⟩
  · conv => whnf
    exact ⟨by rw [h]; rfl, rfl⟩
theorem tok_least {a : Int} {K : PyData → Prop} (h : a = 0 ∨ a = 1 ∨ a = 2 ∨ a = 8 ∨ a = 10 ∨ a = 11 ∨ a = 12 ∨ a = 13) (k : ∀ l, 0 ≤ l → l ≤ 0 → K (.int l)) : ixL ([0, 0, 0, 0, 0, 1, 0, 0, 0, 1, 0, 0, 0, 0, 0, 0].map .int) a K := by
  rcases h with rfl | rfl | rfl | rfl | rfl | rfl | rfl | rfl <;> exact k 0 (by decide) (by decide)
theorem tok_great {a : Int} {K : PyData → Prop} (h : a = 0 ∨ a = 1 ∨ a = 2 ∨ a = 8 ∨ a = 10 ∨ a = 11 ∨ a = 12 ∨ a = 13) (k : ∀ l, 255 ≤ l → K (.int l)) : ixL ([1048575, 255, 255, 255, 255, 9, 255, 255, 255, 9, 255, 255, 255, 255, 255, 0].map .int) a K := by
  rcases h with rfl | rfl | rfl | rfl | rfl | rfl | rfl | rfl <;> exact k _ (by decide)
theorem c_is_token (t : Tk) (ht : TokOk t) : SC (S.lv (n + 2)) 282 [.d (tkd t)] g (fun v g' => v = .d (.bool true) ∧ g' = g) := by
  refine SC.of (S := S.lv (n+1)) 1 ["token"] 0 rfl rfl (fun _ _ _ _ _ _ _ _ => fa1 fun a => BindsTo.of_eq rfl) (by decide +kernel) rfl rfl (.cons (SS.ifs (SE.or (SE.not (SE.ist 1 2 rfl rfl (SE.loc 0 rfl))) (SE.or (SE.cmp (SE.bi 3 0 rfl rfl (.cons (SE.loc 0 rfl) .nil)) SE.int) (SE.one (SE.not (SE.call 4 0 rfl rfl (.cons (SE.ix (SE.loc 0 rfl) SE.int) (.cons SE.int (.cons SE.int .nil)))))))) (.cons (SS.ret SE.bool)
 .nil) .nil)
 (.cons (SS.ret (SE.call 4 0 rfl rfl (.cons (SE.ix (SE.loc 0 rfl) SE.int) (.cons (SE.ix (SE.glob 5 26 rfl rfl) (SE.ix (SE.loc 0 rfl) SE.int)) (.cons (SE.ix (SE.glob 6 27 rfl rfl) (SE.ix (SE.loc 0 rfl) SE.int)) .nil)))))
 .nil)) ?_
  obtain ⟨a, b⟩ := t
  obtain ⟨ha, hb0, hb1⟩ := ht
  refine ifs_f (σ' := ⟨g, none⟩) (fun K h => (c_is_whole S g n a 0 15).to ?_) ?_
  · have h0 : (decide (0 ≤ a) && decide (a ≤ 15)) = true := by rcases ha with rfl | rfl | rfl | rfl | rfl | rfl | rfl | rfl <;> rfl
    show isB (.d (.bool _)) _
    rw [h0]
    exact h
  refine tok_least ha fun l h1 h2 => tok_great ha fun k h3 => (c_is_whole S g n b l k).to ⟨?_, rfl⟩
  simp only at hb0 hb1
  rw [decide_eq_true (show l ≤ b by omega), decide_eq_true (show b ≤ k by omega)]
  rfl
theorem fnd_eq {r : List Tk} {x : Option Tk × Int × Int} (h : rd1 r = x) : AV.d (fnd x) = .d (fnd (rd1 r)) := by rw [h]
theorem c_read (r : List Tk) (b : Int) (hl : r.length ≤ 100000) : SC (S.lv (n + 1)) 443 [.src] { g with src := some (r, b) } (fun v g' => v = .d (fnd (rd1 r)) ∧ g' = { g with src := some (r.tail, b + brc1 r) }) := by
  refine SC.of (S := S.lv (n)) 34 ["self"] 3 rfl rfl (fun _ _ _ _ _ _ _ _ => fa1 fun a => BindsTo.of_eq rfl) (by decide +kernel) rfl rfl (.cons (SS.ifs (SE.restNil (SE.loc 0 rfl) (fun _ => rfl)) (.cons (SS.ret (SE.tup (.cons SE.nul (.cons (SE.glob 4 5 rfl rfl) (.cons SE.int .nil)))))
 .nil) .nil)
 (.cons (SS.popTok 1 rfl (SE.loc 0 rfl) (fun _ => rfl) (fun _ => rfl))
 (.cons (SS.asgP (NmE.cons (i := 2) rfl (NmE.cons (i := 3) rfl .nil)) (SE.loc 1 rfl))
 (.cons (SS.ifs (SE.cmp (SE.loc 2 rfl) (SE.glob 5 9 rfl rfl)) (.cons (SS.setBal (SE.loc 0 rfl) (SE.bin (SE.bal (SE.loc 0 rfl) (fun _ => rfl)) SE.int))
 .nil) (.cons (SS.ifs (SE.cmp (SE.loc 2 rfl) (SE.glob 6 10 rfl rfl)) (.cons (SS.setBal (SE.loc 0 rfl) (SE.bin (SE.bal (SE.loc 0 rfl) (fun _ => rfl)) SE.int))
 .nil) .nil)
 .nil))
 (.cons (SS.ifs (SE.and (SE.cmp (SE.loc 2 rfl) (SE.glob 7 11 rfl rfl)) (SE.one (SE.inInner (SE.loc 3 rfl) (SE.loc 0 rfl) (fun _ => rfl)))) (.cons (SS.ret (SE.tup (.cons (SE.loc 1 rfl) (.cons (SE.glob 8 3 rfl rfl) (.cons (SE.loc 3 rfl) .nil)))))
 .nil) .nil)
 (.cons (SS.ifs (SE.or (SE.cmp (SE.loc 2 rfl) (SE.glob 7 11 rfl rfl)) (SE.one (SE.cmp (SE.loc 2 rfl) (SE.glob 9 12 rfl rfl)))) (.cons (SS.ret (SE.tup (.cons (SE.loc 1 rfl) (.cons (SE.glob 10 0 rfl rfl) (.cons (SE.glob 11 4 rfl rfl) .nil)))))
 .nil) .nil)
 (.cons (SS.ret (SE.tup (.cons (SE.loc 1 rfl) (.cons (SE.loc 2 rfl) (.cons (SE.loc 3 rfl) .nil)))))
 .nil))))))) ?_
  cases r with
  | nil => exact ifs_t (fun K h => h) ⟨rfl, by rw [show b + brc1 [] = b from Int.add_zero b]; rfl⟩
  | cons t r =>
    obtain ⟨a, b'⟩ := t
    refine ifs_f (fun K h => h) ⟨Nat.le_of_succ_le hl, ?_⟩
    refine ifs_cut (fun fr σ => fr = [some .src, some (.d (tkd (a, b'))), some (.d (.int a)), some (.d (.int b'))] ∧ σ = ⟨⟨g.pool, some (r, b + brc (a, b'))⟩, none⟩) (fun N' h => ?_) ?_
    · refine ifs_d (fun K h => h) (fun h1 => ?_) fun h1 => ifs_d (fun K h => h) (fun h2 => ?_) fun h2 => ?_
      · exact h _ _ ⟨rfl, by rw [show brc (a, b') = 1 from if_pos h1]⟩
      · exact h _ _ ⟨rfl, by rw [show brc (a, b') = -1 from (if_neg h1).trans (if_pos h2)]; rfl⟩
      · exact h _ _ ⟨rfl, by rw [show brc (a, b') = 0 from (if_neg h1).trans (if_neg h2), Int.add_zero]⟩
    · rintro _ _ ⟨rfl, rfl⟩
      refine ifs_v _ (val_and (fun K h => h) fun _ K h => h) (fun h1 => ⟨fnd_eq (x := (some (a, b'), 77, b')) (if_pos (by simpa using h1)), rfl⟩) fun h1 => ifs_v _ (val_or (fun K h => h) fun _ K h => h) (fun h2 => ⟨fnd_eq (x := (some (a, b'), 0, 256)) ((if_neg (by simpa using h1)).trans (if_pos (by simpa using h2))), rfl⟩)
        fun h2 => ⟨fnd_eq (x := (some (a, b'), a, b')) ((if_neg (by simpa using h1)).trans (if_neg (by simpa using h2))), rfl⟩
theorem c_read_expanded (r : List Tk) (b : Int) (hl : r.length ≤ 100000) : SC (S.lv (n + 2)) 450 [.src] { g with src := some (r, b) } (fun v g' => v = .d (fnd (rd1 r)) ∧ g' = { g with src := some (r.tail, b + brc1 r) }) := by
  refine SC.of (S := S.lv (n+1)) 35 ["self"] 0 rfl rfl (fun _ _ _ _ _ _ _ _ => fa1 fun a => BindsTo.of_eq rfl) (by decide +kernel) rfl rfl (.cons (SS.ret (SE.meth 0 rfl (SE.loc 0 rfl) .nil (fun _ => rfl)))
 .nil) ?_
  exact (c_read S g n r b hl).to ⟨rfl, rfl⟩
theorem c_left (r : List Tk) (b : Int) (hl : r.length ≤ 100000) : SC (S.lv (n + 1)) 464 [.src] { g with src := some (r, b) } (fun v g' => v = .d (.list (r.map tkd)) ∧ g' = { g with src := some (r, b) }) := by
  refine SC.of (S := S.lv (n)) 37 ["self"] 0 rfl rfl (fun _ _ _ _ _ _ _ _ => fa1 fun a => BindsTo.of_eq rfl) (by decide +kernel) rfl rfl (.cons (SS.ret (SE.restRev (SE.loc 0 rfl) (fun _ => rfl)))
 .nil) ?_
  exact ⟨hl, rfl, rfl⟩
noncomputable def innerD (i : Int) : PyData := if i = 0 then .tuple [.int 0, .int 7] else if i = 1 then .tuple [.int 1, .int 300] else .none
theorem c_quantity (r : List Tk) (b c i : Int) : SC (S.lv (n + 1)) 471 [.src, .d (.int c), .d (.int i)] { g with src := some (r, b) } (fun v g' => v = .d (if c = 77 then innerD i else .none) ∧ g' = { g with src := some (r, b) }) := by
  refine SC.of (S := S.lv (n)) 38 ["self", "command", "value"] 0 rfl rfl (fun _ _ _ _ _ _ _ _ => fa3 fun a b c => BindsTo.of_eq rfl) (by decide +kernel) rfl rfl (.cons (SS.ifs (SE.cmp (SE.loc 1 rfl) (SE.glob 3 3 rfl rfl)) (.cons (SS.ret SE.nul)
 .nil) .nil)
 (.cons (SS.ret (SE.innerGet (SE.loc 0 rfl) (SE.loc 2 rfl) (fun _ => rfl) (fun _ => rfl)))
 .nil)) ?_
  refine ifs_v _ (fun K h => h) (fun h => ⟨by rw [if_neg (by simpa using h)], rfl⟩) fun h => ?_
  rw [if_pos (by simpa using h : c = 77)]
  refine brd (fun h1 => ⟨by rw [innerD, if_pos h1]; rfl, rfl⟩) fun h1 => brd (fun h2 => ⟨by rw [innerD, if_neg h1, if_pos h2]; rfl, rfl⟩) fun h2 => ⟨by rw [innerD, if_neg h1, if_neg h2], rfl⟩
theorem tok_out {a : Int} (h : a = 0 ∨ a = 1 ∨ a = 2 ∨ a = 8 ∨ a = 10 ∨ a = 11 ∨ a = 12 ∨ a = 13) : ([5, 9, 14, 15] : List Int).any (fun i => PyData.eqv (.int i) (.int a)) = false := by
  rcases h with rfl | rfl | rfl | rfl | rfl | rfl | rfl | rfl <;> rfl
theorem c_back (t : Tk) (ht : TokOk t) (r : List Tk) (b : Int) (hl : r.length < 100000) : SC (S.lv (n + 3)) 457 [.src, .d (tkd t)] { g with src := some (r, b) } (fun v g' => v = .d .none ∧ g' = { g with src := some (t :: r, b - brc t) }) := by
  refine SC.of (S := S.lv (n+2)) 36 ["self", "token"] 0 rfl rfl (fun _ _ _ _ _ _ _ _ => fa2 fun a b => BindsTo.of_eq rfl) (by decide +kernel) rfl rfl (.cons (SS.ifs (SE.or (SE.not (SE.call 2 1 rfl rfl (.cons (SE.loc 1 rfl) .nil))) (SE.one (SE.cmp (SE.ix (SE.loc 1 rfl) SE.int) (SE.tup (.cons (SE.glob 3 13 rfl rfl) (.cons (SE.glob 4 14 rfl rfl) (.cons (SE.glob 5 15 rfl rfl) (.cons (SE.glob 6 16 rfl rfl) .nil)))))))) (.cons SS.stuck
 .nil) .nil)
 (.cons (SS.ifs (SE.cmp (SE.ix (SE.loc 1 rfl) SE.int) (SE.glob 8 9 rfl rfl)) (.cons (SS.setBal (SE.loc 0 rfl) (SE.bin (SE.bal (SE.loc 0 rfl) (fun _ => rfl)) SE.int))
 .nil) (.cons (SS.ifs (SE.cmp (SE.ix (SE.loc 1 rfl) SE.int) (SE.glob 9 10 rfl rfl)) (.cons (SS.setBal (SE.loc 0 rfl) (SE.bin (SE.bal (SE.loc 0 rfl) (fun _ => rfl)) SE.int))
 .nil) .nil)
 .nil))
 (.cons (SS.appRest (SE.loc 0 rfl) (SE.loc 1 rfl) (fun _ => rfl) (fun _ => rfl))
 .nil))) ?_
  obtain ⟨a, b'⟩ := t
  refine ifs_v _ (val_or (u := false) (σ' := ⟨⟨g.pool, some (r, b)⟩, none⟩) (fun K h => (c_is_token S _ n _ ht).to h) fun _ K h => ⟨⟨rfl, rfl⟩, h⟩) (fun h => nomatch (tok_out ht.1).symm.trans h) fun _ => ?_
  refine ifs_cut (fun fr σ => fr = [some .src, some (.d (tkd (a, b')))] ∧ σ = ⟨⟨g.pool, some (r, b - brc (a, b'))⟩, none⟩) (fun N' h => ?_) ?_
  · refine ifs_d (fun K h => h) (fun h1 => ?_) fun h1 => ifs_d (fun K h => h) (fun h2 => ?_) fun h2 => ?_
    · exact h _ _ ⟨rfl, by rw [show brc (a, b') = 1 from if_pos h1]⟩
    · exact h _ _ ⟨rfl, by rw [show brc (a, b') = -1 from (if_neg h1).trans (if_pos h2)]; rfl⟩
    · exact h _ _ ⟨rfl, by rw [show brc (a, b') = 0 from (if_neg h1).trans (if_neg h2), Int.sub_zero]⟩
  · rintro _ _ ⟨rfl, rfl⟩
    exact ⟨_, rfl, Nat.le_of_lt hl, rfl, rfl⟩
end
end Mine
/-! ## T2 -/
namespace Mine
open PySem PySem.W PySem.Calls PyProof.Rows
noncomputable def isRelax (t : Tk) : Bool := (decide (t.1 = 0) && !(decide (t.2 = 0) || decide (t.2 = 1))) || decide (t.1 = 13)
noncomputable def skips (f : Bool) (t : Tk) : Bool := decide (t.1 = 10) || (f && isRelax t)
noncomputable def past (f : Bool) : List Tk → List Tk
  | [] => []
  | t :: r => if skips f t = true then past f r else t :: r
theorem past_len (f : Bool) : ∀ r : List Tk, (past f r).length ≤ r.length
  | [] => Nat.le_refl _
  | t :: r => by
    unfold past
    by_cases h : skips f t = true
    · rw [if_pos h]; exact Nat.le_succ_of_le (past_len f r)
    · rw [if_neg h]; exact Nat.le_refl _
theorem rd_cases (t : Tk) (r : List Tk) : ∃ c v, rd1 (t :: r) = (some t, c, v) ∧ decide (c = 10) = decide (t.1 = 10) ∧ decide (c = 0) = isRelax t := by
  obtain ⟨a, b⟩ := t
  unfold isRelax
  show ∃ c v, (if a = 0 ∧ (b = 0 ∨ b = 1) then _ else if a = 0 ∨ a = 13 then _ else _) = _ ∧ _
  by_cases h1 : a = 0 ∧ (b = 0 ∨ b = 1)
  · rw [if_pos h1]
    refine ⟨77, b, rfl, ?_⟩
    rw [h1.1]
    rcases h1.2 with rfl | rfl <;> exact ⟨rfl, rfl⟩
  · rw [if_neg h1]
    by_cases h2 : a = 0 ∨ a = 13
    · rw [if_pos h2]
      refine ⟨0, 256, rfl, ?_⟩
      rcases h2 with rfl | rfl
      · have h3 : ¬ (b = 0 ∨ b = 1) := fun q => h1 ⟨rfl, q⟩
        exact ⟨rfl, by simp [not_or.mp h3]⟩
      · exact ⟨rfl, rfl⟩
    · rw [if_neg h2]
      have h3 := not_or.mp h2
      exact ⟨a, b, rfl, rfl, by simp [h3]⟩
theorem skips_brc {f : Bool} {t : Tk} (h : skips f t = true) : brc t = 0 := by
  have h : t.1 = 10 ∨ t.1 = 0 ∨ t.1 = 13 := by
    simp [skips, isRelax] at h
    rcases h with h | ⟨_, h | h⟩
    · exact .inl h
    · exact .inr (.inl h.1)
    · exact .inr (.inr h)
  unfold brc
  rcases h with h | h | h <;> rw [h] <;> rfl
section
variable (S : Stat) (g : Gs) (n : Nat)
noncomputable def afterP (g : Gs) (r : List Tk) (b : Int) : Gs := { g with src := some (r.tail, b + brc1 r) }
/-- the loop's state, with r' still ahead -/
inductive Ahead (f : Bool) (g : Gs) (r : List Tk) (b : Int) (k : Nat) (fr : Fr') (σ : Sto) : Prop
  | mk (r') : k = r'.length → r'.length ≤ 100000 → past f r' = past f r → fr = [some .src, some (.d (fnd (rd1 r')))] → σ = ⟨afterP g r' b, none⟩ → Ahead f g r b k fr σ
theorem ahead_next {f : Bool} {g : Gs} {r r'' : List Tk} {b : Int} {t : Tk} (hs : skips f t = true) (hl : (t :: r'').length ≤ 100000) (hp : past f (t :: r'') = past f r) :
    ∃ m, m < (t :: r'').length ∧ Ahead f g r b m [some .src, some (.d (fnd (rd1 r'')))] ⟨afterP g r'' (b + brc t), none⟩ :=
  ⟨r''.length, Nat.lt_succ_self _, r'', rfl, Nat.le_of_succ_le hl, hp ▸ (if_pos hs).symm, rfl, by rw [skips_brc hs, Int.add_zero]⟩
theorem past_here {f : Bool} {r r' : List Tk} {x : Option Tk × Int × Int} (hx : rd1 r' = x) (hp : past f r' = past f r) (h : ∀ t r'', r' = t :: r'' → skips f t = false) : past f r = r' := by
  rw [← hp]
  cases r' with
  | nil => rfl
  | cons t r'' => exact if_neg (Bool.eq_false_iff.mp (h t r'' rfl))
theorem c_skip_blanks (r : List Tk) (b : Int) (hl : r.length ≤ 100000) : SC (S.lv (n + 3)) 316 [.src] { g with src := some (r, b) } (fun v g' => v = .d (fnd (rd1 (past false r))) ∧ g' = afterP g (past false r) b) := by
  refine SC.of (S := S.lv (n+2)) 3 ["source"] 1 rfl rfl (fun _ _ _ _ _ _ _ _ => fa1 fun a => BindsTo.of_eq rfl) (by decide +kernel) rfl rfl (.cons (SS.asg 1 rfl (SE.meth 1 rfl (SE.loc 0 rfl) .nil (fun _ => rfl)))
 (.cons (SS.whl (SE.cmp (SE.ix (SE.loc 1 rfl) SE.int) (SE.glob 2 2 rfl rfl)) (.cons (SS.asg 1 rfl (SE.meth 1 rfl (SE.loc 0 rfl) .nil (fun _ => rfl)))
 .nil))
 (.cons (SS.ret (SE.loc 1 rfl))
 .nil))) ?_
  refine (c_read_expanded S g n r b hl).to ?_
  refine whl_go (Ahead false g r b) r.length ⟨r, rfl, hl, rfl, rfl, rfl⟩ ?_
  rintro _ _ _ ⟨r', rfl, hl', hp, rfl, rfl⟩
  refine brd (fun h1 => ?_) fun h1 => ?_
  · cases r' with
    | nil => exact nomatch h1
    | cons t r'' =>
      obtain ⟨c, v, e, e1, e2⟩ := rd_cases t r''
      rw [e] at h1
      exact (c_read_expanded S g n r'' (b + brc t) (Nat.le_of_succ_le hl')).to (ahead_next (by rw [skips, ← e1, decide_eq_true h1]; rfl) hl' hp)
  · have he : past false r = r' := past_here rfl hp fun t r'' q => by
      subst q
      obtain ⟨c, v, e, e1, e2⟩ := rd_cases t r''
      rw [e] at h1
      rw [skips, ← e1, decide_eq_false h1]; rfl
    exact ⟨by rw [he], by rw [he]⟩
theorem c_skip_filler (r : List Tk) (b : Int) (hl : r.length ≤ 100000) : SC (S.lv (n + 3)) 323 [.src] { g with src := some (r, b) } (fun v g' => v = .d (fnd (rd1 (past true r))) ∧ g' = afterP g (past true r) b) := by
  refine SC.of (S := S.lv (n+2)) 4 ["source"] 1 rfl rfl (fun _ _ _ _ _ _ _ _ => fa1 fun a => BindsTo.of_eq rfl) (by decide +kernel) rfl rfl (.cons (SS.asg 1 rfl (SE.meth 1 rfl (SE.loc 0 rfl) .nil (fun _ => rfl)))
 (.cons (SS.whl (SE.or (SE.cmp (SE.ix (SE.loc 1 rfl) SE.int) (SE.glob 2 2 rfl rfl)) (SE.one (SE.cmp (SE.ix (SE.loc 1 rfl) SE.int) (SE.glob 3 0 rfl rfl)))) (.cons (SS.asg 1 rfl (SE.meth 1 rfl (SE.loc 0 rfl) .nil (fun _ => rfl)))
 .nil))
 (.cons (SS.ret (SE.loc 1 rfl))
 .nil))) ?_
  refine (c_read_expanded S g n r b hl).to ?_
  refine whl_go (Ahead true g r b) r.length ⟨r, rfl, hl, rfl, rfl, rfl⟩ ?_
  rintro _ _ _ ⟨r', rfl, hl', hp, rfl, rfl⟩
  refine val_or (fun K h => h) (fun _ K h => h) _ (br_of (fun h1 => ?_) fun h1 => ?_)
  · cases r' with
    | nil => exact nomatch h1
    | cons t r'' =>
      obtain ⟨c, v, e, e1, e2⟩ := rd_cases t r''
      rw [e] at h1
      exact (c_read_expanded S g n r'' (b + brc t) (Nat.le_of_succ_le hl')).to (ahead_next (by rw [skips, ← e1, ← e2]; exact h1) hl' hp)
  · have he : past true r = r' := past_here rfl hp fun t r'' q => by
      subst q
      obtain ⟨c, v, e, e1, e2⟩ := rd_cases t r''
      rw [e] at h1
      rw [skips, ← e1, ← e2]; exact h1
    exact ⟨by rw [he], by rw [he]⟩
noncomputable def unr (g : Gs) (r : List Tk) (b : Int) : Option Tk → Gs
  | none => { g with src := some (r, b) }
  | some t => { g with src := some (t :: r, b - brc t) }
theorem c_unread (x : Option Tk) (c v : Int) (r : List Tk) (b : Int) (hl : r.length < 100000) (hx : ∀ t, x = some t → TokOk t) : SC (S.lv (n + 4)) 309 [.src, .d (fnd (x, c, v))] { g with src := some (r, b) }
    (fun v g' => v = .d .none ∧ g' = unr g r b x) := by
  refine SC.of (S := S.lv (n+3)) 2 ["source", "found"] 0 rfl rfl (fun _ _ _ _ _ _ _ _ => fa2 fun a b => BindsTo.of_eq rfl) (by decide +kernel) rfl rfl (.cons (SS.ifs (SE.cmp (SE.ix (SE.loc 1 rfl) SE.int) SE.nul) (.cons (SS.exp (SE.meth 2 rfl (SE.loc 0 rfl) (.cons (SE.ix (SE.loc 1 rfl) SE.int) .nil) (fun _ => rfl)))
 .nil) .nil)
 .nil) ?_
  cases x with
  | none => exact ifs_f (fun K h => h) ⟨rfl, rfl⟩
  | some t => exact ifs_t (fun K h => h) ((c_back S g n t (hx t rfl) r b hl).to ⟨rfl, rfl⟩)
noncomputable def optB : List Tk → List Tk
  | [] => []
  | t :: r => if t.1 = 10 then r else t :: r
theorem c_optional_blank (r : List Tk) (b : Int) (hl : r.length ≤ 100000) (ht : ∀ t ∈ r, TokOk t) : SC (S.lv (n + 5)) 330 [.src] { g with src := some (r, b) } (fun v g' => v = .d .none ∧ g' = { g with src := some (optB r, b) }) := by
  refine SC.of (S := S.lv (n+4)) 5 ["source"] 1 rfl rfl (fun _ _ _ _ _ _ _ _ => fa1 fun a => BindsTo.of_eq rfl) (by decide +kernel) rfl rfl (.cons (SS.asg 1 rfl (SE.meth 1 rfl (SE.loc 0 rfl) .nil (fun _ => rfl)))
 (.cons (SS.ifs (SE.cmp (SE.ix (SE.loc 1 rfl) SE.int) (SE.glob 2 2 rfl rfl)) (.cons (SS.exp (SE.call 3 2 rfl rfl (.cons (SE.loc 0 rfl) (.cons (SE.loc 1 rfl) .nil))))
 .nil) .nil)
 .nil)) ?_
  refine (c_read_expanded S g n r b hl).to (hk := Nat.add_le_add_left (by decide) n) ?_
  cases r with
  | nil => exact ifs_t (fun K h => h) ((c_unread S g n none 99 0 [] (b + 0) (by decide) nofun).to ⟨rfl, by rw [Int.add_zero]; rfl⟩)
  | cons t r =>
    obtain ⟨c, v, e, e1, e2⟩ := rd_cases t r
    rw [e]
    refine ifs_n (fun K h => h) (fun h1 => ?_) fun h1 => ?_
    · refine (c_unread S g n (some t) c v r (b + brc t) hl (fun u q => by cases q; exact ht t (.head _))).to ⟨rfl, ?_⟩
      rw [show optB (t :: r) = t :: r from if_neg (of_decide_eq_false (e1.symm.trans (decide_eq_false h1))), unr, show b + brc t - brc t = b by omega]
    · have h2 : t.1 = 10 := of_decide_eq_true (e1.symm.trans (decide_eq_true h1))
      refine ⟨rfl, ?_⟩
      rw [show optB (t :: r) = r from if_pos h2, show brc1 (t :: r) = 0 by rw [brc1, brc, h2]; rfl, Int.add_zero]; rfl
end
end Mine
/-! ## T3 -/
namespace Mine
open PySem PySem.W PySem.Calls PyProof.Rows
section
variable {K : AV → Sto → Prop} {σ : Sto} {a b : Int}
theorem otk_eqv {x : Option Tk} : PyData.eqv (otk x) (tk2 a b) = decide (x = some (a, b)) := by
  cases x with
  | none => rfl
  | some t => exact (eqv_tk t (a, b)).trans (decide_eq_decide.mpr Option.some_inj.symm)
theorem otk_shaped {x : Option Tk} : SeqAt.shaped (otk x) = true := by cases x <;> rfl
theorem tup_eq {x : PyData} {ds : List PyData} {K : Bool → Prop} (h : (SeqAt.shaped x = true ∧ SeqAt.shaped (.tuple ds) = true) ∧ K (PyData.eqv x (.tuple ds))) : eqD x (.tuple ds) K := by
  cases x <;> exact h
theorem otk_eq {x : Option Tk} (h : K (.d (.bool (decide (x = some (a, b))))) σ) : cmpD .Eq (otk x) (tk2 a b) fun r => K (.d (.bool r)) σ :=
  tup_eq (ds := [.int a, .int b]) (K := fun r => K (.d (.bool r)) σ) ⟨⟨otk_shaped, rfl⟩, (otk_eqv (x := x)).symm ▸ h⟩
theorem otk_ne {x : Option Tk} (h : K (.d (.bool (!decide (x = some (a, b))))) σ) : cmpD .NotEq (otk x) (tk2 a b) fun r => K (.d (.bool r)) σ :=
  tup_eq (ds := [.int a, .int b]) (K := fun r => K (.d (.bool (!r))) σ) ⟨⟨otk_shaped, rfl⟩, (otk_eqv (x := x)).symm ▸ h⟩
end
theorem rd_head (p : List Tk) : (rd1 p).1 = p.head? := by
  cases p with
  | nil => rfl
  | cons t r => obtain ⟨c, v, e, _⟩ := rd_cases t r; rw [e]; rfl
section
variable (S : Stat) (g : Gs) (n : Nat)
/-- what was read goes back -/
theorem c_unread_rd (p : List Tk) (b : Int) (hl : p.length ≤ 100000) (ht : ∀ t ∈ p, TokOk t) : SC (S.lv (n + 4)) 309 [.src, .d (fnd (rd1 p))] (afterP g p b) (fun v g' => v = .d .none ∧ g' = { g with src := some (p, b) }) := by
  cases p with
  | nil => exact (c_unread S g n none 99 0 [] (b + 0) (by decide) nofun).to ⟨rfl, by rw [Int.add_zero]; rfl⟩
  | cons t r =>
    obtain ⟨c, v, e, _⟩ := rd_cases t r
    rw [e]
    exact (c_unread S g n (some t) c v r (b + brc t) hl fun u q => by cases q; exact ht t (.head _)).to ⟨rfl, by rw [unr, show b + brc t - brc t = b by omega]⟩
noncomputable def spellsP (t : Option Tk) (m : Nat) : Bool := match t with
  | none => false
  | some t => decide (1 ≤ t.1) && decide (t.1 ≤ 12) && (decide (t.2 = m) || decide (t.2 = (m : Int) - 32))
theorem c_spells (t : Option Tk) (m : Nat) : SC (S.lv (n + 1)) 351 [.d (otk t), .d (.str ⟨#[m]⟩)] g (fun a g' => a = .d (.bool (spellsP t m)) ∧ g' = g) := by
  refine SC.of (S := S.lv (n)) 8 ["token", "mark"] 0 rfl rfl (fun _ _ _ _ _ _ _ _ => fa2 fun a b => BindsTo.of_eq rfl) (by decide +kernel) rfl rfl (.cons (SS.ret (SE.and (SE.cmp (SE.loc 0 rfl) SE.nul) (SE.and (SE.cmp2 SE.int (SE.ix (SE.loc 0 rfl) SE.int) SE.int) (SE.one (SE.or (SE.cmp (SE.ix (SE.loc 0 rfl) SE.int) (SE.bi 2 2 rfl rfl (.cons (SE.loc 1 rfl) .nil))) (SE.one (SE.cmp (SE.ix (SE.loc 0 rfl) SE.int) (SE.bin (SE.bi 2 2 rfl rfl (.cons (SE.loc 1 rfl) .nil)) SE.int))))))))
 .nil) ?_
  cases t with
  | none => exact ⟨rfl, rfl⟩
  | some t =>
    obtain ⟨a, b⟩ := t
    exact val_and (u := true) (fun K h => h) (fun _ => val_and (fun K h => br_and h) fun _ => val_or (fun K h => ⟨rfl, h⟩) fun _ K h => ⟨rfl, h⟩) _ ⟨rfl, rfl⟩
noncomputable def optA : List Tk → List Tk
  | [] => []
  | t :: r' => if t = (12, 61) then r' else t :: r'
noncomputable def optE (r : List Tk) : List Tk := optA (past false r)
theorem c_optional_equals (r : List Tk) (b : Int) (hl : r.length ≤ 100000) (ht : ∀ t ∈ past false r, TokOk t) : SC (S.lv (n + 5)) 337 [.src] { g with src := some (r, b) } (fun v g' => v = .d .none ∧ g' = { g with src := some (optE r, b) }) := by
  refine SC.of (S := S.lv (n+4)) 6 ["source"] 1 rfl rfl (fun _ _ _ _ _ _ _ _ => fa1 fun a => BindsTo.of_eq rfl) (by decide +kernel) rfl rfl (.cons (SS.asg 1 rfl (SE.call 2 3 rfl rfl (.cons (SE.loc 0 rfl) .nil)))
 (.cons (SS.ifs (SE.cmp (SE.ix (SE.loc 1 rfl) SE.int) (SE.glob 3 22 rfl rfl)) (.cons (SS.exp (SE.call 4 2 rfl rfl (.cons (SE.loc 0 rfl) (.cons (SE.loc 1 rfl) .nil))))
 .nil) .nil)
 .nil)) ?_
  refine (c_skip_blanks S g n r b hl).to (hk := Nat.add_le_add_left (by decide) n) ?_
  have hpl := Nat.le_trans (past_len false r) hl
  unfold optE
  generalize past false r = p at *
  refine ifs_n (fun K h => otk_ne h) (fun h => (c_unread_rd S g n p b hpl ht).to ⟨rfl, ?_⟩) fun h => ?_
  · rw [rd_head] at h
    cases p with
    | nil => rfl
    | cons t r => rw [optA, if_neg fun q => h (congrArg some q)]
  · rw [rd_head] at h
    cases p with
    | nil => exact nomatch h
    | cons t r => cases h; exact ⟨rfl, by rw [afterP, show brc1 ((12, 61) :: r) = 0 from rfl, Int.add_zero]; rfl⟩
end
end Mine
/-! ## T4 -/
namespace Mine
open PySem PySem.W PySem.Calls PyProof.Rows
/-- past the signs: what is left (blanks dropped), and whether it is negative -/
noncomputable def sg : Nat → Bool → List Tk → List Tk × Bool
  | 0, neg, r => (past false r, neg)
  | k + 1, neg, r => match past false r with
    | [] => ([], neg)
    | t :: r' => if t = (12, 43) then sg k neg r' else if t = (12, 45) then sg k (!neg) r' else (t :: r', neg)
theorem sg_more : ∀ (k j : Nat) (neg : Bool) (r : List Tk), r.length ≤ k → r.length ≤ j → sg k neg r = sg j neg r
  | 0, 0, neg, r, _, _ => rfl
  | 0, j + 1, neg, r, h, _ => by
    have : r = [] := List.length_eq_zero_iff.mp (by omega)
    subst this; rfl
  | k + 1, 0, neg, r, _, h => by
    have : r = [] := List.length_eq_zero_iff.mp (by omega)
    subst this; rfl
  | k + 1, j + 1, neg, r, h1, h2 => by
    have hp := past_len false r
    unfold sg
    cases hq : past false r with
    | nil => rfl
    | cons t r' =>
      rw [hq] at hp
      simp at hp
      simp only
      rw [sg_more k j neg r' (by omega) (by omega), sg_more k j (!neg) r' (by omega) (by omega)]
noncomputable def sgn (r : List Tk) : List Tk × Bool := sg r.length false r
noncomputable def sgAt (p : List Tk) (neg : Bool) : List Tk × Bool := match p with
  | [] => ([], neg)
  | t :: r' => if t = (12, 43) then sg r'.length neg r' else if t = (12, 45) then sg r'.length (!neg) r' else (t :: r', neg)
theorem sg_at (r : List Tk) (neg : Bool) : sg r.length neg r = sgAt (past false r) neg := by
  cases r with
  | nil => rfl
  | cons t0 r0 =>
    have hp := past_len false (t0 :: r0)
    show sg (r0.length + 1) neg (t0 :: r0) = _
    unfold sg sgAt
    cases hq : past false (t0 :: r0) with
    | nil => rfl
    | cons t r' =>
      rw [hq] at hp
      simp at hp
      simp only
      rw [sg_more r0.length r'.length neg r' (by omega) (Nat.le_refl _), sg_more r0.length r'.length (!neg) r' (by omega) (Nat.le_refl _)]
section
variable (S : Stat) (g : Gs) (n : Nat)
/-- the loop's state, with p still ahead -/
inductive Sgs (g : Gs) (r : List Tk) (b : Int) (k : Nat) (fr : Fr') (σ : Sto) : Prop
  | mk (p neg) : k = p.length → p.length ≤ 100000 → sgAt p neg = sgn r → fr = [some .src, some (.d (.bool neg)), some (.d (fnd (rd1 p)))] → σ = ⟨afterP g p b, none⟩ → Sgs g r b k fr σ
theorem sgs_next {p : List Tk} {t : Tk} {neg : Bool} {r : List Tk} {b : Int} {fr : Fr'} {N : Fr' → Sto → Prop} {R : AV → Fr' → Sto → Prop} {z : Option AV} (hb : brc t = 0) (hl : (t :: p).length ≤ 100000) (h : sg p.length neg p = sgn r) (hN : ∀ fr σ, (∃ m, m < (t :: p).length ∧ Sgs g r b m fr σ) → N fr σ) (hf : fr = [some .src, some (.d (.bool neg)), z]) :
    SL.cons (SX.asg 2 (X.call (S.lv (n + 3)) 316 (XL.cons (X.loc 0) XL.nil))) SL.nil fr ⟨afterP g (t :: p) b, none⟩ N R := by
  subst hf
  rw [show afterP g (t :: p) b = { g with src := some (p, b) } by rw [afterP, show brc1 (t :: p) = 0 from hb, Int.add_zero]; rfl]
  refine (c_skip_blanks S g n p b (Nat.le_of_succ_le hl)).to (hN _ _ ⟨_, Nat.lt_succ_of_le (past_len false p), past false p, neg, rfl, Nat.le_trans (past_len false p) (Nat.le_of_succ_le hl), by rw [← sg_at]; exact h, rfl, rfl⟩)
theorem c_signs (r : List Tk) (b : Int) (hl : r.length ≤ 100000) : SC (S.lv (n + 4)) 365 [.src] { g with src := some (r, b) } (fun v g' => v = .d (.tuple [fnd (rd1 (sgn r).1), .bool (sgn r).2]) ∧ g' = afterP g (sgn r).1 b) := by
  refine SC.of (S := S.lv (n+3)) 10 ["source"] 2 rfl rfl (fun _ _ _ _ _ _ _ _ => fa1 fun a => BindsTo.of_eq rfl) (by decide +kernel) rfl rfl (.cons (SS.asg 1 rfl SE.bool)
 (.cons (SS.asg 2 rfl (SE.call 3 3 rfl rfl (.cons (SE.loc 0 rfl) .nil)))
 (.cons (SS.whl (SE.or (SE.cmp (SE.ix (SE.loc 2 rfl) SE.int) (SE.glob 4 20 rfl rfl)) (SE.one (SE.cmp (SE.ix (SE.loc 2 rfl) SE.int) (SE.glob 5 21 rfl rfl)))) (.cons (SS.ifs (SE.cmp (SE.ix (SE.loc 2 rfl) SE.int) (SE.glob 5 21 rfl rfl)) (.cons (SS.asg 1 rfl (SE.not (SE.loc 1 rfl)))
 .nil) .nil)
 (.cons (SS.asg 2 rfl (SE.call 3 3 rfl rfl (.cons (SE.loc 0 rfl) .nil)))
 .nil)))
 (.cons (SS.ret (SE.tup (.cons (SE.loc 2 rfl) (.cons (SE.loc 1 rfl) .nil))))
 .nil)))) ?_
  have hpl := Nat.le_trans (past_len false r) hl
  refine (c_skip_blanks S g n r b hl).to ?_
  refine whl_go (Sgs g r b) (past false r).length ⟨past false r, false, rfl, hpl, (sg_at r false).symm, rfl, rfl⟩ ?_
  rintro _ _ _ ⟨p, neg, rfl, hl', hp, rfl, rfl⟩
  refine val_or (fun K h => otk_eq h) (fun _ K h => otk_eq h) _ (br_of (fun h1 => ?_) fun h1 => ?_)
  · rw [rd_head] at h1
    cases p with
    | nil => exact nomatch h1
    | cons t p =>
      refine ifs_d (fun K h => otk_eq h) (fun h2 => ?_) fun h2 => ?_
      · rw [rd_head] at h2
        cases h2
        exact sgs_next S g n rfl hl' hp (fun _ _ h => h) rfl
      · rw [rd_head] at h2
        obtain rfl : t = (12, 43) := Option.some.inj (of_decide_eq_true ((Bool.or_eq_true ..).mp h1 |>.resolve_right fun q => h2 (of_decide_eq_true q)))
        exact sgs_next S g n rfl hl' hp (fun _ _ h => h) rfl
  · have e3 : sgn r = (p, neg) := by
      rw [← hp]
      rw [rd_head] at h1
      cases p with
      | nil => rfl
      | cons t p =>
        have h1 := (Bool.or_eq_false_iff ..).mp h1
        exact (if_neg fun q => of_decide_eq_false h1.1 (congrArg some q)).trans (if_neg fun q => of_decide_eq_false h1.2 (congrArg some q))
    rw [e3]
    exact ⟨rfl, rfl⟩
end
end Mine
/-! ## T5 -/
namespace Mine
open PySem PySem.W PySem.Calls PyProof.Rows
noncomputable def brS : List Tk → Int
  | [] => 0
  | t :: r => brc t + brS r
theorem brS_append : ∀ a b : List Tk, brS (a ++ b) = brS a + brS b
  | [], b => (Int.zero_add _).symm
  | t :: a, b => by rw [List.cons_append, brS, brS, brS_append a b, Int.add_assoc]
theorem brS_reverse : ∀ a : List Tk, brS a.reverse = brS a
  | [] => rfl
  | t :: a => by rw [List.reverse_cons, brS_append, brS_reverse a, brS, brS, brS, Int.add_zero, Int.add_comm]
/-- a word that is asked for -/
noncomputable def kwGo : List Nat → List Tk → List Tk → Bool × List Tk
  | [], _, r => (true, r)
  | _ :: _, hs, [] => (false, hs)
  | m :: ms, hs, t :: r => if spellsP (some t) m = true then kwGo ms (hs ++ [t]) r else if t.1 = 10 ∧ hs = [] then kwGo (m :: ms) hs r else (false, hs ++ t :: r)
theorem kw_take {m : Nat} {ms : List Nat} {hs p : List Tk} (h : spellsP (rd1 p).1 m = true) : ∃ t r, p = t :: r ∧ kwGo (m :: ms) hs p = kwGo ms (hs ++ [t]) r := by
  rw [rd_head] at h
  cases p with
  | nil => exact nomatch h
  | cons t r => exact ⟨t, r, rfl, if_pos h⟩
theorem kw_stop {m : Nat} {ms : List Nat} {hs p : List Tk} (h : spellsP (rd1 p).1 m = false) (k : (!decide ((rd1 p).2.1 = 10) || !(hs.map tkd).isEmpty) = true) : kwGo (m :: ms) hs p = (false, hs ++ p) := by
  rw [rd_head] at h
  cases p with
  | nil => rw [kwGo, List.append_nil]
  | cons t r =>
    obtain ⟨c, v, e, e1, _⟩ := rd_cases t r
    rw [e, show decide ((some t, c, v).2.1 = 10) = decide (t.1 = 10) from e1] at k
    refine (if_neg (Bool.eq_false_iff.mp h)).trans (if_neg ?_)
    rintro ⟨q1, rfl⟩
    rw [q1] at k
    exact nomatch k
theorem kw_skip {m : Nat} {ms : List Nat} {hs p : List Tk} (h : spellsP (rd1 p).1 m = false) (k : (!decide ((rd1 p).2.1 = 10) || !(hs.map tkd).isEmpty) = false) : ∃ t r, p = t :: r ∧ brc t = 0 ∧ kwGo (m :: ms) hs p = kwGo (m :: ms) hs r := by
  rw [rd_head] at h
  cases p with
  | nil => exact nomatch k
  | cons t r =>
    obtain ⟨c, v, e, e1, _⟩ := rd_cases t r
    rw [e, show decide ((some t, c, v).2.1 = 10) = decide (t.1 = 10) from e1] at k
    have k1 := (Bool.or_eq_false_iff ..).mp k
    have q1 : t.1 = 10 := by simpa using k1.1
    have q2 : hs = [] := by simpa using k1.2
    exact ⟨t, r, rfl, by rw [brc, q1]; rfl, (if_neg (Bool.eq_false_iff.mp h)).trans (if_pos ⟨q1, q2⟩)⟩
noncomputable def dig (t : Tk) : Bool := decide (t.1 = 12) && decide (48 ≤ t.2) && decide (t.2 < 58)
noncomputable def digP (x : Option Tk) : Int := match x with
  | none => -1
  | some t => if dig t = true then t.2 - 48 else -1
section
variable (S : Stat) (g : Gs) (n : Nat)
theorem c_digit_of (x : Option Tk) : SC (S.lv (n + 1)) 379 [.d (otk x), .d (.int 10)] g (fun v g' => v = .d (.int (digP x)) ∧ g' = g) := by
  refine SC.of (S := S.lv (n)) 12 ["token", "base"] 2 rfl rfl (fun _ _ _ _ _ _ _ _ => fa2 fun a b => BindsTo.of_eq rfl) (by decide +kernel) rfl rfl (.cons (SS.ifs (SE.cmp (SE.loc 0 rfl) SE.nul) (.cons (SS.ret (SE.neg SE.int))
 .nil) .nil)
 (.cons (SS.asgP (NmE.cons (i := 2) rfl (NmE.cons (i := 3) rfl .nil)) (SE.loc 0 rfl))
 (.cons (SS.ifs (SE.and (SE.cmp (SE.loc 2 rfl) (SE.glob 4 7 rfl rfl)) (SE.one (SE.cmp2 SE.int (SE.loc 3 rfl) (SE.bin SE.int (SE.bi 5 3 rfl rfl (.cons (SE.loc 1 rfl) (.cons SE.int .nil))))))) (.cons (SS.ret (SE.bin (SE.loc 3 rfl) SE.int))
 .nil) .nil)
 (.cons (SS.ifs (SE.and (SE.cmp (SE.loc 1 rfl) SE.int) (SE.and (SE.cmp2 SE.int (SE.loc 3 rfl) SE.int) (SE.one (SE.or (SE.cmp (SE.loc 2 rfl) (SE.glob 6 8 rfl rfl)) (SE.one (SE.cmp (SE.loc 2 rfl) (SE.glob 4 7 rfl rfl))))))) (.cons (SS.ret (SE.bin (SE.loc 3 rfl) SE.int))
 .nil) .nil)
 (.cons (SS.ret (SE.neg SE.int))
 .nil))))) ?_
  cases x with
  | none => exact ifs_t (fun K h => h) ⟨rfl, rfl⟩
  | some t =>
    obtain ⟨a, b⟩ := t
    refine ifs_f (fun K h => h) (ifs_v (decide (a = 12) && (decide (48 ≤ b) && decide (b < 58))) (val_and (fun K h => h) fun _ K h => br_and h) (fun h => ⟨?_, rfl⟩) fun h => ifs_f (fun K h => h) ⟨?_, rfl⟩)
    · rw [digP, dig, Bool.and_assoc, if_pos h]
    · rw [digP, dig, Bool.and_assoc, if_neg (Bool.eq_false_iff.mp h)]
theorem c_lowered (s v : Int) (hs : s = 0 ∨ s = 1) : SC (S.lv (n + 1)) 372 [.d (.int s), .d (.int v), .d (.int 0)] g (fun a g' => a = .d (.tuple [.int 0, .int v]) ∧ g' = g) := by
  refine SC.of (S := S.lv (n)) 11 ["sort", "value", "wanted"] 0 rfl rfl (fun _ _ _ _ _ _ _ _ => fa3 fun a b c => BindsTo.of_eq rfl) (by decide +kernel) rfl rfl (.cons (SS.ifs (SE.cmp (SE.loc 0 rfl) (SE.loc 2 rfl)) (.cons (SS.ret (SE.tup (.cons (SE.loc 0 rfl) (.cons (SE.loc 1 rfl) .nil))))
 .nil) .nil)
 (.cons (SS.ifs (SE.or (SE.cmp (SE.loc 0 rfl) (SE.glob 3 19 rfl rfl)) (SE.one (SE.cmp (SE.loc 2 rfl) (SE.glob 3 19 rfl rfl)))) (.cons SS.stuck
 .nil) .nil)
 (.cons (SS.ifs (SE.cmp (SE.loc 0 rfl) (SE.glob 3 19 rfl rfl)) (.cons SS.stuck
 .nil) .nil)
 (.cons (SS.ifs (SE.cmp (SE.loc 0 rfl) (SE.loc 2 rfl)) (.cons (SS.ret (SE.tup (.cons (SE.loc 0 rfl) (.cons (SE.loc 1 rfl) .nil))))
 .nil) .nil)
 (.cons (SS.ifs (SE.cmp (SE.loc 0 rfl) (SE.glob 6 18 rfl rfl)) (.cons SS.stuck
 .nil) .nil)
 (.cons (SS.ret (SE.tup (.cons (SE.loc 2 rfl) (.cons (SE.loc 1 rfl) .nil))))
 .nil)))))) ?_
  rcases hs with rfl | rfl
  · exact ifs_t (fun K h => h) ⟨rfl, rfl⟩
  · exact ifs_f (fun K h => h) (ifs_f (fun K h => h) (ifs_f (fun K h => h) (ifs_f (fun K h => h) (ifs_f (fun K h => h) ⟨rfl, rfl⟩))))
theorem kw_back (held : Option (List PyData)) (w0 x : Option AV) {N : Fr' → Sto → Prop} {R : AV → Fr' → Sto → Prop} (l : List Tk) : ∀ (r1 : List Tk) (b1 : Int) (y : Option AV), l.length + r1.length < 100000 → (∀ t ∈ l, TokOk t) →
    (∀ y', N [some .src, w0, some .held, x, y'] ⟨{ g with src := some (l.reverse ++ r1, b1 - brS l) }, held⟩) →
    forGo (fun d fr σ K => (SL.cons (.ex (.meth (S.lv (n + 4)) 457 (.loc 0) (.cons (.loc 4) .nil))) .nil) (fr.set 4 (some (.d d))) σ K R) N (l.map tkd) [some .src, w0, some .held, x, y] ⟨{ g with src := some (r1, b1) }, held⟩ := by
  induction l with
  | nil =>
    intro r1 b1 y hl ok q
    rw [← Int.sub_zero b1]; exact q y
  | cons t l ih =>
    intro r1 b1 y hl ok q
    rw [List.length_cons] at hl
    refine (c_back S g n t (ok t (.head _)) r1 b1 (by omega)).to (hk := Nat.le_succ _) (ih (t :: r1) (b1 - brc t) _ (by rw [List.length_cons]; omega) (fun u hu => ok u (.tail _ hu)) fun y' => ?_)
    have := q y'
    rw [List.reverse_cons, List.append_assoc, brS, Int.add_comm, ← Int.sub_sub] at this
    rw [Int.sub_sub, Int.add_comm, ← Int.sub_sub]
    exact this
/-- the loop's state: hs held, p still ahead -/
inductive Kw (g : Gs) (wd : Array Nat) (r : List Tk) (b : Int) (k : Nat) (fr : Fr') (σ : Sto) : Prop
  | mk (hs p x y) : k = p.length → hs.length ≤ wd.size → kwGo (wd.toList.drop hs.length) hs p = kwGo wd.toList [] r → hs.length + p.length ≤ r.length → (∀ t ∈ hs, TokOk t) → (∀ t ∈ p, TokOk t) →
    fr = [some .src, some (.d (.str ⟨wd⟩)), some .held, x, y] → σ = ⟨{ g with src := some (p, b + brS r - brS p) }, some (hs.map tkd)⟩ → Kw g wd r b k fr σ
theorem c_keyword (wd : Array Nat) (r : List Tk) (b : Int) (hl : r.length < 100000) (hw : wd.size < 1000) (ht : ∀ t ∈ r, TokOk t) : SC (S.lv (n + 5)) 358 [.src, .d (.str ⟨wd⟩)] { g with src := some (r, b) }
    (fun v g' => v = .d (.bool (kwGo wd.toList [] r).1) ∧ g' = { g with src := some ((kwGo wd.toList [] r).2, b + brS r - brS (kwGo wd.toList [] r).2) }) := by
  refine SC.of (S := S.lv (n+4)) 9 ["source", "word"] 3 rfl rfl (fun _ _ _ _ _ _ _ _ => fa2 fun a b => BindsTo.of_eq rfl) (by decide +kernel) rfl rfl (.cons (SS.newHeld 2 rfl)
 (.cons (SS.whl (SE.cmp (SE.bi 5 0 rfl rfl (.cons (SE.loc 2 rfl) .nil)) (SE.bi 5 0 rfl rfl (.cons (SE.loc 1 rfl) .nil))) (.cons (SS.asg 3 rfl (SE.meth 1 rfl (SE.loc 0 rfl) .nil (fun _ => rfl)))
 (.cons (SS.ifs (SE.call 6 8 rfl rfl (.cons (SE.ix (SE.loc 3 rfl) SE.int) (.cons (SE.ix (SE.loc 1 rfl) (SE.bi 5 0 rfl rfl (.cons (SE.loc 2 rfl) .nil))) .nil))) (.cons (SS.app 2 rfl (SE.ix (SE.loc 3 rfl) SE.int) (fun _ => rfl))
 .nil) (.cons (SS.ifs (SE.or (SE.cmp (SE.ix (SE.loc 3 rfl) SE.int) (SE.glob 7 2 rfl rfl)) (SE.one (SE.hne (SE.loc 2 rfl)))) (.cons (SS.exp (SE.call 8 2 rfl rfl (.cons (SE.loc 0 rfl) (.cons (SE.loc 3 rfl) .nil))))
 (.cons (SS.forL 4 rfl (SE.rev (SE.loc 2 rfl)) (.cons (SS.exp (SE.meth 2 rfl (SE.loc 0 rfl) (.cons (SE.loc 4 rfl) .nil) (fun _ => rfl)))
 .nil))
 (.cons (SS.ret SE.bool)
 .nil))) .nil)
 .nil))
 .nil)))
 (.cons (SS.ret SE.bool)
 .nil))) ?_
  refine whl_go (Kw g wd r b) r.length ⟨[], r, none, none, rfl, Nat.zero_le _, rfl, Nat.le_of_eq (Nat.zero_add _), nofun, ht, rfl, by rw [Int.add_sub_cancel]; rfl⟩ ?_
  rintro _ _ _ ⟨hs, p, x, y, rfl, hh, hk, hlen, ok1, ok2, rfl, rfl⟩
  refine grd_lt (by rw [List.length_map]; omega) (grd_lt (show wd.size < _ by omega) (brd (fun hq => ?_) fun hq => ?_))
  · rw [List.length_map] at hq
    have hlt : hs.length < wd.size := Int.ofNat_lt.mp hq
    have hdrop : wd.toList.drop hs.length = wd[hs.length] :: wd.toList.drop (hs.length + 1) := by
      rw [← Array.getElem_toList]; exact List.drop_eq_getElem_cons _
    rw [hdrop] at hk
    refine (c_read_expanded S g n p _ (by omega)).to (hk := Nat.add_le_add_left (by decide) n) ?_
    refine ifs_v _ (fun K h => grd_lt (by rw [List.length_map]; omega) ⟨⟨Int.natCast_nonneg _, by rw [List.length_map]; omega⟩, need_of (r := wd[hs.length]) (by rw [List.length_map]; exact Array.getElem?_eq_getElem hlt) ((c_spells S _ n (rd1 p).1 wd[hs.length]).to (hk := Nat.add_le_add_left (by decide) n) h)⟩) (fun h1 => ?_) fun h1 => ?_
    · obtain ⟨t, p, rfl, e⟩ := kw_take h1
      rw [e] at hk
      rw [List.length_cons] at hlen
      obtain ⟨c, v, e1, _⟩ := rd_cases t p
      rw [e1]
      refine ⟨by rw [List.length_map]; omega, p.length, Nat.lt_succ_self _, hs ++ [t], p, _, _, rfl, by rw [List.length_append]; exact hlt, ?_, ?_, ?_, fun u hu => ok2 u (.tail _ hu), rfl, ?_⟩
      · rw [List.length_append]; exact hk
      · rw [List.length_append, List.length_singleton]; omega
      · exact fun u hu => (List.mem_append.mp hu).elim (ok1 u) fun q => List.mem_singleton.mp q ▸ ok2 _ (.head _)
      · rw [List.map_append, show b + brS r - brS (t :: p) + brc1 (t :: p) = b + brS r - brS p by rw [brS, brc1]; omega]; rfl
    · refine ifs_v _ (val_or (fun K h => h) fun _ K h => ⟨shaped_tks _, h⟩) (fun h2 => ?_) fun h2 => ?_
      · rw [kw_stop h1 h2] at hk
        refine (c_unread_rd S g n p _ (by omega) ok2).to ⟨by rw [List.length_map]; omega, ?_⟩
        rw [← List.map_reverse]
        refine kw_back S g n _ _ _ hs.reverse p _ _ (by rw [List.length_reverse]; omega) (fun t h => ok1 t (List.mem_reverse.mp h)) fun y' => ?_
        rw [← hk, List.reverse_reverse]
        exact ⟨rfl, by rw [brS_append, brS_reverse, show b + brS r - (brS hs + brS p) = b + brS r - brS p - brS hs by omega]⟩
      · obtain ⟨t, p, rfl, hb, e⟩ := kw_skip h1 h2
        rw [e, ← hdrop] at hk
        rw [List.length_cons] at hlen
        exact ⟨p.length, Nat.lt_succ_self _, hs, p, _, _, rfl, hh, hk, by omega, ok1, fun u hu => ok2 u (.tail _ hu), rfl, by rw [show b + brS r - brS (t :: p) + brc1 (t :: p) = b + brS r - brS p by rw [brS, brc1]; omega]; rfl⟩
  · rw [List.length_map] at hq
    rw [List.drop_eq_nil_iff.mpr (by rw [Array.length_toList]; exact Nat.not_lt.mp fun q => hq (Int.ofNat_lt.mpr q)), kwGo] at hk
    rw [← hk]
    exact ⟨rfl, rfl⟩
end
end Mine
/-! ## T6 -/
namespace Mine
open PySem PySem.W PySem.Calls PyProof.Rows
theorem Stat.bad84 (S : Stat) : nsIn S.K mainGlobals "BadNumber" = some (some (.ref 84)) := beq_true (and2 (and2 (S.G.L.at 8 rfl)).1).2
theorem Stat.bad120 (S : Stat) : nsIn S.K mainGlobals "BadGroup" = some (some (.ref 120)) := beq_true (and2 (S.G.L.at 8 rfl)).2
noncomputable def isBrace : List Tk → Bool
  | [] => false
  | t :: _ => decide (t.1 = 1)
theorem rd_brace (p : List Tk) : decide ((rd1 p).2.1 = 1) = isBrace p := by
  cases p with
  | nil => rfl
  | cons t r =>
    obtain ⟨a, b⟩ := t
    show decide ((if a = 0 ∧ (b = 0 ∨ b = 1) then _ else if a = 0 ∨ a = 13 then _ else _ : Option Tk × Int × Int).2.1 = 1) = decide (a = 1)
    by_cases h1 : a = 0 ∧ (b = 0 ∨ b = 1)
    · rw [if_pos h1, h1.1]; rfl
    · rw [if_neg h1]
      by_cases h2 : a = 0 ∨ a = 13
      · rw [if_pos h2]; rcases h2 with rfl | rfl <;> rfl
      · rw [if_neg h2]
/-- the figures of a number -/
noncomputable def wn (v : Int) : List Tk → Option (Int × List Tk)
  | [] => some (v, [])
  | t :: r => if dig t = true then (if 2147483647 < 10 * v + (t.2 - 48) then none else wn (10 * v + (t.2 - 48)) r) else some (v, t :: r)
noncomputable def startsDig : List Tk → Bool
  | [] => false
  | t :: _ => dig t
noncomputable def TokQ (t : Tk) : Prop := t ≠ (12, 96) ∧ t ≠ (12, 39) ∧ t ≠ (12, 34)
theorem dig_at {t : Tk} (h : dig t = true) : t.1 = 12 ∧ 48 ≤ t.2 ∧ t.2 < 58 :=
  let h1 := and2 h; let h2 := and2 h1.1
  ⟨of_decide_eq_true h2.1, of_decide_eq_true h2.2, of_decide_eq_true h1.2⟩
theorem dig_brc {t : Tk} (h : dig t = true) : brc t = 0 := by rw [brc, (dig_at h).1]; rfl
theorem dig_get {p : List Tk} (h : 0 ≤ digP (rd1 p).1) : ∃ t r, p = t :: r ∧ dig t = true ∧ digP (rd1 p).1 = t.2 - 48 := by
  rw [rd_head] at h ⊢
  cases p with
  | nil => exact absurd h (by decide)
  | cons t r =>
    by_cases e : dig t = true
    · exact ⟨t, r, rfl, e, if_pos e⟩
    · rw [show digP (t :: r).head? = -1 from if_neg e] at h; exact absurd h (by decide)
theorem dig_not {p : List Tk} (h : ¬ 0 ≤ digP (rd1 p).1) : startsDig p = false := by
  rw [rd_head] at h
  cases p with
  | nil => rfl
  | cons t r =>
    refine Bool.eq_false_iff.mpr fun e => h ?_
    rw [show digP (t :: r).head? = t.2 - 48 from if_pos e]
    have := (dig_at e).2.1; omega
theorem quo_not {p : List Tk} (hq : ∀ t ∈ p, TokQ t) : (rd1 p).1 ≠ some (12, 39) ∧ (rd1 p).1 ≠ some (12, 34) ∧ (rd1 p).1 ≠ some (12, 96) := by
  rw [rd_head]
  cases p with
  | nil => exact ⟨nofun, nofun, nofun⟩
  | cons t r => exact ⟨fun q => (hq t (.head _)).2.1 (Option.some.inj q), fun q => (hq t (.head _)).2.2 (Option.some.inj q), fun q => (hq t (.head _)).1 (Option.some.inj q)⟩
section
variable (S : Stat) (g : Gs) (n : Nat)
theorem c_left_brace (r : List Tk) (b : Int) (hl : r.length ≤ 100000) : SCR (S.lv (n + 4)) 344 [.src] { g with src := some (r, b) }
    (fun v g' => isBrace (past true r) = true ∧ v = .d (fnd (rd1 (past true r))) ∧ g' = afterP g (past true r) b) (fun c => c = 120 ∧ isBrace (past true r) = false) := by
  refine SCR.of (S := S.lv (n+3)) 7 ["source"] 1 rfl rfl (fun _ _ _ _ _ _ _ _ => fa1 fun a => BindsTo.of_eq rfl) (by decide +kernel) rfl rfl (.cons (SSR.plain (SS.asg 1 rfl (SE.call 2 4 rfl rfl (.cons (SE.loc 0 rfl) .nil))))
 (.cons (SSR.ifs (SE.cmp (SE.ix (SE.loc 1 rfl) SE.int) (SE.glob 3 1 rfl rfl)) (.cons (SSR.raise 4 rfl S.G.L.pc120 S.bad120)
 .nil) .nil)
 (.cons (SSR.plain (SS.ret (SE.loc 1 rfl)))
 .nil))) ?_
  refine (c_skip_filler S g n r b hl).to ?_
  refine ifR_n (fun K h => h) (fun h => ⟨rfl, rfl, ?_⟩) fun h => ⟨?_, rfl, rfl⟩
  · rw [← rd_brace]; exact decide_eq_false h
  · rw [← rd_brace]; exact decide_eq_true h
inductive Wn (g : Gs) (p : List Tk) (b : Int) (k : Nat) (fr : Fr') (σ : Sto) : Prop
  | mk (p' x) : k = p'.length → p'.length ≤ 100000 → 0 ≤ x → x ≤ 2147483647 → wn x p' = wn 0 p → fr = [some .src, some (.d (fnd (rd1 p'))), some (.d (.int 10)), some (.d (.int (digP (rd1 p').1))), some (.d (.int x))] → σ = ⟨afterP g p' b, none⟩ → Wn g p b k fr σ
theorem c_written_number (p : List Tk) (b : Int) (hl : p.length ≤ 100000) (hq : ∀ t ∈ p, TokQ t) : SCR (S.lv (n + 3)) 393 [.src, .d (fnd (rd1 p))] (afterP g p b)
    (fun v g' => ∃ x q, startsDig p = true ∧ wn 0 p = some (x, q) ∧ v = .d (.tuple [.int x, .int 10, fnd (rd1 q)]) ∧ g' = afterP g q b) (fun c => c = 84 ∧ (startsDig p = false ∨ wn 0 p = none)) := by
  refine SCR.of (S := S.lv (n+2)) 13 ["source", "found"] 3 rfl rfl (fun _ _ _ _ _ _ _ _ => fa2 fun a b => BindsTo.of_eq rfl) (by decide +kernel) rfl rfl (.cons (SSR.plain (SS.asg 2 rfl SE.int))
 (.cons (SSR.plain (SS.ifs (SE.cmp (SE.ix (SE.loc 1 rfl) SE.int) (SE.glob 5 24 rfl rfl)) (.cons (SS.asg 2 rfl SE.int)
 .nil) (.cons (SS.ifs (SE.cmp (SE.ix (SE.loc 1 rfl) SE.int) (SE.glob 6 25 rfl rfl)) (.cons (SS.asg 2 rfl SE.int)
 .nil) .nil)
 .nil)))
 (.cons (SSR.plain (SS.ifs (SE.cmp (SE.loc 2 rfl) SE.int) (.cons (SS.asg 1 rfl (SE.meth 1 rfl (SE.loc 0 rfl) .nil (fun _ => rfl)))
 .nil) .nil))
 (.cons (SSR.plain (SS.asg 3 rfl (SE.call 7 12 rfl rfl (.cons (SE.ix (SE.loc 1 rfl) SE.int) (.cons (SE.loc 2 rfl) .nil)))))
 (.cons (SSR.ifs (SE.cmp (SE.loc 3 rfl) SE.int) (.cons (SSR.raise 8 rfl S.G.L.pc84 S.bad84)
 .nil) .nil)
 (.cons (SSR.plain (SS.asg 4 rfl SE.int))
 (.cons (SSR.whl (SE.cmp (SE.loc 3 rfl) SE.int) (.cons (SSR.plain (SS.asg 4 rfl (SE.bin (SE.bin (SE.loc 2 rfl) (SE.loc 4 rfl)) (SE.loc 3 rfl))))
 (.cons (SSR.ifs (SE.cmp (SE.loc 4 rfl) (SE.glob 9 6 rfl rfl)) (.cons (SSR.raise 8 rfl S.G.L.pc84 S.bad84)
 .nil) .nil)
 (.cons (SSR.plain (SS.asg 1 rfl (SE.meth 1 rfl (SE.loc 0 rfl) .nil (fun _ => rfl))))
 (.cons (SSR.plain (SS.asg 3 rfl (SE.call 7 12 rfl rfl (.cons (SE.ix (SE.loc 1 rfl) SE.int) (.cons (SE.loc 2 rfl) .nil)))))
 .nil)))))
 (.cons (SSR.plain (SS.ret (SE.tup (.cons (SE.loc 4 rfl) (.cons (SE.loc 2 rfl) (.cons (SE.loc 1 rfl) .nil))))))
 .nil)))))))) ?_
  have o := quo_not hq
  refine ifs_d (fun K h => otk_eq h) (fun h => absurd h o.1) fun _ => ifs_d (fun K h => otk_eq h) (fun h => absurd h o.2.1) fun _ => ifs_f (fun K h => h) ?_
  refine (c_digit_of S _ (n + 1) (rd1 p).1).to ?_
  refine ifR_d (fun K h => h) (fun h => ⟨rfl, rfl, .inl (dig_not (Int.not_le.mpr h))⟩) fun h => ?_
  have hs : startsDig p = true := by
    obtain ⟨t, r, rfl, e, _⟩ := dig_get (Int.not_lt.mp h); exact e
  refine whlR_go (Wn g p b) p.length ⟨p, 0, rfl, hl, by decide, by decide, rfl, rfl, rfl⟩ ?_
  rintro _ _ _ ⟨p', x, rfl, hl', hx0, hx1, hw, rfl, rfl⟩
  refine brd (fun h1 => ?_) fun h1 => ?_
  · obtain ⟨t, r, rfl, ht, he⟩ := dig_get h1
    have hd := (dig_at ht).2
    rw [he]
    refine ⟨.inl (by decide), ?_⟩
    rw [show wn x (t :: r) = if 2147483647 < 10 * x + (t.2 - 48) then none else wn (10 * x + (t.2 - 48)) r from if_pos ht] at hw
    refine ifR_d (fun K h => h) (fun h2 => ⟨rfl, rfl, .inr (hw.symm.trans (if_pos h2))⟩) fun h2 => ?_
    rw [if_neg h2] at hw
    refine (c_read_expanded S g n r (b + brc t) (Nat.le_of_succ_le hl')).to ((c_digit_of S _ (n + 1) (rd1 r).1).to ?_)
    exact ⟨r.length, Nat.lt_succ_self _, r, 10 * x + (t.2 - 48), rfl, Nat.le_of_succ_le hl', by omega, by omega, hw, rfl, by rw [dig_brc ht, Int.add_zero]; rfl⟩
  · have : wn x p' = some (x, p') := by
      have h := dig_not h1
      cases p' with
      | nil => rfl
      | cons t r => exact if_neg (Bool.eq_false_iff.mp h)
    exact ⟨x, p', hs, hw.symm.trans this, rfl, rfl⟩
end
end Mine
/-! ## T7 -/
namespace Mine
open PySem PySem.W PySem.Calls PyProof.Rows
theorem sws2 {env : Env} {a b : Str} {pa pb p p2 : Pos} {k k2 : Nat} {v1 v2 : Expr} (hk : env.scope.kind = .function) (h : ∀ x ∈ [a, b], env.kindOf x = some .local) (hl : (pb.line == pa.line) = true) (hs : ([v1, v2].any fun | .Starred .. => true | _ => false) = false) (hd : ([a, b].eraseDups.length == 2) = true)
    (hf : [v1, v2].all (foldedForSure 8) = false) (hc : [v1, v2].all (constantsAlone 8) = false) : swappedStores [.Tuple [.Name a pa, .Name b pb] k p] (.Tuple [v1, v2] k2 p2) env = pure (some [a, b]) := by
  have h3 := h _ (.head _)
  have h4 := h _ (.tail _ (.head _))
  have hb : env.blockKind = .function := by unfold Env.blockKind; rw [hk]; rfl
  have hl := beq_true hl
  have hd := beq_true hd
  unfold swappedStores
  simp only [hb, h3, h4, hf, hc, hd, List.filterMap_cons, List.filterMap_nil, Expr.pos, List.head?_cons, Option.map_some, Option.getD_some, hl, beq_self_eq_true, Bool.and_self, if_true, List.length_cons, List.length_nil]
  exact (if_neg (by decide)).trans ((if_neg (Bool.eq_false_iff.mp hs)).trans rfl)
theorem sws3 {env : Env} {a b c : Str} {pa pb pc p p2 : Pos} {k k2 : Nat} {v1 v2 v3 : Expr} (hk : env.scope.kind = .function) (h : ∀ x ∈ [a, b, c], env.kindOf x = some .local) (hl : (pb.line == pa.line) = true ∧ (pc.line == pa.line) = true) (hs : ([v1, v2, v3].any fun | .Starred .. => true | _ => false) = false) (hd : ([a, b, c].eraseDups.length == 3) = true)
    (hf : [v1, v2, v3].all (foldedForSure 8) = false) (hc : [v1, v2, v3].all (constantsAlone 8) = false) : swappedStores [.Tuple [.Name a pa, .Name b pb, .Name c pc] k p] (.Tuple [v1, v2, v3] k2 p2) env = pure (some [a, b, c]) := by
  have h3 := h _ (.head _)
  have h4 := h _ (.tail _ (.head _))
  have h5 := h _ (.tail _ (.tail _ (.head _)))
  have hb : env.blockKind = .function := by unfold Env.blockKind; rw [hk]; rfl
  have hl1 := beq_true hl.1
  have hl2 := beq_true hl.2
  have hd := beq_true hd
  unfold swappedStores
  simp only [hb, h3, h4, h5, hf, hc, hd, List.filterMap_cons, List.filterMap_nil, Expr.pos, List.head?_cons, Option.map_some, Option.getD_some, hl1, hl2, beq_self_eq_true, Bool.and_self, if_true, List.length_cons, List.length_nil]
  exact (if_neg (by decide)).trans ((if_neg (Bool.eq_false_iff.mp hs)).trans rfl)
noncomputable def ng (neg : Bool) (x : Int) : Int := if neg = true then -x else x
/-- a number's parts: the value, whether it came from an inner quantity, and what is behind -/
noncomputable def npA (neg : Bool) : List Tk → Option (Int × Bool × List Tk)
  | [] => none
  | t :: p => if t = (0, 0) then some (ng neg 7, true, p) else if t = (0, 1) then some (ng neg 300, true, p) else if dig t = true then (wn 0 (t :: p)).map fun y => (ng neg y.1, false, y.2) else none
noncomputable def npP (r : List Tk) : Option (Int × Bool × List Tk) := npA (sgn r).2 (sgn r).1
theorem past_mem (f : Bool) : ∀ r : List Tk, ∀ t ∈ past f r, t ∈ r
  | [], t, h => by simp [past] at h
  | u :: r, t, h => by
    unfold past at h
    split at h
    · exact .tail _ (past_mem f r t h)
    · exact h
theorem sg_mem : ∀ (n : Nat) (neg : Bool) (r : List Tk), ∀ t ∈ (sg n neg r).1, t ∈ r
  | 0, neg, r, t, h => by simp only [sg] at h; exact past_mem false r t h
  | n + 1, neg, r, t, h => by
    simp only [sg] at h
    have pm := past_mem false r
    cases hq : past false r with
    | nil => rw [hq] at h; simp at h
    | cons u r' =>
      rw [hq] at h pm
      simp only at h
      split at h
      · exact pm t (.tail _ (sg_mem n _ r' t h))
      · split at h
        · exact pm t (.tail _ (sg_mem n _ r' t h))
        · exact pm t h
theorem sg_len : ∀ (n : Nat) (neg : Bool) (r : List Tk), (sg n neg r).1.length ≤ r.length
  | 0, neg, r => by simp only [sg]; exact past_len false r
  | n + 1, neg, r => by
    simp only [sg]
    have pl := past_len false r
    cases hq : past false r with
    | nil => simp
    | cons u r' =>
      rw [hq] at pl
      simp at pl
      simp only
      split
      · have := sg_len n neg r'; omega
      · split
        · have := sg_len n (!neg) r'; omega
        · simp; omega
noncomputable def numP (r : List Tk) : Option (Int × List Tk) := (npP r).map fun y => (y.1, if y.2.1 = true then y.2.2 else optB y.2.2)
noncomputable def smallP (r : List Tk) (top : Int) : Option (Int × List Tk) := (numP r).bind fun y => if 0 ≤ y.1 ∧ y.1 ≤ top then some y else none
theorem wn_mem : ∀ (v : Int) (p : List Tk) {x : Int} {q : List Tk}, wn v p = some (x, q) → (∀ t ∈ q, t ∈ p) ∧ q.length ≤ p.length
  | v, [], x, q, h => by simp [wn] at h; obtain ⟨_, rfl⟩ := h; simp
  | v, t :: r, x, q, h => by
    simp only [wn] at h
    split at h
    · split at h
      · cases h
      · obtain ⟨a, b⟩ := wn_mem _ r h
        exact ⟨fun t ht => .tail _ (a t ht), by simp; omega⟩
    · cases h; exact ⟨fun t ht => ht, Nat.le_refl _⟩
theorem npA_mem {neg : Bool} {p0 : List Tk} {x : Int} {i : Bool} {q : List Tk} (h : npA neg p0 = some (x, i, q)) : (∀ t ∈ q, t ∈ p0) ∧ q.length ≤ p0.length ∧ (i = true → q.length < p0.length) := by
  cases p0 with
  | nil => exact nomatch h
  | cons t p =>
    change (if t = (0, 0) then _ else if t = (0, 1) then _ else if dig t = true then _ else _) = _ at h
    by_cases h0 : t = (0, 0)
    · rw [if_pos h0] at h; cases h; exact ⟨fun u hu => .tail _ hu, Nat.le_succ _, fun _ => Nat.lt_succ_self _⟩
    · rw [if_neg h0] at h
      by_cases h1 : t = (0, 1)
      · rw [if_pos h1] at h; cases h; exact ⟨fun u hu => .tail _ hu, Nat.le_succ _, fun _ => Nat.lt_succ_self _⟩
      · rw [if_neg h1] at h
        by_cases hd : dig t = true
        · rw [if_pos hd] at h
          obtain ⟨y, hy, e⟩ := Option.map_eq_some_iff.mp h
          cases e
          obtain ⟨a, b⟩ := wn_mem 0 (t :: p) hy
          exact ⟨a, b, nofun⟩
        · rw [if_neg hd] at h; cases h
theorem npP_mem {r : List Tk} {x : Int} {i : Bool} {q : List Tk} (h : npP r = some (x, i, q)) : (∀ t ∈ q, t ∈ r) ∧ q.length ≤ r.length ∧ (i = true → q.length < r.length) := by
  obtain ⟨a, b, c⟩ := npA_mem h
  have hl := sg_len r.length false r
  exact ⟨fun t ht => sg_mem r.length false r t (a t ht), Nat.le_trans b hl, fun e => Nat.lt_of_lt_of_le (c e) hl⟩
theorem np_cases {p : List Tk} (neg : Bool) (ok : ∀ t ∈ p, TokOk t) : (∃ q, p = (0, 0) :: q) ∨ (∃ q, p = (0, 1) :: q) ∨ (¬ (rd1 p).2.1 = 77 ∧ npA neg p = if startsDig p = true then (wn 0 p).map fun y => (ng neg y.1, false, y.2) else none) := by
  cases p with
  | nil => exact .inr (.inr ⟨by decide, rfl⟩)
  | cons t p =>
    obtain ⟨a, b⟩ := t
    by_cases h0 : ((a, b) : Tk) = (0, 0)
    · exact .inl ⟨p, by rw [h0]⟩
    · by_cases h1 : ((a, b) : Tk) = (0, 1)
      · exact .inr (.inl ⟨p, by rw [h1]⟩)
      · refine .inr (.inr ⟨?_, (if_neg h0).trans (if_neg h1)⟩)
        have h3 : ¬ (a = 0 ∧ (b = 0 ∨ b = 1)) := by
          rintro ⟨rfl, rfl | rfl⟩
          · exact h0 rfl
          · exact h1 rfl
        have h4 : a = 0 ∨ a = 1 ∨ a = 2 ∨ a = 8 ∨ a = 10 ∨ a = 11 ∨ a = 12 ∨ a = 13 := (ok _ (.head _)).1
        rw [show rd1 ((a, b) :: p) = _ from if_neg h3]
        by_cases h2 : a = 0 ∨ a = 13
        · rw [if_pos h2]; exact (by decide : ¬ (0 : Int) = 77)
        · rw [if_neg h2]
          show ¬ a = 77
          rintro rfl
          exact absurd h4 (by decide)
inductive NpF (r : List Tk) (g : Gs) (b : Int) (neg : Bool) (fr : Fr') (σ : Sto) : Prop
  | mk (x i q w0 w1 w6) : npP r = some (ng neg x, i, q) → fr = [w0, w1, some (.d (.bool neg)), some (.d (.int x)), some (.d (.int (if i = true then 0 else 10))), some (.d (if i = true then .none else fnd (rd1 q))), w6] →
    σ = ⟨if i = true then { g with src := some (q, b) } else afterP g q b, none⟩ → NpF r g b neg fr σ
section
variable (S : Stat) (g : Gs) (n : Nat)
theorem c_number_parts (r : List Tk) (b : Int) (hl : r.length ≤ 100000) (ok : ∀ t ∈ r, TokOk t ∧ TokQ t) : SCR (S.lv (n + 5)) 400 [.src] { g with src := some (r, b) }
    (fun v g' => ∃ x i q, npP r = some (x, i, q) ∧ v = .d (.tuple [.int x, .int (if i = true then 0 else 10), if i = true then .none else fnd (rd1 q)]) ∧ g' = if i = true then { g with src := some (q, b) } else afterP g q b) (fun c => c = 84 ∧ npP r = none) := by
  refine SCR.of (S := S.lv (n+4)) 14 ["source"] 6 rfl rfl (fun _ _ _ _ _ _ _ _ => fa1 fun a => BindsTo.of_eq rfl) (by decide +kernel) rfl rfl (.cons (SSR.plain (SS.asgP (NmE.cons (i := 1) rfl (NmE.cons (i := 2) rfl .nil)) (SE.call 7 10 rfl rfl (.cons (SE.loc 0 rfl) .nil))))
 (.cons (SSR.ifs (SE.cmp (SE.ix (SE.loc 1 rfl) SE.int) (SE.glob 8 23 rfl rfl)) (.cons (SSR.plain SS.stuck)
 .nil) (.cons (SSR.plain (SS.asg 6 rfl (SE.meth 4 rfl (SE.loc 0 rfl) (.cons (SE.ix (SE.loc 1 rfl) SE.int) (.cons (SE.ix (SE.loc 1 rfl) SE.int) .nil)) (fun _ => rfl))))
 (.cons (SSR.ifs (SE.cmp (SE.loc 6 rfl) SE.nul) (.cons (SSR.asgPR 10 13 (NmE.cons (i := 3) rfl (NmE.cons (i := 4) rfl (NmE.cons (i := 5) rfl .nil))) rfl rfl (.cons (SE.loc 0 rfl) (.cons (SE.loc 1 rfl) .nil)))
 .nil) (.cons (SSR.plain (SS.asgS (NmL.cons (i := 3) rfl (NmL.cons (i := 4) rfl (NmL.cons (i := 5) rfl .nil))) (SE.tup (.cons (SE.ix (SE.call 11 11 rfl rfl (.cons (SE.ix (SE.loc 6 rfl) SE.int) (.cons (SE.ix (SE.loc 6 rfl) SE.int) (.cons (SE.glob 12 17 rfl rfl) .nil)))) SE.int) (.cons SE.int (.cons SE.nul .nil)))) (hw := fun env hk h => sws3 hk h ⟨rfl, rfl⟩ rfl rfl rfl rfl)))
 .nil))
 .nil)))
 (.cons (SSR.plain (SS.ret (SE.tup (.cons (SE.ife (SE.loc 2 rfl) (SE.neg (SE.loc 3 rfl)) (SE.loc 3 rfl)) (.cons (SE.loc 4 rfl) (.cons (SE.loc 5 rfl) .nil))))))
 .nil))) ?_
  refine (c_signs S g n r b hl).to ?_
  have hm : ∀ t ∈ (sgn r).1, t ∈ r := sg_mem r.length false r
  have hlen : (sgn r).1.length ≤ r.length := sg_len r.length false r
  have hnp : npP r = npA (sgn r).2 (sgn r).1 := rfl
  have hc := np_cases (sgn r).2 fun t ht => (ok t (hm t ht)).1
  have hf : ∀ fr σ, NpF r g b (sgn r).2 fr σ → _ := fun fr σ => id
  revert hf
  generalize sgn r = pn at *
  obtain ⟨p, neg⟩ := pn
  intro hf
  refine ifR_d (fun K h => otk_eq h) (fun h => absurd h (quo_not fun t ht => (ok t (hm t ht)).2).2.2) fun _ => ?_
  refine (c_quantity S g (n + 3) p.tail (b + brc1 p) (rd1 p).2.1 (rd1 p).2.2).to ?_
  refine ifR_cut (NpF r g b neg) (fun N' h => ?_) ?_
  · rcases hc with ⟨q, rfl⟩ | ⟨q, rfl⟩ | ⟨h1, e⟩
    · exact ifR_f (fun K h => h) ((c_lowered S _ (n + 3) 0 7 (.inl rfl)).to (h _ _ ⟨7, true, q, _, _, _, hnp, rfl, by rw [show b + brc1 ((0, 0) :: q) = b from Int.add_zero b]; rfl⟩))
    · exact ifR_f (fun K h => h) ((c_lowered S _ (n + 3) 1 300 (.inr rfl)).to (h _ _ ⟨300, true, q, _, _, _, hnp, rfl, by rw [show b + brc1 ((0, 1) :: q) = b from Int.add_zero b]; rfl⟩))
    · rw [if_neg h1]
      rw [e] at hnp
      refine ifR_t (fun K h => h) ((c_written_number S g (n + 1) p b (Nat.le_trans hlen hl) fun t ht => (ok t (hm t ht)).2).to ?_ ?_)
      · rintro v g' ⟨x, q, hd, hw, rfl, rfl⟩
        rw [if_pos hd, hw] at hnp
        exact h _ _ ⟨x, false, q, _, _, _, hnp, rfl, rfl⟩
      · rintro c ⟨rfl, hz⟩
        refine ⟨rfl, hnp.trans ?_⟩
        rcases hz with hz | hz
        · rw [if_neg (Bool.eq_false_iff.mp hz)]
        · rw [hz]
          by_cases hd : startsDig p = true
          · rw [if_pos hd]; rfl
          · rw [if_neg hd]
  · rintro _ _ ⟨x, i, q, w0, w1, w6, e, rfl, rfl⟩
    cases neg <;> exact ⟨_, i, q, e, rfl, rfl⟩
theorem c_number (r : List Tk) (b : Int) (hl : r.length < 100000) (ok : ∀ t ∈ r, TokOk t ∧ TokQ t) : SCR (S.lv (n + 6)) 407 [.src] { g with src := some (r, b) }
    (fun v g' => ∃ x q, numP r = some (x, q) ∧ v = .d (.int x) ∧ g' = { g with src := some (q, b) }) (fun c => c = 84 ∧ numP r = none) := by
  refine SCR.of (S := S.lv (n+5)) 15 ["source"] 3 rfl rfl (fun _ _ _ _ _ _ _ _ => fa1 fun a => BindsTo.of_eq rfl) (by decide +kernel) rfl rfl (.cons (SSR.asgPR 4 14 (NmE.cons (i := 1) rfl (NmE.cons (i := 2) rfl (NmE.cons (i := 3) rfl .nil))) rfl rfl (.cons (SE.loc 0 rfl) .nil))
 (.cons (SSR.plain (SS.ifs (SE.and (SE.cmp (SE.loc 3 rfl) SE.nul) (SE.one (SE.cmp (SE.ix (SE.loc 3 rfl) SE.int) (SE.glob 5 2 rfl rfl)))) (.cons (SS.exp (SE.call 6 2 rfl rfl (.cons (SE.loc 0 rfl) (.cons (SE.loc 3 rfl) .nil))))
 .nil) .nil))
 (.cons (SSR.plain (SS.ret (SE.loc 1 rfl)))
 .nil))) ?_
  refine (c_number_parts S g n r b (Nat.le_of_lt hl) ok).to ?_ ?_
  · rintro v g' ⟨x, i, q, hn, rfl, rfl⟩
    obtain ⟨hm, hq, _⟩ := npP_mem hn
    have e : numP r = some (x, if i = true then q else optB q) := congrArg (Option.map _) hn
    cases i with
    | true => exact ifs_f (fun K h => h) ⟨x, q, e, rfl, rfl⟩
    | false =>
      cases q with
      | nil => exact ifs_t (fun K h => h) ((c_unread_rd S g (n + 1) [] b (Nat.zero_le _) nofun).to ⟨x, [], e, rfl, rfl⟩)
      | cons t q =>
        obtain ⟨c, v, e0, e1, _⟩ := rd_cases t q
        have hu := c_unread_rd S g (n + 1) (t :: q) b (Nat.le_trans hq (Nat.le_of_lt hl)) fun u hu => (ok u (hm u hu)).1
        rw [e0] at hu
        show SL.cons _ _ [_, _, _, some (.d (fnd (rd1 (t :: q))))] _ _ _
        rw [e0]
        refine ifs_n (fun K h => h) (fun h => hu.to ⟨x, t :: q, ?_, rfl, rfl⟩) fun h => ⟨x, q, ?_, rfl, ?_⟩
        · rw [e]; exact congrArg (fun y => some (x, y)) (if_neg (of_decide_eq_false (e1.symm.trans (decide_eq_false h))))
        · rw [e]; exact congrArg (fun y => some (x, y)) (if_pos (of_decide_eq_true (e1.symm.trans (decide_eq_true h))))
        · have h2 : t.1 = 10 := of_decide_eq_true (e1.symm.trans (decide_eq_true h))
          show afterP g (t :: q) b = _
          rw [afterP, show brc1 (t :: q) = 0 by rw [brc1, brc, h2]; rfl, Int.add_zero]; rfl
  · rintro c ⟨rfl, h⟩
    exact ⟨rfl, congrArg (Option.map _) h⟩
theorem c_small (top : Int) (r : List Tk) (b : Int) (hl : r.length < 100000) (ok : ∀ t ∈ r, TokOk t ∧ TokQ t) : SCR (S.lv (n + 7)) 414 [.src, .d (.int top)] { g with src := some (r, b) }
    (fun v g' => ∃ x q, smallP r top = some (x, q) ∧ v = .d (.int x) ∧ g' = { g with src := some (q, b) }) (fun c => c = 84 ∧ smallP r top = none) := by
  refine SCR.of (S := S.lv (n+6)) 16 ["source", "top"] 1 rfl rfl (fun _ _ _ _ _ _ _ _ => fa2 fun a b => BindsTo.of_eq rfl) (by decide +kernel) rfl rfl (.cons (SSR.asgR 2 3 15 rfl rfl rfl (.cons (SE.loc 0 rfl) .nil))
 (.cons (SSR.ifs (SE.not (SE.cmp2 SE.int (SE.loc 2 rfl) (SE.loc 1 rfl))) (.cons (SSR.raise 4 rfl S.G.L.pc84 S.bad84)
 .nil) .nil)
 (.cons (SSR.plain (SS.ret (SE.loc 2 rfl)))
 .nil))) ?_
  refine (c_number S g n r b hl ok).to ?_ ?_
  · rintro v g' ⟨x, q, hn, rfl, rfl⟩
    have e : smallP r top = if 0 ≤ x ∧ x ≤ top then some (x, q) else none := congrArg (Option.bind · _) hn
    refine ifR_v _ (fun K h => br_and (K := fun a σ => isB a fun b => K (.d (.bool (!b))) σ) h) (fun h => ⟨rfl, rfl, ?_⟩) fun h => ⟨x, q, ?_, rfl, rfl⟩
    · rw [e, if_neg]
      rintro ⟨a, b⟩
      rw [decide_eq_true a, decide_eq_true b] at h
      exact nomatch h
    · have h := and2 ((Bool.not_not _).symm.trans (congrArg _ h))
      rw [e, if_pos ⟨of_decide_eq_true h.1, of_decide_eq_true h.2⟩]
  · rintro c ⟨rfl, h⟩
    exact ⟨rfl, congrArg (Option.bind · _) h⟩
end
end Mine
/-! ## T8 -/
namespace Mine
open PySem PySem.W PySem.Calls PyProof.Rows
section
variable {K : PyData → Prop} {r : List Tk} {j k : Nat} {t : Tk}
theorem ix_tk (h : r[k]? = some t) (hk : k < 1000000000) (q : K (tkd t)) : ixL (r.map tkd) (k : Int) K :=
  ixL_of (Int.natCast_nonneg _) (Int.ofNat_lt.mpr hk) (by rw [Int.toNat_natCast, List.getElem?_map, h]; rfl) q
theorem drop_none (h : r[j]? = none) : r.drop j = [] := List.drop_eq_nil_iff.mpr (List.getElem?_eq_none_iff.mp h)
theorem drop_some (h : r[j]? = some t) : r.drop j = t :: r.drop (j + 1) := by
  obtain ⟨hlt, e⟩ := List.getElem?_eq_some_iff.mp h
  rw [List.drop_eq_getElem_cons hlt, e]
theorem some_lt (h : r[j]? = some t) : j < r.length := (List.getElem?_eq_some_iff.mp h).1
theorem len_ge (h : r[j]? = none) : ((r.map tkd).length : Int) ≤ j := by rw [List.length_map]; exact Int.ofNat_le.mpr (List.getElem?_eq_none_iff.mp h)
theorem len_lt (h : r[j]? = some t) : (j : Int) < (r.map tkd).length := by rw [List.length_map]; exact Int.ofNat_lt.mpr (some_lt h)
theorem len_small (h : r.length < 100000) : (r.map tkd).length < 1000000000 := by rw [List.length_map]; omega
end
noncomputable def stockL : List Tk := [(10, 32), (11, 116), (11, 111), (12, 112), (11, 80), (12, 61), (12, 43), (12, 45), (12, 49), (12, 50), (1, 123), (2, 125), (0, 0), (0, 1), (0, 5), (13, 116), (8, 84), (12, 108), (11, 117), (11, 83), (10, 32), (12, 48)]
noncomputable def wordsL : List Str := ["to", "plus", "pt", "p", "too", "l", "spto"]
noncomputable def POk (p : Int × Int) : Prop := 0 ≤ p.1 ∧ 0 ≤ p.2 ∧ p.2 < 2147483648
theorem rd_triple {a b : Int} {r : List Tk} (ok : TokOk (a, b)) : (decide (a = 0) && decide (b < 2)) = decide (a = 0 ∧ (b = 0 ∨ b = 1)) := by
  obtain ⟨_, h1, _⟩ := ok
  simp only at h1
  rw [Bool.eq_iff_iff, Bool.and_eq_true, decide_eq_true_iff, decide_eq_true_iff, decide_eq_true_iff]
  omega
section
variable (S : Stat) (g : Gs) (n : Nat)
theorem c_stock : SC (S.lv (n + 1)) 492 [] g (fun v g' => v = .d (.list (stockL.map tkd)) ∧ g' = g) := by
  refine SC.of (S := S.lv (n)) 17 [] 0 rfl rfl (fun _ _ _ _ _ _ _ _ => fa0 (BindsTo.of_eq rfl)) (by decide +kernel) rfl rfl (.cons (SS.ret (SE.lst (.cons (SE.tup (.cons SE.int (.cons SE.int .nil))) (.cons (SE.tup (.cons SE.int (.cons SE.int .nil))) (.cons (SE.tup (.cons SE.int (.cons SE.int .nil))) (.cons (SE.tup (.cons SE.int (.cons SE.int .nil))) (.cons (SE.tup (.cons SE.int (.cons SE.int .nil))) (.cons (SE.tup (.cons SE.int (.cons SE.int .nil))) (.cons (SE.tup (.cons SE.int (.cons SE.int .nil))) (.cons (SE.tup (.cons SE.int (.cons SE.int .nil))) (.cons (SE.tup (.cons SE.int (.cons SE.int .nil))) (.cons (SE.tup (.cons SE.int (.cons SE.int .nil))) (.cons (SE.tup (.cons SE.int (.cons SE.int .nil))) (.cons (SE.tup (.cons SE.int (.cons SE.int .nil))) (.cons (SE.tup (.cons SE.int (.cons SE.int .nil))) (.cons (SE.tup (.cons SE.int (.cons SE.int .nil))) (.cons (SE.tup (.cons SE.int (.cons SE.int .nil))) (.cons (SE.tup (.cons SE.int (.cons SE.int .nil))) (.cons (SE.tup (.cons SE.int (.cons SE.int .nil))) (.cons (SE.tup (.cons SE.int (.cons SE.int .nil))) (.cons (SE.tup (.cons SE.int (.cons SE.int .nil))) (.cons (SE.tup (.cons SE.int (.cons SE.int .nil))) (.cons (SE.tup (.cons SE.int (.cons SE.int .nil))) (.cons (SE.tup (.cons SE.int (.cons SE.int .nil))) .nil))))))))))))))))))))))))
 .nil) ?_
  exact ⟨rfl, rfl⟩
theorem c_words : SC (S.lv (n + 1)) 499 [] g (fun v g' => v = .d (.list (wordsL.map .str)) ∧ g' = g) := by
  refine SC.of (S := S.lv (n)) 18 [] 0 rfl rfl (fun _ _ _ _ _ _ _ _ => fa0 (BindsTo.of_eq rfl)) (by decide +kernel) rfl rfl (.cons (SS.ret (SE.lst (.cons SE.str (.cons SE.str (.cons SE.str (.cons SE.str (.cons SE.str (.cons SE.str (.cons SE.str .nil)))))))))
 .nil) ?_
  exact ⟨rfl, rfl⟩
theorem c_take (m : Int) (hm : 0 < m) (p : Int × Int) (hp : POk p) : SC (S.lv (n + 1)) 513 [.pool, .d (.int m)] { g with pool := some p }
    (fun v g' => ∃ x p', 0 ≤ x ∧ x < m ∧ POk p' ∧ v = .d (.int x) ∧ g' = { g with pool := some p' }) := by
  refine SC.of (S := S.lv (n)) 20 ["pool", "many"] 1 rfl rfl (fun _ _ _ _ _ _ _ _ => fa2 fun a b => BindsTo.of_eq rfl) (by decide +kernel) rfl rfl (.cons (SS.ifs (SE.cmp (SE.ix (SE.loc 0 rfl) SE.int) SE.int) (.cons (SS.asg 2 rfl (SE.bin (SE.ix (SE.loc 0 rfl) SE.int) SE.int))
 (.cons (SS.setIx 0 0 rfl (SE.bin (SE.ix (SE.loc 0 rfl) SE.int) SE.int) rfl)
 (.cons (SS.ret (SE.bin (SE.loc 2 rfl) (SE.loc 1 rfl)))
 .nil))) .nil)
 (.cons (SS.setIx 0 1 rfl (SE.bin (SE.bin (SE.bin (SE.ix (SE.loc 0 rfl) SE.int) SE.int) SE.int) SE.int) rfl)
 (.cons (SS.ret (SE.bin (SE.bin (SE.ix (SE.loc 0 rfl) SE.int) SE.int) (SE.loc 1 rfl)))
 .nil))) ?_
  obtain ⟨p0, p1⟩ := p
  obtain ⟨h1, h2, h3⟩ := hp
  simp only at h1 h2 h3
  have hm' : m ≠ 0 := Int.ne_of_gt hm
  refine ifs_d (fun K h => h) (fun h => ⟨by decide, ⟨by decide, by decide⟩, hm', ?_⟩) fun h => ⟨.inr (.inl (by decide)), by decide, ⟨⟨by decide, by decide⟩, hm', ?_⟩⟩
  · refine ⟨_, (p0.fdiv 100, p1), Int.fmod_nonneg_of_pos _ hm, Int.fmod_lt_of_pos _ hm, ⟨?_, h2, h3⟩, rfl, rfl⟩
    show 0 ≤ p0.fdiv 100
    rw [Int.fdiv_eq_ediv_of_nonneg _ (by decide)]; exact Int.ediv_nonneg h1 (by decide)
  · exact ⟨_, (p0, (p1 * 48271 + 11).fmod 2147483647), Int.fmod_nonneg_of_pos _ hm, Int.fmod_lt_of_pos _ hm, ⟨h1, Int.fmod_nonneg_of_pos _ (by decide), Int.lt_trans (Int.fmod_lt_of_pos _ (by decide)) (by decide)⟩, rfl, rfl⟩
theorem c_triple (r : List Tk) (i : Nat) (hl : r.length < 100000) (hi : i ≤ r.length) (ok : ∀ t ∈ r, TokOk t) : SC (S.lv (n + 1)) 525 [.d (.list (r.map tkd)), .d (.int i)] g (fun v g' => v = .d (fnd (rd1 (r.drop i))) ∧ g' = g) := by
  refine SC.of (S := S.lv (n)) 22 ["rest", "at"] 2 rfl rfl (fun _ _ _ _ _ _ _ _ => fa2 fun a b => BindsTo.of_eq rfl) (by decide +kernel) rfl rfl (.cons (SS.ifs (SE.cmp (SE.loc 1 rfl) (SE.bi 4 0 rfl rfl (.cons (SE.loc 0 rfl) .nil))) (.cons (SS.ret (SE.tup (.cons SE.nul (.cons (SE.glob 5 5 rfl rfl) (.cons SE.int .nil)))))
 .nil) .nil)
 (.cons (SS.asgP (NmE.cons (i := 2) rfl (NmE.cons (i := 3) rfl .nil)) (SE.ix (SE.loc 0 rfl) (SE.loc 1 rfl)))
 (.cons (SS.ifs (SE.and (SE.cmp (SE.loc 2 rfl) SE.int) (SE.one (SE.cmp (SE.loc 3 rfl) SE.int))) (.cons (SS.ret (SE.tup (.cons (SE.ix (SE.loc 0 rfl) (SE.loc 1 rfl)) (.cons (SE.glob 6 3 rfl rfl) (.cons (SE.loc 3 rfl) .nil)))))
 .nil) .nil)
 (.cons (SS.ret (SE.ife (SE.or (SE.cmp (SE.loc 2 rfl) SE.int) (SE.one (SE.cmp (SE.loc 2 rfl) SE.int))) (SE.tup (.cons (SE.ix (SE.loc 0 rfl) (SE.loc 1 rfl)) (.cons (SE.glob 7 0 rfl rfl) (.cons (SE.glob 8 4 rfl rfl) .nil)))) (SE.tup (.cons (SE.ix (SE.loc 0 rfl) (SE.loc 1 rfl)) (.cons (SE.loc 2 rfl) (.cons (SE.loc 3 rfl) .nil))))))
 .nil)))) ?_
  rcases hri : r[i]? with _ | t
  · rw [drop_none hri]
    exact ifs_d (fun K h => grd_lt (len_small hl) h) (fun _ => ⟨rfl, rfl⟩) fun h => absurd (len_ge hri) h
  · have ix : ∀ {K : PyData → Prop}, K (tkd t) → ixL (r.map tkd) (i : Int) K := fun q => ix_tk hri (by omega) q
    have ht := ok t (List.mem_of_getElem? hri)
    rw [drop_some hri]
    have hlt := len_lt hri
    obtain ⟨a, b⟩ := t
    refine ifs_d (fun K h => grd_lt (len_small hl) h) (fun h => absurd hlt (Int.not_lt.mpr h)) fun _ => ix (ifs_v _ (val_and (fun K h => h) fun _ K h => h) (fun h1 => ix ⟨fnd_eq (x := (some (a, b), 77, b)) (if_pos ?_), rfl⟩) fun h1 => nil_go (ret_ife (val_or (fun K h => h) fun _ K h => h) (fun h2 => ix ⟨fnd_eq (x := (some (a, b), 0, 256)) ((if_neg ?_).trans (if_pos ?_)), rfl⟩) fun h2 => ix ⟨fnd_eq (x := (some (a, b), a, b)) ((if_neg ?_).trans (if_neg ?_)), rfl⟩))
    · rw [rd_triple (r := r) ht] at h1; exact of_decide_eq_true h1
    · rw [rd_triple (r := r) ht] at h1; exact of_decide_eq_false h1
    · simpa using h2
    · rw [rd_triple (r := r) ht] at h1; exact of_decide_eq_false h1
    · simpa using h2
inductive Pst (f : Bool) (g : Gs) (r : List Tk) (i : Nat) (k : Nat) (fr : Fr') (σ : Sto) : Prop
  | mk (j : Nat) : k = r.length - j → i ≤ j → j ≤ r.length → past f (r.drop j) = past f (r.drop i) → fr = [some (.d (.list (r.map tkd))), some (.d (.int j)), some (.d (.bool f))] → σ = ⟨g, none⟩ → Pst f g r i k fr σ
theorem c_past (f : Bool) (r : List Tk) (i : Nat) (hl : r.length < 100000) (hi : i ≤ r.length) (ok : ∀ t ∈ r, TokOk t) : SC (S.lv (n + 2)) 532 [.d (.list (r.map tkd)), .d (.int i), .d (.bool f)] g
    (fun v g' => ∃ j : Nat, v = .d (.int j) ∧ i ≤ j ∧ j ≤ r.length ∧ r.drop j = past f (r.drop i) ∧ g' = g) := by
  refine SC.of (S := S.lv (n+1)) 23 ["rest", "at", "is_filler"] 0 rfl rfl (fun _ _ _ _ _ _ _ _ => fa3 fun a b c => BindsTo.of_eq rfl) (by decide +kernel) rfl rfl (.cons (SS.whl (SE.and (SE.cmp (SE.loc 1 rfl) (SE.bi 3 0 rfl rfl (.cons (SE.loc 0 rfl) .nil))) (SE.one (SE.or (SE.cmp (SE.ix (SE.ix (SE.loc 0 rfl) (SE.loc 1 rfl)) SE.int) SE.int) (SE.one (SE.and (SE.loc 2 rfl) (SE.one (SE.cmp (SE.ix (SE.call 4 22 rfl rfl (.cons (SE.loc 0 rfl) (.cons (SE.loc 1 rfl) .nil))) SE.int) (SE.glob 5 0 rfl rfl)))))))) (.cons (SS.asg 1 rfl (SE.bin (SE.loc 1 rfl) SE.int))
 .nil))
 (.cons (SS.ret (SE.loc 1 rfl))
 .nil)) ?_
  refine whl_go (Pst f g r i) (r.length - i) ⟨i, rfl, Nat.le_refl _, hi, rfl, rfl, rfl⟩ ?_
  rintro _ _ _ ⟨j, rfl, hij, hjl, hp, rfl, rfl⟩
  rcases hri : r[j]? with _ | t
  · refine val_and (u := false) (v := false) (σ' := ⟨g, none⟩) (.no (Int.not_lt.mpr (len_ge hri)) fun K h => grd_lt (len_small hl) h) (fun h => nomatch h) _ ⟨j, rfl, hij, hjl, ?_, rfl⟩
    · rw [← hp, drop_none hri]; rfl
  · obtain ⟨c, v, e0, e1, e2⟩ := rd_cases t (r.drop (j + 1))
    have ct := c_triple S g n r j hl hjl ok
    rw [drop_some hri, e0] at ct
    have hlt := some_lt hri
    rw [drop_some hri] at hp
    refine val_and (u := true) (v := skips f t) (σ' := ⟨g, none⟩) (.yes (len_lt hri) fun K h => grd_lt (len_small hl) h) (fun _ => val_or (u := decide (t.1 = 10)) (fun K h => ix_tk hri (by omega) h) fun _ => val_and (u := f) (fun K h => h) fun _ K h => ct.to ?_) _ (br_of (fun h1 => ?_) fun h1 => ?_)
    · rw [← e2] at h; exact h
    · rw [show past f (t :: r.drop (j + 1)) = past f (r.drop (j + 1)) from if_pos h1] at hp
      exact ⟨_, Nat.sub_lt_sub_left hlt (Nat.lt_succ_self _), j + 1, rfl, Nat.le_succ_of_le hij, hlt, hp, rfl, rfl⟩
    · rw [show past f (t :: r.drop (j + 1)) = t :: r.drop (j + 1) from if_neg (Bool.eq_false_iff.mp h1)] at hp
      exact ⟨j, rfl, hij, hjl, by rw [drop_some hri]; exact hp, rfl⟩
end
end Mine
/-! ## T9 -/
namespace Mine
open PySem PySem.W PySem.Calls PyProof.Rows
theorem prs_tk {K : List (List PyData) → Prop} (r : List Tk) (h : K (r.map fun t => [.int t.1, .int t.2])) : pairs (r.map tkd) K := by
  induction r generalizing K with
  | nil => exact h
  | cons t r ih => exact ih h
theorem cnt_aux (c : Int) {base : Fr'} {Q : List PyData → Sto → Prop} {σ : Sto} (hb : base = [none, none, none]) : ∀ (l : List Tk) (acc : List PyData), Q (acc ++ (l.filter fun t => decide (t.1 = c)).map fun _ => .int 1) σ →
    compGo (turnW base [1, 2] (some (.cmp .Eq (.loc 1) (.c (.int c)))) (.c (.int 1))) Q (l.map fun t => [.int t.1, .int t.2]) acc σ := by
  subst hb
  intro l
  induction l with
  | nil => intro acc q; rw [List.filter_nil, List.map_nil, List.append_nil] at q; exact q
  | cons t l ih =>
    intro acc q
    rw [List.filter_cons] at q
    refine brd (fun h => ih _ ?_) fun h => ih _ ?_
    · rw [decide_eq_true h, if_pos rfl, List.map_cons] at q
      rw [List.append_assoc]; exact q
    · rw [decide_eq_false h, if_neg (by decide)] at q; exact q
theorem brS_cnt (r : List Tk) : brS r = ((r.filter fun t => decide (t.1 = 1)).length : Int) - ((r.filter fun t => decide (t.1 = 2)).length : Int) := by
  induction r with
  | nil => rfl
  | cons t r ih =>
    rw [brS, ih]
    have hf : ∀ c : Int, (((t :: r).filter fun t => decide (t.1 = c)).length : Int) = (if t.1 = c then 1 else 0) + ((r.filter fun t => decide (t.1 = c)).length : Int) := fun c => by
      rw [List.filter_cons]
      by_cases h : t.1 = c
      · rw [decide_eq_true h, if_pos rfl, if_pos h, List.length_cons]; omega
      · rw [decide_eq_false h, if_neg (by decide), if_neg h, Int.zero_add]
    rw [hf, hf, brc]
    by_cases h1 : t.1 = 1
    · rw [if_pos h1, if_pos h1, if_neg (by rw [h1]; decide)]; omega
    · rw [if_neg h1, if_neg h1]
      by_cases h2 : t.1 = 2
      · rw [if_pos h2, if_pos h2]; omega
      · rw [if_neg h2, if_neg h2]; omega
section
variable (S : Stat) (g : Gs) (n : Nat)
theorem c_braces (r : List Tk) (hl : r.length < 100000) : SC (S.lv (n + 1)) 568 [.d (.list (r.map tkd))] g (fun v g' => v = .d (.int (brS r)) ∧ g' = g) := by
  refine SC.of (S := S.lv (n)) 29 ["row"] 0 rfl rfl (fun _ _ _ _ _ _ _ _ => fa1 fun a => BindsTo.of_eq rfl) (by decide +kernel) rfl rfl (.cons (SS.ret (SE.bin (SE.bi 1 0 rfl rfl (.cons (SE.compX (CompOk.free (by decide +kernel) rfl (by decide +kernel) (by decide +kernel)) (SrcE.pairs (SE.loc 0 rfl) (NmE.cons (i := 1) rfl (NmE.cons (i := 2) rfl .nil)) rfl) (.one (SE.cmp (SE.loc 1 rfl) SE.int)) SE.int) .nil)) (SE.bi 1 0 rfl rfl (.cons (SE.compX (CompOk.free (by decide +kernel) rfl (by decide +kernel) (by decide +kernel)) (SrcE.pairs (SE.loc 0 rfl) (NmE.cons (i := 1) rfl (NmE.cons (i := 2) rfl .nil)) rfl) (.one (SE.cmp (SE.loc 1 rfl) SE.int)) SE.int) .nil))))
 .nil) ?_
  have hf : ∀ p : Tk → Bool, (r.filter p).length < 1000000000 := fun p => by have := List.length_filter_le p r; omega
  refine prs_tk r ⟨by rw [List.length_map]; omega, cnt_aux 1 rfl r [] (grd_lt (by rw [List.nil_append, List.length_map]; exact hf _) (prs_tk r ⟨by rw [List.length_map]; omega, cnt_aux 2 rfl r [] (grd_lt (by rw [List.nil_append, List.length_map]; exact hf _) ⟨?_, rfl⟩)⟩))⟩
  rw [List.nil_append, List.nil_append, List.length_map, List.length_map, brS_cnt]
end
end Mine
/-! ## TA -/
namespace Mine
open PySem PySem.W PySem.Calls PyProof.Rows
theorem tok_in {t : Tk} : ([(12, 43), (12, 45)] : List Tk).any (fun u => PyData.eqv (tkd u) (tkd t)) = (decide (t = (12, 43)) || decide (t = (12, 45))) := by
  rw [List.any_cons, List.any_cons, List.any_nil, Bool.or_false, eqv_tk, eqv_tk]
  rw [show decide (((12, 43) : Tk) = t) = decide (t = (12, 43)) from decide_eq_decide.mpr eq_comm, show decide (((12, 45) : Tk) = t) = decide (t = (12, 45)) from decide_eq_decide.mpr eq_comm]
theorem shaped_tk (t : Tk) : SeqAt.shaped (tkd t) = true := rfl
theorem tk_eq {t : Tk} {a b : Int} {K : Bool → Prop} (h : K (decide (t = (a, b)))) : eqD (tkd t) (tk2 a b) K := tup_eq (ds := [.int a, .int b]) ⟨⟨rfl, rfl⟩, (eqv_tk t (a, b)).symm ▸ h⟩
theorem par_flip {m : Int} : decide ((m + 1) % 2 = 1) = !decide (m % 2 = 1) := by
  by_cases h : m % 2 = 1
  · rw [decide_eq_true h]; exact decide_eq_false (by omega)
  · rw [decide_eq_false h]; exact decide_eq_true (by omega)
section
variable (S : Stat) (g : Gs) (n : Nat)
inductive Sgd (g : Gs) (r : List Tk) (k : Nat) (fr : Fr') (σ : Sto) : Prop
  | mk (j : Nat) (m : Int) : k = r.length - j → j ≤ r.length → 0 ≤ m → sgAt (r.drop j) (decide (m % 2 = 1)) = sgn r → fr = [some (.d (.list (r.map tkd))), some (.d (.int j)), some (.d (.int m))] → σ = ⟨g, none⟩ → Sgd g r k fr σ
theorem sgd_end {r : List Tk} {g' : Gs} {j : Nat} {m : Int} (hj : j ≤ r.length) (e : sgn r = (r.drop j, decide (m % 2 = 1))) :
    SL.cons (SX.ret (X.tup (XL.cons (X.loc 1) (XL.cons (X.cmp CmpOp.Eq (X.bin Operator.Mod (X.loc 2) (X.c (PyData.int 2))) (X.c (PyData.int 1))) XL.nil)))) SL.nil [some (.d (.list (r.map tkd))), some (.d (.int j)), some (.d (.int m))] ⟨g', none⟩ (fun _ _ => True)
      (finR fun v g₂ => ∃ j : Nat, v = .d (.tuple [.int j, .bool (sgn r).2]) ∧ j ≤ r.length ∧ r.drop j = (sgn r).1 ∧ g₂ = g') :=
  ⟨by decide, j, by rw [e, Int.fmod_eq_emod_of_nonneg _ (by decide)], hj, by rw [e], rfl⟩
theorem c_signed (r : List Tk) (hl : r.length < 100000) (ok : ∀ t ∈ r, TokOk t) : SC (S.lv (n + 3)) 539 [.d (.list (r.map tkd))] g
    (fun v g' => ∃ j : Nat, v = .d (.tuple [.int j, .bool (sgn r).2]) ∧ j ≤ r.length ∧ r.drop j = (sgn r).1 ∧ g' = g) := by
  refine SC.of (S := S.lv (n+2)) 24 ["rest"] 2 rfl rfl (fun _ _ _ _ _ _ _ _ => fa1 fun a => BindsTo.of_eq rfl) (by decide +kernel) rfl rfl (.cons (SS.asgS (NmL.cons (i := 1) rfl (NmL.cons (i := 2) rfl .nil)) (SE.tup (.cons (SE.call 3 23 rfl rfl (.cons (SE.loc 0 rfl) (.cons SE.int (.cons SE.bool .nil)))) (.cons SE.int .nil))) (hw := fun env hk h => sws2 hk h rfl rfl rfl rfl rfl))
 (.cons (SS.whl (SE.and (SE.cmp (SE.loc 1 rfl) (SE.bi 4 0 rfl rfl (.cons (SE.loc 0 rfl) .nil))) (SE.one (SE.cmp (SE.ix (SE.loc 0 rfl) (SE.loc 1 rfl)) (SE.lst (.cons (SE.tup (.cons SE.int (.cons SE.int .nil))) (.cons (SE.tup (.cons SE.int (.cons SE.int .nil))) .nil)))))) (.cons (SS.asg 2 rfl (SE.bin (SE.loc 2 rfl) (SE.int_ 5 rfl (SE.cmp (SE.ix (SE.loc 0 rfl) (SE.loc 1 rfl)) (SE.tup (.cons SE.int (.cons SE.int .nil)))))))
 (.cons (SS.asg 1 rfl (SE.call 3 23 rfl rfl (.cons (SE.loc 0 rfl) (.cons (SE.bin (SE.loc 1 rfl) SE.int) (.cons SE.bool .nil)))))
 .nil)))
 (.cons (SS.ret (SE.tup (.cons (SE.loc 1 rfl) (.cons (SE.cmp (SE.bin (SE.loc 2 rfl) SE.int) SE.int) .nil))))
 .nil))) ?_
  refine (c_past S g n false r 0 hl (Nat.zero_le _) ok).mono (Nat.le_refl _) ?_
  rintro v g' ⟨j0, rfl, h0, h1, h2, rfl⟩
  refine whl_go (Sgd g' r) (r.length - j0) ⟨j0, 0, rfl, h1, Int.le_refl _, by rw [h2]; exact (sg_at r false).symm, rfl, rfl⟩ ?_
  rintro _ _ _ ⟨j, m, rfl, hj, hm, hs, rfl, rfl⟩
  rcases hri : r[j]? with _ | t
  · refine val_and (u := false) (v := false) (σ' := ⟨g', none⟩) (.no (Int.not_lt.mpr (len_ge hri)) fun K h => grd_lt (len_small hl) h) (fun h => nomatch h) _ ?_
    rw [drop_none hri] at hs
    exact sgd_end hj (hs.symm.trans (by rw [drop_none hri]; rfl))
  · have hlt := some_lt hri
    rw [drop_some hri] at hs
    refine val_and (u := true) (σ' := ⟨g', none⟩) (.yes (len_lt hri) fun K h => grd_lt (len_small hl) h) (fun _ K h => ix_tk hri (by omega) ⟨⟨shaped_tk _, rfl⟩, tok_in.symm ▸ h⟩) _ (br_of (fun h1 => ?_) fun h1 => ?_)
    · refine ix_tk hri (by omega) ⟨⟨rfl, rfl⟩, ?_⟩
      rw [show PyData.eqv (tkd t) (.tuple [.int 12, .int 45]) = decide (t = (12, 45)) from eqv_tk t (12, 45)]
      refine (c_past S g' n false r (j + 1) hl hlt ok).mono (Nat.le_refl _) ?_
      rintro v g ⟨j', rfl, hj1, hj2, hj3, rfl⟩
      refine ⟨r.length - j', Nat.sub_lt_sub_left hlt hj1, j', m + (if decide (t = (12, 45)) = true then 1 else 0), rfl, hj2, Int.add_nonneg hm (by split <;> decide), ?_, rfl, rfl⟩
      rw [hj3, ← sg_at, ← hs]
      rcases (Bool.or_eq_true ..).mp h1 with h | h
      · rw [of_decide_eq_true h, show ((m : Int) + if decide (((12, 43) : Tk) = (12, 45)) = true then 1 else 0) = m from Int.add_zero m]; rfl
      · rw [of_decide_eq_true h, show ((m : Int) + if decide (((12, 45) : Tk) = (12, 45)) = true then 1 else 0) = m + 1 from rfl, par_flip]; rfl
    · refine sgd_end hj (hs.symm.trans ?_)
      have h := (Bool.or_eq_false_iff ..).mp h1
      rw [drop_some hri]
      exact (if_neg (of_decide_eq_false h.1)).trans (if_neg (of_decide_eq_false h.2))
end
end Mine
/-! ## TB -/
namespace Mine
open PySem PySem.W PySem.Calls PyProof.Rows
theorem swc {env : Env} {n : Str} {np pos : Pos} {elt : Expr} {gens : List Comprehension} {scope : Scope} {line : Nat} (hk : env.scope.kind = .function) (h : env.kindOf n = some .local) (hl : (np.line == pos.line) = true) (hn : (scope.names.any fun (x, k) => x == n && (k == .local || k == .cell)) = false) :
    swapsWith (.ListComp elt gens scope pos) (some (.Name n np)) line env = pure true := by
  have hb : env.blockKind = .function := by unfold Env.blockKind; rw [hk]; rfl
  show (pure (env.blockKind == .function && env.kindOf n == some .local && np.line == pos.line && !(scope.names.any fun (x, k) => x == n && (k == .local || k == .cell))) : Sem Bool) = pure true
  rw [hb, h, hl, hn]; rfl
/-! ## a word stands -/
noncomputable def lowC (c : Int) : Int := if 65 ≤ c ∧ c ≤ 90 then c + 32 else c
noncomputable def standsP (s : List Tk) (wd : List Nat) : Bool := decide (((s.take wd.length).filter fun t => decide (1 ≤ t.1) && decide (t.1 ≤ 12)).map (fun t => lowC t.2) = wd.map Int.ofNat)
theorem shaped_ints (l : List Int) : SeqAt.shaped (.list (l.map .int)) = true := by
  have : PyData.canLayAll0 (l.map .int) = true ∧ PyData.depthAll (l.map .int) ≤ 1 := by
    induction l with
    | nil => exact ⟨rfl, by decide⟩
    | cons t r ih => exact ⟨ih.1, Nat.max_le.mpr ⟨Nat.zero_le _, ih.2⟩⟩
  obtain ⟨h1, h2⟩ := this
  simp [SeqAt.shaped, PyData.canLay0, h1, PyData.depth]
  omega
theorem eqv_ints (l m : List Int) : PyData.eqv (.list (l.map .int)) (.list (m.map .int)) = decide (l = m) := by
  show PyData.eqvAll (l.map .int) (m.map .int) = decide (l = m)
  induction l generalizing m with
  | nil => cases m <;> rfl
  | cons a l ih =>
    cases m with
    | nil => rfl
    | cons b m =>
      show (PyData.eqv (.int a) (.int b) && PyData.eqvAll (l.map .int) (m.map .int)) = _
      rw [ih, eqv_int, ← Bool.decide_and]
      exact decide_eq_decide.mpr List.cons_eq_cons.symm
theorem st_aux {base : Fr'} {σ : Sto} {Q : List PyData → Sto → Prop} (hb : base = [none, none, none]) : ∀ (l : List Tk) (acc : List PyData), Q (acc ++ ((l.filter fun t => decide (1 ≤ t.1) && decide (t.1 ≤ 12)).map fun t => .int (lowC t.2))) σ →
    compGo (turnW base [1, 2] (some (.cmp2 .LtE .LtE (.c (.int 1)) (.loc 1) (.c (.int 12)))) (.ife (.cmp2 .LtE .LtE (.c (.int 65)) (.loc 2) (.c (.int 90))) (.bin .Add (.loc 2) (.c (.int 32))) (.loc 2))) Q (l.map fun t => [.int t.1, .int t.2]) acc σ := by
  subst hb
  intro l
  induction l with
  | nil => intro acc q; rw [List.filter_nil, List.map_nil, List.append_nil] at q; exact q
  | cons t l ih =>
    intro acc q
    rw [List.filter_cons] at q
    refine br_and (σ := σ) (K := fun a σ' => isB a fun r => br r _ _) (br_of (fun h => ?_) fun h => ih _ ?_)
    · rw [h, if_pos rfl, List.map_cons, lowC] at q
      refine br_and (σ := σ) (K := fun a σ' => isB a fun r => br r _ _) (br_of (fun h => ih _ ?_) fun h => ih _ ?_)
      · have h := and2 h
        rw [if_pos ⟨of_decide_eq_true h.1, of_decide_eq_true h.2⟩] at q
        rw [List.append_assoc]; exact q
      · rw [if_neg fun q => by rw [decide_eq_true q.1, decide_eq_true q.2] at h; exact nomatch h] at q
        rw [List.append_assoc]; exact q
    · rw [h, if_neg (by decide)] at q; exact q
theorem ch_aux {base : Fr'} {σ : Sto} {Q : List PyData → Sto → Prop} (hb : base = [none, none, none]) : ∀ (l : List Nat) (acc : List PyData), Q (acc ++ l.map fun c => .int (Int.ofNat c)) σ →
    compGo (turnW base [1] none (.bi .ord (.cons (.loc 1) .nil))) Q (l.map fun c => [.str ⟨#[c]⟩]) acc σ := by
  subst hb
  intro l
  induction l with
  | nil => intro acc q; rw [List.map_nil, List.append_nil] at q; exact q
  | cons c l ih =>
    intro acc q
    refine ⟨rfl, ih _ ?_⟩
    rw [List.append_assoc]; exact q
section
variable (S : Stat) (g : Gs) (n : Nat)
theorem c_stands (r : List Tk) (i : Nat) (wd : Array Nat) (hl : r.length < 100000) (hi : i ≤ r.length) (hw : wd.size < 1000) : SC (S.lv (n + 1)) 544 [.d (.list (r.map tkd)), .d (.int i), .d (.str ⟨wd⟩)] g
    (fun v g' => v = .d (.bool (standsP (r.drop i) wd.toList)) ∧ g' = g) := by
  refine SC.of (S := S.lv (n)) 25 ["rest", "at", "word"] 1 rfl rfl (fun _ _ _ _ _ _ _ _ => fa3 fun a b c => BindsTo.of_eq rfl) (by decide +kernel) rfl rfl (.cons (SS.asgC 3 rfl (CompOk.free (by decide +kernel) rfl (by decide +kernel) (by decide +kernel)) (SrcE.pairs (SE.slAB (SE.loc 0 rfl) (SE.loc 1 rfl) (SE.bin (SE.loc 1 rfl) (SE.bi 4 0 rfl rfl (.cons (SE.loc 2 rfl) .nil)))) (NmE.cons (i := 1) rfl (NmE.cons (i := 2) rfl .nil)) rfl) (.one (SE.cmp2 SE.int (SE.loc 1 rfl) SE.int)) (SE.ife (SE.cmp2 SE.int (SE.loc 2 rfl) SE.int) (SE.bin (SE.loc 2 rfl) SE.int) (SE.loc 2 rfl)) (hsw := fun env hk h => swc hk h rfl rfl))
 (.cons (SS.ret (SE.cmp (SE.loc 3 rfl) (SE.compX (CompOk.free (by decide +kernel) rfl (by decide +kernel) (by decide +kernel)) (SrcE.chars (iN := 1) (SE.loc 2 rfl) rfl) .none (SE.bi 2 2 rfl rfl (.cons (SE.loc 1 rfl) .nil)))))
 .nil)) ?_
  refine grd_lt (show wd.size < _ by omega) ⟨⟨Int.natCast_nonneg _, Int.add_nonneg (Int.natCast_nonneg _) (Int.natCast_nonneg _), by rw [List.length_map]; omega⟩, ?_⟩
  have e : List.drop (i : Int).toNat (List.take ((i : Int) + ((⟨wd⟩ : Str).length : Int)).toNat r) = (r.drop i).take wd.size := by
    rw [List.take_drop]; rfl
  rw [← List.map_take, ← List.map_drop, e]
  have hle : ((r.drop i).take wd.size).length ≤ wd.size := List.length_take_le _ _
  refine prs_tk _ ⟨by rw [List.length_map]; omega, st_aux rfl _ [] ?_⟩
  refine ⟨by rw [List.length_map, Array.length_toList]; exact Nat.le_trans (Nat.le_of_lt hw) (by decide), ch_aux rfl wd.toList [] ?_⟩
  rw [List.nil_append, List.nil_append, show ∀ L : List Tk, L.map (fun t => PyData.int (lowC t.2)) = (L.map fun t => lowC t.2).map .int from fun L => by rw [List.map_map]; rfl,
    show wd.toList.map (fun c => PyData.int (Int.ofNat c)) = (wd.toList.map Int.ofNat).map .int by rw [List.map_map]; rfl]
  refine ⟨⟨shaped_ints _, shaped_ints _⟩, ?_⟩
  rw [eqv_ints]
  exact ⟨by rw [standsP, Array.length_toList], rfl⟩
end
end Mine
/-! ## TC -/
namespace Mine
open PySem PySem.W PySem.Calls PyProof.Rows
/-! ## a small number -/
theorem foldl_snoc (l : List Tk) (v : Int) (t : Tk) : (l ++ [t]).foldl (fun a t => 10 * a + (t.2 - 48)) v = 10 * l.foldl (fun a t => 10 * a + (t.2 - 48)) v + (t.2 - 48) := by rw [List.foldl_append]; rfl
noncomputable def hv (v : Int) (l : List Tk) : Int := l.foldl (fun a t => 10 * a + (t.2 - 48)) v
theorem hv_snoc (v : Int) (l : List Tk) (t : Tk) : hv v (l ++ [t]) = 10 * hv v l + (t.2 - 48) := foldl_snoc l v t
theorem hv_ge (l : List Tk) : ∀ v : Int, 0 ≤ v → (∀ t ∈ l, dig t = true) → v ≤ hv v l := by
  induction l with
  | nil => exact fun v _ _ => Int.le_refl v
  | cons t l ih =>
    intro v h ok
    have hd := dig_at (ok t (.head _))
    have := ih (10 * v + (t.2 - 48)) (by omega) fun u hu => ok u (.tail _ hu)
    exact Int.le_trans (by omega) this
theorem tw_dig (p : List Tk) : ∀ u ∈ p.takeWhile dig, dig u = true := by
  induction p with
  | nil => exact nofun
  | cons t p ih =>
    rw [List.takeWhile_cons]
    cases ht : dig t with
    | true => exact List.forall_mem_cons.mpr ⟨ht, ih⟩
    | false => exact nofun
theorem wn_hv (p : List Tk) : ∀ v : Int, 0 ≤ v → (∀ x q, wn v p = some (x, q) → x = hv v (p.takeWhile dig) ∧ q = p.dropWhile dig) ∧ (wn v p = none → 2147483647 < hv v (p.takeWhile dig)) := by
  induction p with
  | nil => exact fun v _ => ⟨fun x q h => by cases h; exact ⟨rfl, rfl⟩, nofun⟩
  | cons t r ih =>
    intro v h
    rw [List.takeWhile_cons, List.dropWhile_cons]
    cases hd : dig t with
    | true =>
      rw [show wn v (t :: r) = if 2147483647 < 10 * v + (t.2 - 48) then none else wn (10 * v + (t.2 - 48)) r from if_pos hd]
      have hd' := dig_at hd
      have hge := hv_ge (r.takeWhile dig) (10 * v + (t.2 - 48)) (by omega) (tw_dig r)
      by_cases hm : 2147483647 < 10 * v + (t.2 - 48)
      · rw [if_pos hm]
        exact ⟨nofun, fun _ => Int.lt_of_lt_of_le hm hge⟩
      · rw [if_neg hm]
        exact ih _ (by omega)
    | false =>
      rw [show wn v (t :: r) = some (v, t :: r) from if_neg (Bool.eq_false_iff.mp hd)]
      exact ⟨fun x q h => by cases h; exact ⟨rfl, rfl⟩, nofun⟩
theorem tw_app {l s : List Tk} (h : ∀ t ∈ l, dig t = true) (hs : startsDig s = false) : (l ++ s).takeWhile dig = l ∧ (l ++ s).dropWhile dig = s := by
  induction l with
  | nil =>
    cases s with
    | nil => exact ⟨rfl, rfl⟩
    | cons t s =>
      have hs : dig t = false := hs
      rw [List.nil_append, List.takeWhile_cons, List.dropWhile_cons, hs]; exact ⟨rfl, rfl⟩
  | cons t l ih =>
    obtain ⟨a, b⟩ := ih fun u hu => h u (.tail _ hu)
    rw [List.cons_append, List.takeWhile_cons, List.dropWhile_cons, h t (.head _), if_pos rfl, if_pos rfl, a, b]
    exact ⟨rfl, rfl⟩
/-- the figures' sum, from the last -/
noncomputable def sumV : Nat → List Tk → List Int
  | _, [] => []
  | k, t :: m => (t.2 - 48) * 10 ^ k :: sumV (k + 1) m
theorem sum_hv (m : List Tk) : ∀ k : Nat, (sumV k m).sum = hv 0 m.reverse * 10 ^ k := by
  induction m with
  | nil => exact fun k => (Int.zero_mul _).symm
  | cons t m ih =>
    intro k
    rw [sumV, List.sum_cons, ih, List.reverse_cons, hv_snoc, Int.pow_succ, Int.add_mul, Int.mul_comm (10 ^ k) 10, ← Int.mul_assoc, Int.mul_comm _ 10, Int.add_comm]
theorem en_aux {base : Fr'} {σ : Sto} {Q : List PyData → Sto → Prop} (hb : base = [none, none, none]) : ∀ (l : List Tk) (k : Nat) (acc : List PyData), k + l.length ≤ 1000 → (∀ t ∈ l, dig t = true) → Q (acc ++ (sumV k l).map .int) σ →
    compGo (turnW base [1, 2] none (.bin .Mult (.bin .Sub (.ix (.loc 2) (.c (.int 1))) (.c (.int 48))) (.bin .Pow (.c (.int 10)) (.loc 1)))) Q (enums k (l.map tkd)) acc σ := by
  subst hb
  intro l
  induction l with
  | nil => intro k acc hk ok q; rw [sumV, List.map_nil, List.append_nil] at q; exact q
  | cons t l ih =>
    intro k acc hk ok q
    rw [List.length_cons] at hk
    have hd := dig_at (ok t (.head _))
    refine ⟨⟨Int.natCast_nonneg _, by omega, by decide⟩, .inl (by omega), ih (k + 1) _ (by omega) (fun u hu => ok u (.tail _ hu)) ?_⟩
    rw [sumV, List.map_cons] at q
    rw [List.append_assoc]; exact q
theorem ints_k {K : List Int → Prop} (l : List Int) (h : K l) : intsD (l.map .int) K := by
  induction l generalizing K with
  | nil => exact h
  | cons i l ih => exact ih h
theorem reg_in {t : Tk} : ([(0, 0), (0, 1)] : List Tk).any (fun u => PyData.eqv (tkd u) (tkd t)) = (decide (t = (0, 0)) || decide (t = (0, 1))) := by
  rw [List.any_cons, List.any_cons, List.any_nil, Bool.or_false, eqv_tk, eqv_tk]
  rw [show decide (((0, 0) : Tk) = t) = decide (t = (0, 0)) from decide_eq_decide.mpr eq_comm, show decide (((0, 1) : Tk) = t) = decide (t = (0, 1)) from decide_eq_decide.mpr eq_comm]
theorem small_of {r : List Tk} {top x : Int} {i : Bool} {q : List Tk} (h : npP r = some (x, i, q)) : smallP r top = if 0 ≤ x ∧ x ≤ top then some (x, if i = true then q else optB q) else none := by
  rw [smallP, numP, h]; rfl
theorem small_none {r : List Tk} {top : Int} (h : npP r = none) : smallP r top = none := by
  rw [smallP, numP, h]; rfl
noncomputable def smD : Option (Int × List Tk) → PyData
  | none => .none
  | some y => .tuple [.int y.1, .list (y.2.map tkd)]
theorem npA_num {neg : Bool} {p : List Tk} (h : ∀ t, p.head? = some t → (decide (t = (0, 0)) || decide (t = (0, 1))) = false) : npA neg p = if startsDig p = true then (wn 0 p).map fun y => (ng neg y.1, false, y.2) else none := by
  cases p with
  | nil => rfl
  | cons t p =>
    have h := (Bool.or_eq_false_iff ..).mp (h t rfl)
    exact (if_neg (of_decide_eq_false h.1)).trans (if_neg (of_decide_eq_false h.2))
theorem small_num {r l : List Tk} {j e : Nat} {neg : Bool} {top : Int} (ht : top ≤ 2147483647) (hnp : npP r = npA neg (r.drop j)) (h : ∀ t, (r.drop j).head? = some t → (decide (t = (0, 0)) || decide (t = (0, 1))) = false) (h1 : ∀ t ∈ l, dig t = true) (h2 : r.drop j = l ++ r.drop e) (h3 : startsDig (r.drop e) = false) :
    smallP r top = if l = [] then none else if 0 ≤ ng neg (hv 0 l) ∧ ng neg (hv 0 l) ≤ top then some (ng neg (hv 0 l), optB (r.drop e)) else none := by
  rw [npA_num h] at hnp
  obtain ⟨tw1, tw2⟩ := tw_app h1 h3
  rw [← h2] at tw1 tw2
  obtain ⟨w1, w2⟩ := wn_hv (r.drop j) 0 (Int.le_refl _)
  rw [tw1] at w2
  rw [tw1, tw2] at w1
  cases l with
  | nil =>
    rw [if_pos rfl]
    rw [h2, List.nil_append, h3] at hnp
    exact small_none hnp
  | cons t l =>
    rw [if_neg (List.cons_ne_nil _ _)]
    rw [if_pos (by rw [h2]; exact h1 t (.head _))] at hnp
    have hv0 := hv_ge (t :: l) 0 (Int.le_refl _) h1
    cases hw : wn 0 (r.drop j) with
    | none =>
      have := w2 hw
      rw [hw] at hnp
      rw [small_none hnp, if_neg]
      unfold ng
      cases neg
      · exact fun q => by have := q.2; simp only [Bool.false_eq_true, if_false] at this; omega
      · exact fun q => by have := q.1; simp only [if_true] at this; omega
    | some y =>
      obtain ⟨x1, x2⟩ := w1 y.1 y.2 hw
      rw [hw] at hnp
      rw [small_of (i := false) hnp, x1, x2]; rfl
noncomputable def isBl : List Tk → Bool
  | [] => false
  | t :: _ => decide (t.1 = 10)
theorem drop_bl {r : List Tk} {e : Nat} (he : e ≤ r.length) : e + (if isBl (r.drop e) = true then 1 else 0) ≤ r.length ∧ r.drop (e + (if isBl (r.drop e) = true then 1 else 0)) = optB (r.drop e) := by
  rcases hri : r[e]? with _ | t
  · rw [drop_none hri]; exact ⟨he, drop_none hri⟩
  · have hlt := some_lt hri
    have hd := drop_some hri
    rw [hd]
    show e + (if decide (t.1 = 10) = true then 1 else 0) ≤ r.length ∧ _
    by_cases h : t.1 = 10
    · rw [show isBl (t :: r.drop (e + 1)) = true from decide_eq_true h, decide_eq_true h, show optB (t :: r.drop (e + 1)) = r.drop (e + 1) from if_pos h]; exact ⟨hlt, rfl⟩
    · rw [show isBl (t :: r.drop (e + 1)) = false from decide_eq_false h, decide_eq_false h, show optB (t :: r.drop (e + 1)) = t :: r.drop (e + 1) from if_neg h]; exact ⟨he, hd⟩
theorem dig_eq (t : Tk) : dig t = (decide (t.1 = 12) && (decide (48 ≤ t.2) && decide (t.2 ≤ 57))) := by
  rw [dig, Bool.and_assoc, show decide (t.2 < 58) = decide (t.2 ≤ 57) from decide_eq_decide.mpr (by omega)]
theorem asg_addB {fr : Fr'} {σ : Sto} {N : Fr' → Sto → Prop} {R : AV → Fr' → Sto → Prop} {i : Nat} {x c : X} {a : Int} {b : Bool} {r : SL} (hx : Val x fr σ (.d (.int a)) σ) (hc : Val c fr σ (.d (.bool b)) σ) (h : r (fr.set i (some (.d (.int (a + if b = true then 1 else 0))))) σ N R) : SL.cons (.asg i (.bin .Add x (.int_ c))) r fr σ N R := hx _ (hc _ h)
noncomputable def isReg : List Tk → Bool
  | [] => false
  | t :: _ => decide (t = (0, 0)) || decide (t = (0, 1))
inductive Sm (r : List Tk) (top : Int) (neg : Bool) (g : Gs) (fr : Fr') (σ : Sto) : Prop
  | mk (x : Int) (e : Nat) (w : Option AV) : e ≤ r.length → (smallP r top = if 0 ≤ ng neg x ∧ ng neg x ≤ top then some (ng neg x, r.drop e) else none) → fr = [some (.d (.list (r.map tkd))), some (.d (.int top)), w, some (.d (.bool neg)), some (.d (.int x)), some (.d (.int e))] → σ = ⟨g, none⟩ → Sm r top neg g fr σ
inductive Dg (r : List Tk) (top : Int) (neg : Bool) (j : Nat) (g : Gs) (k : Nat) (fr : Fr') (σ : Sto) : Prop
  | mk (e : Nat) (l : List Tk) : k = r.length - e → e ≤ r.length → e = j + l.length → (∀ t ∈ l, dig t = true) → r.drop j = l ++ r.drop e → fr = [some (.d (.list (r.map tkd))), some (.d (.int top)), some (.d (.int j)), some (.d (.bool neg)), none, some (.d (.int e))] → σ = ⟨g, none⟩ → Dg r top neg j g k fr σ
section
variable (S : Stat) (g : Gs) (n : Nat)
theorem c_small_due (r : List Tk) (top : Int) (hl : r.length < 1000) (ht : top ≤ 2147483647) (ok : ∀ t ∈ r, TokOk t) : SC (S.lv (n + 4)) 549 [.d (.list (r.map tkd)), .d (.int top)] g (fun v g' => v = .d (smD (smallP r top)) ∧ g' = g) := by
  refine SC.of (S := S.lv (n+3)) 26 ["rest", "top"] 4 rfl rfl (fun _ _ _ _ _ _ _ _ => fa2 fun a b => BindsTo.of_eq rfl) (by decide +kernel) rfl rfl (.cons (SS.asgP (NmE.cons (i := 2) rfl (NmE.cons (i := 3) rfl .nil)) (SE.call 6 24 rfl rfl (.cons (SE.loc 0 rfl) .nil)))
 (.cons (SS.ifs (SE.and (SE.cmp (SE.loc 2 rfl) (SE.bi 7 0 rfl rfl (.cons (SE.loc 0 rfl) .nil))) (SE.one (SE.cmp (SE.ix (SE.loc 0 rfl) (SE.loc 2 rfl)) (SE.lst (.cons (SE.tup (.cons SE.int (.cons SE.int .nil))) (.cons (SE.tup (.cons SE.int (.cons SE.int .nil))) .nil)))))) (.cons (SS.asgS (NmL.cons (i := 4) rfl (NmL.cons (i := 5) rfl .nil)) (SE.tup (.cons (SE.ix (SE.lst (.cons SE.int (.cons SE.int .nil))) (SE.ix (SE.ix (SE.loc 0 rfl) (SE.loc 2 rfl)) SE.int)) (.cons (SE.bin (SE.loc 2 rfl) SE.int) .nil))) (hw := fun env hk h => sws2 hk h rfl rfl rfl rfl rfl))
 .nil) (.cons (SS.asg 5 rfl (SE.loc 2 rfl))
 (.cons (SS.whl (SE.and (SE.cmp (SE.loc 5 rfl) (SE.bi 7 0 rfl rfl (.cons (SE.loc 0 rfl) .nil))) (SE.and (SE.cmp (SE.ix (SE.ix (SE.loc 0 rfl) (SE.loc 5 rfl)) SE.int) SE.int) (SE.one (SE.cmp2 SE.int (SE.ix (SE.ix (SE.loc 0 rfl) (SE.loc 5 rfl)) SE.int) SE.int)))) (.cons (SS.asg 5 rfl (SE.bin (SE.loc 5 rfl) SE.int))
 .nil))
 (.cons (SS.ifs (SE.cmp (SE.loc 5 rfl) (SE.loc 2 rfl)) (.cons (SS.ret SE.nul)
 .nil) .nil)
 (.cons (SS.asg 4 rfl (SE.bi 8 4 rfl rfl (.cons (SE.compX (CompOk.free (by decide +kernel) rfl (by decide +kernel) (by decide +kernel)) (SrcE.enum (iE := 9) rfl (SE.rev (SE.slAB (SE.loc 0 rfl) (SE.loc 2 rfl) (SE.loc 5 rfl))) (NmE.cons (i := 1) rfl (NmE.cons (i := 2) rfl .nil)) rfl) .none (SE.bin (SE.bin (SE.ix (SE.loc 2 rfl) SE.int) SE.int) (SE.bin SE.int (SE.loc 1 rfl)))) .nil)))
 (.cons (SS.asg 5 rfl (SE.bin (SE.loc 5 rfl) (SE.int_ 10 rfl (SE.and (SE.cmp (SE.loc 5 rfl) (SE.bi 7 0 rfl rfl (.cons (SE.loc 0 rfl) .nil))) (SE.one (SE.cmp (SE.ix (SE.ix (SE.loc 0 rfl) (SE.loc 5 rfl)) SE.int) SE.int))))))
 .nil))))))
 (.cons (SS.asg 4 rfl (SE.ife (SE.loc 3 rfl) (SE.neg (SE.loc 4 rfl)) (SE.loc 4 rfl)))
 (.cons (SS.ret (SE.ife (SE.cmp2 SE.int (SE.loc 4 rfl) (SE.loc 1 rfl)) (SE.tup (.cons (SE.loc 4 rfl) (.cons (SE.slA (SE.loc 0 rfl) (SE.loc 5 rfl)) .nil))) SE.nul))
 .nil)))) ?_
  refine (c_signed S g n r (by omega) ok).mono (Nat.le_refl _) ?_
  rintro v g' ⟨j, rfl, hj, hd, rfl⟩
  have hnp : npP r = npA (sgn r).2 (sgn r).1 := rfl
  rw [← hd] at hnp
  generalize (sgn r).2 = neg at *
  have hl' : r.length < 100000 := by omega
  refine ifs_cut (Sm r top neg g') (fun N' h => ?_) ?_
  · refine ifs_v (isReg (r.drop j)) (σ' := ⟨g', none⟩) ?_ (fun h1 => ?_) fun h1 => ?_
    · rcases hri : r[j]? with _ | t
      · rw [drop_none hri]
        exact val_and (u := false) (v := false) (σ' := ⟨g', none⟩) (.no (Int.not_lt.mpr (len_ge hri)) fun K h => grd_lt (len_small hl') h) fun h => nomatch h
      · rw [drop_some hri]
        exact val_and (u := true) (σ' := ⟨g', none⟩) (.yes (len_lt hri) fun K h => grd_lt (len_small hl') h) fun _ K h => ix_tk hri (by omega) ⟨⟨shaped_tk _, rfl⟩, reg_in.symm ▸ h⟩
    · rcases hri : r[j]? with _ | t
      · rw [drop_none hri] at h1; exact nomatch h1
      · rw [drop_some hri] at h1 hnp
        rcases (Bool.or_eq_true ..).mp h1 with q | q
        · obtain rfl := of_decide_eq_true q
          exact ix_tk hri (by omega) (h _ _ ⟨7, j + 1, _, some_lt hri, small_of (i := true) hnp, rfl, rfl⟩)
        · obtain rfl := of_decide_eq_true q
          exact ix_tk hri (by omega) (h _ _ ⟨300, j + 1, _, some_lt hri, small_of (i := true) hnp, rfl, rfl⟩)
    · have hh : ∀ t, (r.drop j).head? = some t → (decide (t = (0, 0)) || decide (t = (0, 1))) = false := fun t q => by
        cases hp : r.drop j with
        | nil => rw [hp] at q; exact nomatch q
        | cons u p => rw [hp] at q h1; cases q; exact h1
      refine whl_go (Dg r top neg j g') (r.length - j) ⟨j, [], rfl, hj, rfl, nofun, rfl, rfl, rfl⟩ ?_
      rintro _ _ _ ⟨e, l, rfl, he, hel, hl1, hl2, rfl, rfl⟩
      refine (show Val _ _ _ (.d (.bool (startsDig (r.drop e)))) ⟨g', none⟩ from ?_) _ (br_of (fun h3 => ?_) fun h3 => ?_)
      · rcases hri : r[e]? with _ | t
        · rw [drop_none hri]
          exact val_and (u := false) (v := false) (σ' := ⟨g', none⟩) (.no (Int.not_lt.mpr (len_ge hri)) fun K h => grd_lt (len_small hl') h) fun h => nomatch h
        · rw [drop_some hri, startsDig, dig_eq]
          exact val_and (u := true) (σ' := ⟨g', none⟩) (.yes (len_lt hri) fun K h => grd_lt (len_small hl') h) fun _ => val_and (fun K h => ix_tk hri (by omega) h) fun _ K h => ix_tk hri (by omega) (br_and (σ := ⟨g', none⟩) h)
      · rcases hri : r[e]? with _ | t
        · rw [drop_none hri] at h3; exact nomatch h3
        · have hlt := some_lt hri
          rw [drop_some hri] at h3 hl2
          refine ⟨r.length - (e + 1), Nat.sub_lt_sub_left hlt (Nat.lt_succ_self e), e + 1, l ++ [t], rfl, hlt, by rw [List.length_append, hel]; rfl, fun u hu => (List.mem_append.mp hu).elim (hl1 u) fun q => List.mem_singleton.mp q ▸ h3, ?_, rfl, rfl⟩
          rw [hl2, List.append_assoc]; rfl
      · have hs := small_num (top := top) ht hnp hh hl1 hl2 h3
        refine ifs_d (fun K h => h) (fun h4 => ?_) fun h4 => ?_
        · have : l = [] := List.eq_nil_of_length_eq_zero (by omega)
          rw [if_pos this] at hs
          exact ⟨by rw [hs]; rfl, rfl⟩
        · rw [if_neg fun q => h4 (by rw [hel, q]; rfl)] at hs
          have hsl : List.drop ((j : Int)).toNat (List.take ((e : Int)).toNat (List.map tkd r)) = l.map tkd := by
            rw [Int.toNat_natCast, Int.toNat_natCast, ← List.map_take, ← List.map_drop, List.drop_take, hl2, hel, Nat.add_sub_cancel_left, List.take_left]
          have hll : l.length ≤ r.length := by omega
          refine ⟨⟨Int.natCast_nonneg _, Int.natCast_nonneg _, by rw [List.length_map]; omega⟩, ?_⟩
          rw [hsl]
          refine ⟨by rw [List.length_map]; omega, ?_⟩
          rw [← List.map_reverse]
          refine ⟨by rw [enums_len, List.length_map, List.length_reverse]; omega, en_aux rfl l.reverse 0 [] (by rw [List.length_reverse]; omega) (fun u hu => hl1 u (List.mem_reverse.mp hu)) ?_⟩
          rw [List.nil_append]
          refine ints_k _ ?_
          rw [sum_hv, List.reverse_reverse, Int.pow_zero, Int.mul_one]
          refine asg_addB (b := isBl (r.drop e)) (fun K h => h) ?_ (h _ _ ⟨hv 0 l, e + (if isBl (r.drop e) = true then 1 else 0), some (.d (.int j)), (drop_bl he).1, by rw [(drop_bl he).2]; exact hs, ?_, rfl⟩)
          · rcases hri : r[e]? with _ | t
            · rw [drop_none hri]
              exact val_and (u := false) (v := false) (σ' := ⟨g', none⟩) (.no (Int.not_lt.mpr (len_ge hri)) fun K h => grd_lt (len_small hl') h) fun h => nomatch h
            · rw [drop_some hri]
              exact val_and (u := true) (σ' := ⟨g', none⟩) (.yes (len_lt hri) fun K h => grd_lt (len_small hl') h) fun _ K h => ix_tk hri (by omega) h
          · cases isBl (r.drop e) <;> rfl
  · rintro _ _ ⟨x, e, w, he, hs, rfl, rfl⟩
    have fin : ∀ y, y = ng neg x → SL.cons (SX.ret ((X.cmp2 CmpOp.LtE CmpOp.LtE (X.c (PyData.int 0)) (X.loc 4) (X.loc 1)).ife (X.tup (XL.cons (X.loc 4) (XL.cons ((X.loc 0).slA (X.loc 5)) XL.nil))) (X.c PyData.none))) SL.nil [some (.d (.list (r.map tkd))), some (.d (.int top)), w, some (.d (.bool neg)), some (.d (.int y)), some (.d (.int e))] ⟨g', none⟩ (finN fun v g₂ => v = .d (smD (smallP r top)) ∧ g₂ = g') (finR fun v g₂ => v = .d (smD (smallP r top)) ∧ g₂ = g') := by
      rintro y rfl
      refine ret_ife (fun K h => br_and h) (fun h => ⟨⟨Int.natCast_nonneg _, by rw [List.length_map]; omega⟩, ?_, rfl⟩) fun h => ⟨?_, rfl⟩
      · have h := and2 h
        rw [hs, if_pos ⟨of_decide_eq_true h.1, of_decide_eq_true h.2⟩, smD, Int.toNat_natCast, ← List.map_drop]
      · rw [hs, if_neg]
        · rfl
        · rintro ⟨a, b⟩
          rw [decide_eq_true a, decide_eq_true b] at h
          exact nomatch h
    cases neg with
    | true => exact fin _ rfl
    | false => exact fin _ rfl
end
end Mine
/-! ## TD -/
namespace Mine
open PySem PySem.W PySem.Calls PyProof.Rows
inductive More where
  | word (w : Array Nat)
  | num (i : Int)
  | tok (t : Tk)
noncomputable def More.d : More → PyData
  | .word w => .str ⟨w⟩
  | .num i => .int i
  | .tok t => tkd t
noncomputable def MoreOk (way : Int) : More → Prop
  | .word w => way ≠ 6 ∧ way ≠ 9 ∧ w.size < 1000
  | .num i => way = 6 ∧ i ≤ 2147483647
  | .tok t => way = 9 ∧ TokOk t
noncomputable def dueP (way : Int) (r : List Tk) (m : More) : Option (PyData × List Tk) :=
  if way = 0 then (match m with | .word wd => some (.bool (standsP (past false r) wd.toList), if standsP (past false r) wd.toList = true then (past false r).drop wd.size else past false r) | _ => none)
  else if way = 1 ∨ way = 2 then some (fnd (rd1 (past (decide (way = 2)) r)), (past (decide (way = 2)) r).tail)
  else if way = 3 then some (.none, optB r)
  else if way = 4 then some (.none, optE r)
  else if way = 5 then (if isBrace (past true r) = true then some (fnd (rd1 (past true r)), (past true r).tail) else none)
  else if way = 6 then (match m with | .num top => (smallP r top).map fun y => (.int y.1, y.2) | _ => none)
  else if way = 7 then some (.tuple [fnd (rd1 (sgn r).1), .bool (sgn r).2], (sgn r).1.tail)
  else if way = 8 then some (fnd (rd1 r), r.tail)
  else (match m with | .tok t => some (.none, t :: r) | _ => none)
noncomputable def dueD : Option (PyData × List Tk) → PyData
  | none => .none
  | some y => .tuple [y.1, .list (y.2.map tkd)]
theorem drop_int {r : List Tk} {i : Int} {j : Nat} (h : i = j) : (r.map tkd).drop i.toNat = (r.drop j).map tkd := by rw [h, Int.toNat_natCast, List.map_drop]
noncomputable def isEq : List Tk → Bool
  | [] => false
  | t :: _ => decide (t = (12, 61))
theorem drop_eq {r : List Tk} {j : Nat} : r.drop (j + (if isEq (r.drop j) = true then 1 else 0)) = optA (r.drop j) := by
  rcases hri : r[j]? with _ | t
  · rw [drop_none hri]; exact drop_none hri
  · have hd := drop_some hri
    rw [hd]
    by_cases h : t = (12, 61)
    · rw [show isEq (t :: r.drop (j + 1)) = true from decide_eq_true h, show optA (t :: r.drop (j + 1)) = r.drop (j + 1) from if_pos h]; rfl
    · rw [show isEq (t :: r.drop (j + 1)) = false from decide_eq_false h, show optA (t :: r.drop (j + 1)) = t :: r.drop (j + 1) from if_neg h]; exact hd
section
variable {fr : Fr'} {σ σ' : Sto} {N : Fr' → Sto → Prop} {R : AV → Fr' → Sto → Prop} {x y c : X} {r : SL} {d : PyData} {ds : List PyData} {b : Bool} {a : Int}
theorem ret_none2 (hx : Val x fr σ (.d d) σ') (h : R (.d (.tuple [.none, d])) fr σ') : SL.cons (.ret (.tup (.cons (.c .none) (.cons x .nil)))) r fr σ N R := hx _ h
theorem slA_int (hy : Val y fr σ (.d (.list ds)) σ) (hc : Val c fr σ (.d (.bool b)) σ) (hl : ds.length ≤ 100000) : Val (.slA y (.int_ c)) fr σ (.d (.list (ds.drop (if b = true then 1 else 0)))) σ := fun K h => hy _ (hc _ (by cases b <;> exact ⟨⟨by decide, hl⟩, h⟩))
theorem slA_add (hy : Val y fr σ (.d (.list ds)) σ) (hx : Val x fr σ (.d (.int a)) σ) (hc : Val c fr σ (.d (.bool b)) σ) (ha : 0 ≤ a) (hl : ds.length ≤ 100000) : Val (.slA y (.bin .Add x (.int_ c))) fr σ (.d (.list (ds.drop (a + if b = true then 1 else 0).toNat))) σ :=
  fun K h => hy _ (hx _ (hc _ ⟨⟨Int.add_nonneg ha (by cases b <;> decide), hl⟩, h⟩))
end
theorem up {a b : Int} (h : a ≤ b) (n : ¬b = a) : a + 1 ≤ b := by omega
theorem or2 {p q : Prop} [Decidable p] [Decidable q] (h : (decide p || decide q) = false) : ¬p ∧ ¬q := ((Bool.or_eq_false_iff ..).mp h).imp of_decide_eq_false of_decide_eq_false
theorem due_word {r : List Tk} {w : Array Nat} : dueP 0 r (.word w) = some (.bool (standsP (past false r) w.toList), if standsP (past false r) w.toList = true then (past false r).drop w.size else past false r) := rfl
theorem due_skip {way : Int} {r : List Tk} {m : More} (h : way = 1 ∨ way = 2) : dueP way r m = some (fnd (rd1 (past (decide (way = 2)) r)), (past (decide (way = 2)) r).tail) := by
  rcases h with rfl | rfl <;> rfl
theorem due_brace {r : List Tk} {m : More} : dueP 5 r m = if isBrace (past true r) = true then some (fnd (rd1 (past true r)), (past true r).tail) else none := rfl
theorem due_small {r : List Tk} {top : Int} : dueD (dueP 6 r (.num top)) = smD (smallP r top) := by
  show dueD ((smallP r top).map _) = _
  cases smallP r top <;> rfl
theorem due_tok {r : List Tk} {t : Tk} : dueP 9 r (.tok t) = some (.none, t :: r) := rfl
section
variable (S : Stat) (g : Gs) (n : Nat)
theorem c_due (way : Int) (m : More) (r : List Tk) (hl : r.length < 900) (h0 : 0 ≤ way) (h9 : way ≤ 9) (hm : MoreOk way m) (ok : ∀ t ∈ r, TokOk t) : SC (S.lv (n + 5)) 556 [.d (.int way), .d (.list (r.map tkd)), .d m.d] g
    (fun v g' => v = .d (dueD (dueP way r m)) ∧ g' = g) := by
  refine SC.of (S := S.lv (n+4)) 27 ["way", "rest", "more"] 3 rfl rfl (fun _ _ _ _ _ _ _ _ => fa3 fun a b c => BindsTo.of_eq rfl) (by decide +kernel) rfl rfl (.cons (SS.ifs (SE.cmp (SE.loc 0 rfl) SE.int) (.cons (SS.asg 3 rfl (SE.call 6 23 rfl rfl (.cons (SE.loc 1 rfl) (.cons SE.int (.cons SE.bool .nil)))))
 (.cons (SS.asg 4 rfl (SE.call 7 25 rfl rfl (.cons (SE.loc 1 rfl) (.cons (SE.loc 3 rfl) (.cons (SE.loc 2 rfl) .nil)))))
 (.cons (SS.ret (SE.tup (.cons (SE.loc 4 rfl) (.cons (SE.ife (SE.loc 4 rfl) (SE.slA (SE.loc 1 rfl) (SE.bin (SE.loc 3 rfl) (SE.bi 8 0 rfl rfl (.cons (SE.loc 2 rfl) .nil)))) (SE.slA (SE.loc 1 rfl) (SE.loc 3 rfl))) .nil))))
 .nil))) .nil)
 (.cons (SS.ifs (SE.or (SE.cmp (SE.loc 0 rfl) SE.int) (SE.one (SE.cmp (SE.loc 0 rfl) SE.int))) (.cons (SS.asg 3 rfl (SE.call 6 23 rfl rfl (.cons (SE.loc 1 rfl) (.cons SE.int (.cons (SE.cmp (SE.loc 0 rfl) SE.int) .nil)))))
 (.cons (SS.ret (SE.tup (.cons (SE.call 9 22 rfl rfl (.cons (SE.loc 1 rfl) (.cons (SE.loc 3 rfl) .nil))) (.cons (SE.slA (SE.loc 1 rfl) (SE.bin (SE.loc 3 rfl) SE.int)) .nil))))
 .nil)) .nil)
 (.cons (SS.ifs (SE.cmp (SE.loc 0 rfl) SE.int) (.cons (SS.ret (SE.tup (.cons SE.nul (.cons (SE.slA (SE.loc 1 rfl) (SE.int_ 10 rfl (SE.and (SE.cmp (SE.loc 1 rfl) (SE.lst .nil)) (SE.one (SE.cmp (SE.ix (SE.ix (SE.loc 1 rfl) SE.int) SE.int) SE.int))))) .nil))))
 .nil) .nil)
 (.cons (SS.ifs (SE.cmp (SE.loc 0 rfl) SE.int) (.cons (SS.asg 3 rfl (SE.call 6 23 rfl rfl (.cons (SE.loc 1 rfl) (.cons SE.int (.cons SE.bool .nil)))))
 (.cons (SS.ret (SE.tup (.cons SE.nul (.cons (SE.slA (SE.loc 1 rfl) (SE.bin (SE.loc 3 rfl) (SE.int_ 10 rfl (SE.and (SE.cmp (SE.loc 3 rfl) (SE.bi 8 0 rfl rfl (.cons (SE.loc 1 rfl) .nil))) (SE.one (SE.cmp (SE.ix (SE.loc 1 rfl) (SE.loc 3 rfl)) (SE.tup (.cons SE.int (.cons SE.int .nil))))))))) .nil))))
 .nil)) .nil)
 (.cons (SS.ifs (SE.cmp (SE.loc 0 rfl) SE.int) (.cons (SS.asg 3 rfl (SE.call 6 23 rfl rfl (.cons (SE.loc 1 rfl) (.cons SE.int (.cons SE.bool .nil)))))
 (.cons (SS.ret (SE.ife (SE.and (SE.cmp (SE.loc 3 rfl) (SE.bi 8 0 rfl rfl (.cons (SE.loc 1 rfl) .nil))) (SE.one (SE.cmp (SE.ix (SE.ix (SE.loc 1 rfl) (SE.loc 3 rfl)) SE.int) SE.int))) (SE.tup (.cons (SE.call 9 22 rfl rfl (.cons (SE.loc 1 rfl) (.cons (SE.loc 3 rfl) .nil))) (.cons (SE.slA (SE.loc 1 rfl) (SE.bin (SE.loc 3 rfl) SE.int)) .nil))) SE.nul))
 .nil)) .nil)
 (.cons (SS.ifs (SE.cmp (SE.loc 0 rfl) SE.int) (.cons (SS.ret (SE.call 11 26 rfl rfl (.cons (SE.loc 1 rfl) (.cons (SE.loc 2 rfl) .nil))))
 .nil) .nil)
 (.cons (SS.ifs (SE.cmp (SE.loc 0 rfl) SE.int) (.cons (SS.asgP (NmE.cons (i := 3) rfl (NmE.cons (i := 5) rfl .nil)) (SE.call 12 24 rfl rfl (.cons (SE.loc 1 rfl) .nil)))
 (.cons (SS.ret (SE.tup (.cons (SE.tup (.cons (SE.call 9 22 rfl rfl (.cons (SE.loc 1 rfl) (.cons (SE.loc 3 rfl) .nil))) (.cons (SE.loc 5 rfl) .nil))) (.cons (SE.slA (SE.loc 1 rfl) (SE.bin (SE.loc 3 rfl) SE.int)) .nil))))
 .nil)) .nil)
 (.cons (SS.ifs (SE.cmp (SE.loc 0 rfl) SE.int) (.cons (SS.ret (SE.tup (.cons (SE.call 9 22 rfl rfl (.cons (SE.loc 1 rfl) (.cons SE.int .nil))) (.cons (SE.slA (SE.loc 1 rfl) SE.int) .nil))))
 .nil) .nil)
 (.cons (SS.ret (SE.tup (.cons SE.nul (.cons (SE.bin (SE.lst (.cons (SE.loc 2 rfl) .nil)) (SE.loc 1 rfl)) .nil))))
 .nil))))))))) ?_
  have hlm : (List.map tkd r).length ≤ 100000 := by rw [List.length_map]; omega
  have hl' : r.length < 100000 := by omega
  have past : ∀ (f : Bool) {Q : AV → Gs → Prop}, (∀ j : Nat, j ≤ r.length → r.drop j = past f r → Q (.d (.int j)) g) → SC (S.lv (n + 4)) 532 [.d (.list (r.map tkd)), .d (.int 0), .d (.bool f)] g Q := fun f Q k =>
    (c_past S g (n + 2) f r 0 (by omega) (Nat.zero_le _) ok).mono (Nat.le_refl _) (by rintro v g' ⟨j, rfl, _, hj, hd, rfl⟩; exact k j hj hd)
  have trip : ∀ (j : Nat) {Q : AV → Gs → Prop}, j ≤ r.length → Q (.d (fnd (rd1 (r.drop j)))) g → SC (S.lv (n + 4)) 525 [.d (.list (r.map tkd)), .d (.int j)] g Q := fun j Q hj k => (c_triple S g (n + 3) r j (by omega) hj ok).to k
  refine ifs_d (fun K h => h) (fun hw => ?_) fun n0 => ifs_v _ (val_or (fun K h => h) fun _ K h => h) (fun hw => ?_) fun n12 => ifs_d (fun K h => h) (fun hw => ?_) fun n3 => ifs_d (fun K h => h) (fun hw => ?_) fun n4 => ifs_d (fun K h => h) (fun hw => ?_) fun n5 =>
    ifs_d (fun K h => h) (fun hw => ?_) fun n6 => ifs_d (fun K h => h) (fun hw => ?_) fun n7 => ifs_d (fun K h => h) (fun hw => ?_) fun n8 => ?_
  · subst hw
    cases m with
    | num i => exact absurd hm.1 (by decide)
    | tok i => exact absurd hm.1 (by decide)
    | word w =>
      have hwl : w.size < 1000000000 := by have := hm.2.2; omega
      refine past false fun j hj hd => (c_stands S g (n + 3) r j w (by omega) hj hm.2.2).to ?_
      rw [due_word, ← hd]
      refine br_of (fun h => grd_lt hwl ⟨⟨by omega, hlm⟩, ?_, rfl⟩) fun h => ⟨⟨by omega, hlm⟩, ?_, rfl⟩
      · rw [drop_int (i := (j : Int) + ((⟨w⟩ : Str).length : Int)) (j := j + w.size) rfl, if_pos h, ← List.drop_drop]; rfl
      · rw [drop_int (i := (j : Int)) (j := j) rfl, if_neg (Bool.eq_false_iff.mp h)]; rfl
  · have hw : way = 1 ∨ way = 2 := by simpa using hw
    rw [due_skip hw]
    refine past (decide (way = 2)) fun j hj hd => trip j hj ⟨⟨by omega, hlm⟩, ?_, rfl⟩
    rw [drop_int (i := (j : Int) + 1) (j := j + 1) rfl, ← List.drop_drop, hd, List.drop_one]; rfl
  · subst hw
    refine ret_none2 (slA_int (b := isBl r) (fun K h => h) ?_ hlm) ⟨?_, rfl⟩
    · cases r with
      | nil => exact val_and (u := false) (v := false) (fun K h => ⟨⟨rfl, rfl⟩, h⟩) fun h => nomatch h
      | cons t r => exact val_and (u := true) (fun K h => ⟨⟨shaped_tks (t :: r), rfl⟩, h⟩) fun _ K h => h
    · have := (drop_bl (r := r) (Nat.zero_le _)).2
      rw [Nat.zero_add, List.drop_zero] at this
      show AV.d (.tuple [_, _]) = .d (.tuple [.none, .list ((optB r).map tkd)])
      rw [← this, List.map_drop]
  · subst hw
    refine past false fun j hj hd => ?_
    refine ret_none2 (slA_add (b := isEq (r.drop j)) (fun K h => h) (fun K h => h) ?_ (Int.natCast_nonneg _) hlm) ⟨?_, rfl⟩
    · rcases hri : r[j]? with _ | t
      · rw [drop_none hri]
        exact val_and (u := false) (v := false) (σ' := ⟨g, none⟩) (.no (Int.not_lt.mpr (len_ge hri)) fun K h => grd_lt (len_small hl') h) fun h => nomatch h
      · rw [drop_some hri]
        exact val_and (u := true) (σ' := ⟨g, none⟩) (.yes (len_lt hri) fun K h => grd_lt (len_small hl') h) fun _ K h => ix_tk hri (by omega) ⟨⟨rfl, rfl⟩, (eqv_tk t (12, 61)).symm ▸ h⟩
    · show AV.d (.tuple [_, _]) = .d (.tuple [.none, .list ((optA (Mine.past false r)).map tkd)])
      rw [← hd, ← drop_eq, drop_int (j := j + (if isEq (r.drop j) = true then 1 else 0)) (by cases isEq (r.drop j) <;> rfl)]
  · subst hw
    rw [due_brace]
    refine past true fun j hj hd => ?_
    refine ret_ife (v := isBrace (r.drop j)) (σ' := ⟨g, none⟩) ?_ (fun h => trip j hj ⟨⟨by omega, hlm⟩, ?_, rfl⟩) fun h => ⟨?_, rfl⟩
    · rcases hri : r[j]? with _ | t
      · rw [drop_none hri]
        exact val_and (u := false) (v := false) (σ' := ⟨g, none⟩) (.no (Int.not_lt.mpr (len_ge hri)) fun K h => grd_lt (len_small hl') h) fun h => nomatch h
      · rw [drop_some hri]
        exact val_and (u := true) (σ' := ⟨g, none⟩) (.yes (len_lt hri) fun K h => grd_lt (len_small hl') h) fun _ K h => ix_tk hri (by omega) h
    · rw [hd] at h
      rw [drop_int (i := (j : Int) + 1) (j := j + 1) rfl, ← List.drop_drop, hd, List.drop_one, if_pos h]; rfl
    · rw [hd] at h
      rw [if_neg (Bool.eq_false_iff.mp h)]; rfl
  · subst hw
    cases m with
    | word i => exact absurd rfl hm.1
    | tok i => exact absurd hm.1 (by decide)
    | num top => exact (c_small_due S g n r top (by omega) hm.2 ok).to ⟨by rw [due_small], rfl⟩
  · subst hw
    refine (c_signed S g (n + 1) r (by omega) ok).mono (Nat.le_refl _) ?_
    rintro v g' ⟨j, rfl, hj, hd, rfl⟩
    refine trip j hj ⟨⟨by omega, hlm⟩, ?_, rfl⟩
    rw [drop_int (i := (j : Int) + 1) (j := j + 1) rfl, ← List.drop_drop, hd, List.drop_one]; rfl
  · subst hw
    refine trip 0 (Nat.zero_le _) ⟨⟨by omega, hlm⟩, ?_, rfl⟩
    rw [drop_int (i := 1) (j := 1) rfl, List.drop_one]; rfl
  · have hw : way = 9 := Int.le_antisymm h9 (up (up (up (up (up (up (up (up (up h0 n0) (or2 n12).1) (or2 n12).2) n3) n4) n5) n6) n7) n8)
    subst hw
    cases m with
    | word i => exact absurd rfl hm.2.1
    | num i => exact absurd hm.1 (by decide)
    | tok t =>
      exact ⟨by show 1 + (r.map tkd).length ≤ _; rw [List.length_map]; omega, by rw [due_tok]; rfl, rfl⟩
end
end Mine
/-! ## TE -/
namespace Mine
open PySem PySem.W PySem.Calls PyProof.Rows
noncomputable def spAll : List Nat → List Tk → Bool
  | [], _ => true
  | _ :: _, [] => false
  | m :: ms, t :: p => spellsP (some t) m && spAll ms p
noncomputable def TokB (t : Tk) : Prop := t.1 = 10 → t.2 = 32
noncomputable def WordOk (wd : List Nat) : Prop := ∀ m ∈ wd, 97 ≤ m ∧ m ≤ 122
theorem kw_past : ∀ (m : Nat) (ms : List Nat) (r : List Tk), 97 ≤ m → (∀ t ∈ r, TokB t) → kwGo (m :: ms) [] r = kwGo (m :: ms) [] (past false r)
  | m, ms, [], hm, ok => rfl
  | m, ms, t :: r, hm, ok => by
    unfold past
    by_cases h : t.1 = 10
    · have hs : skips false t = true := by simp [skips, h]
      rw [if_pos hs, ← kw_past m ms r hm (fun u hu => ok u (.tail _ hu))]
      have h32 := ok t (.head _) h
      have hn : ¬ spellsP (some t) m = true := by simp [spellsP, h32]; omega
      simp only [kwGo]
      rw [if_neg hn, if_pos (by simp [h])]
    · have hs : ¬ skips false t = true := by simp [skips, h]
      rw [if_neg hs]
noncomputable def headNB : List Tk → Prop
  | [] => True
  | t :: _ => ¬ t.1 = 10
theorem past_head : ∀ r : List Tk, headNB (past false r)
  | [] => True.intro
  | t :: r => by
    unfold past
    split
    · exact past_head r
    · rename_i h; simpa [headNB, skips] using h
theorem kw_go : ∀ (wd : List Nat) (hs p : List Tk), (hs ≠ [] ∨ headNB p) → kwGo wd hs p = if spAll wd p = true then (true, p.drop wd.length) else (false, hs ++ p)
  | [], hs, p, h => by simp [kwGo, spAll]
  | m :: ms, hs, [], h => by simp [kwGo, spAll]
  | m :: ms, hs, t :: p, h => by
    simp only [kwGo, spAll]
    by_cases hsp : spellsP (some t) m = true
    · rw [if_pos hsp, kw_go ms (hs ++ [t]) p (.inl (by simp))]
      simp [hsp]
    · rw [if_neg hsp, if_neg (by rintro ⟨a, b⟩; rcases h with h | h; exact h b; exact h a)]
      simp [hsp]
theorem filt_len (p : List Tk) (k : Nat) (f : Tk → Bool) : ((p.take k).filter f).length ≤ k := Nat.le_trans (List.length_filter_le _ _) (by simp; omega)
theorem stands_eq : ∀ (wd : List Nat) (p : List Tk), WordOk wd → standsP p wd = spAll wd p
  | [], p, h => by simp [standsP, spAll]
  | m :: ms, [], h => by simp [standsP, spAll]
  | m :: ms, t :: p, h => by
    have ih := stands_eq ms p (fun k hk => h k (.tail _ hk))
    have hm := h m (.head _)
    simp only [spAll, ← ih]
    simp only [standsP, List.length_cons, List.take_succ_cons, List.filter_cons, List.map_cons]
    by_cases hc : (decide (1 ≤ t.1) && decide (t.1 ≤ 12)) = true
    · simp only [hc, if_true, List.map_cons, List.cons.injEq]
      have : (lowC t.2 = Int.ofNat m) ↔ spellsP (some t) m = true := by
        simp only [spellsP, hc, Bool.true_and]
        unfold lowC
        simp at hc ⊢
        split <;> omega
      by_cases hsp : spellsP (some t) m = true
      · simp [hsp, this.mpr hsp]
      · have hl := fun q => hsp (this.mp q)
        have hl' : ¬ lowC t.2 = Int.ofNat m := hl
        simp only [hl', false_and, decide_false]
        simp [hsp]
    · have hc' : (decide (1 ≤ t.1) && decide (t.1 ≤ 12)) = false := by simpa using hc
      have hsp : spellsP (some t) m = false := by simp only [spellsP, hc', Bool.false_and]
      simp only [hc', hsp, Bool.false_and, Bool.false_eq_true, if_false]
      rw [decide_eq_false]
      intro q
      have := congrArg List.length q
      have hle := filt_len p ms.length fun t => decide (1 ≤ t.1) && decide (t.1 ≤ 12)
      simp at this
      omega
theorem kw_law (wd : List Nat) (r : List Tk) (hw : WordOk wd) (hne : wd ≠ []) (ok : ∀ t ∈ r, TokB t) : kwGo wd [] r = (standsP (past false r) wd, if standsP (past false r) wd = true then (past false r).drop wd.length else past false r) := by
  cases wd with
  | nil => exact absurd rfl hne
  | cons m ms =>
    rw [kw_past m ms r (hw m (.head _)).1 ok, kw_go _ _ _ (.inr (past_head r)), ← stands_eq _ _ hw]
    by_cases h : standsP (past false r) (m :: ms) = true
    · simp [h]
    · simp [h]
/-! ## the braces -/
theorem brS_tail (p : List Tk) : brS p = brc1 p + brS p.tail := by cases p <;> rfl
theorem brS_past (f : Bool) (r : List Tk) : brS (past f r) = brS r := by
  induction r with
  | nil => rfl
  | cons t r ih =>
    unfold past
    by_cases h : skips f t = true
    · rw [if_pos h, ih, brS, skips_brc h, Int.zero_add]
    · rw [if_neg h]
theorem brS_optB (r : List Tk) : brS (optB r) = brS r := by
  cases r with
  | nil => rfl
  | cons t r =>
    by_cases h : t.1 = 10
    · rw [show optB (t :: r) = r from if_pos h, brS, brc, h]; exact (Int.zero_add _).symm
    · rw [show optB (t :: r) = t :: r from if_neg h]
theorem brS_optE (r : List Tk) : brS (optE r) = brS r := by
  rw [← brS_past false r, optE]
  cases past false r with
  | nil => rfl
  | cons t p =>
    by_cases h : t = (12, 61)
    · rw [show optA (t :: p) = p from if_pos h, brS, h]; exact (Int.zero_add _).symm
    · rw [show optA (t :: p) = t :: p from if_neg h]
theorem brS_sg : ∀ (n : Nat) (neg : Bool) (r : List Tk), brS (sg n neg r).1 = brS r
  | 0, neg, r => by simp only [sg]; exact brS_past false r
  | n + 1, neg, r => by
    rw [← brS_past false r]
    simp only [sg]
    cases past false r with
    | nil => rfl
    | cons t p =>
      simp only
      split
      · rename_i h; rw [brS_sg]; simp [brS, brc, h]
      · split
        · rename_i h; rw [brS_sg]; simp [brS, brc, h]
        · rfl
theorem brS_wn : ∀ (v : Int) (p : List Tk) {x : Int} {q : List Tk}, wn v p = some (x, q) → brS q = brS p
  | v, [], x, q, h => by simp [wn] at h; obtain ⟨_, rfl⟩ := h; rfl
  | v, t :: r, x, q, h => by
    simp only [wn] at h
    split at h
    · rename_i hd
      split at h
      · cases h
      · rw [brS_wn _ r h]; simp [brS, dig_brc hd]
    · cases h; rfl
theorem brS_npA {neg : Bool} {p q : List Tk} {x : Int} {i : Bool} (h : npA neg p = some (x, i, q)) : brS q = brS p := by
  cases p with
  | nil => exact nomatch h
  | cons t p =>
    change (if t = (0, 0) then _ else if t = (0, 1) then _ else if dig t = true then _ else _) = _ at h
    by_cases h0 : t = (0, 0)
    · rw [if_pos h0] at h; cases h; rw [brS, h0]; exact (Int.zero_add _).symm
    · rw [if_neg h0] at h
      by_cases h1 : t = (0, 1)
      · rw [if_pos h1] at h; cases h; rw [brS, h1]; exact (Int.zero_add _).symm
      · rw [if_neg h1] at h
        by_cases hd : dig t = true
        · rw [if_pos hd] at h
          obtain ⟨y, hy, e⟩ := Option.map_eq_some_iff.mp h
          cases e
          exact brS_wn 0 (t :: p) hy
        · rw [if_neg hd] at h; cases h
theorem brS_small {r : List Tk} {top x : Int} {q : List Tk} (h : smallP r top = some (x, q)) : brS q = brS r := by
  have hs : brS (sgn r).1 = brS r := brS_sg _ _ _
  cases hn : npP r with
  | none => rw [small_none hn] at h; exact nomatch h
  | some y =>
    obtain ⟨x', i, q'⟩ := y
    rw [small_of hn] at h
    have e := brS_npA hn
    by_cases hc : 0 ≤ x' ∧ x' ≤ top
    · rw [if_pos hc] at h
      cases h
      cases i with
      | true => exact e.trans hs
      | false => exact (brS_optB q').trans (e.trans hs)
    · rw [if_neg hc] at h; exact nomatch h
noncomputable def TokL (t : Tk) : Prop := TokOk t ∧ TokQ t ∧ TokB t
noncomputable def MoreM : More → Prop
  | .word w => WordOk w.toList ∧ w ≠ #[]
  | _ => True
section
variable (S : Stat) (g : Gs) (n : Nat)
theorem aft {p r : List Tk} {b : Int} (e : brS p = brS r) : afterP g p b = { g with src := some (p.tail, b + brS r - brS p.tail) } := by
  rw [afterP, ← e, brS_tail p, show b + (brc1 p + brS p.tail) - brS p.tail = b + brc1 p by omega]
theorem sam {q r : List Tk} {b : Int} (e : brS q = brS r) : ({ g with src := some (q, b) } : Gs) = { g with src := some (q, b + brS r - brS q) } := by
  rw [e, show b + brS r - brS r = b by omega]
theorem c_met (way : Int) (m : More) (r : List Tk) (b : Int) (hl : r.length < 900) (h0 : 0 ≤ way) (h9 : way ≤ 9) (hm : MoreOk way m) (hm2 : MoreM m) (ok : ∀ t ∈ r, TokL t) : SCM (S.lv (n + 8)) 563 [.d (.int way), .src, .d m.d] { g with src := some (r, b) }
    (fun v g' => ∃ d q, dueP way r m = some (d, q) ∧ v = .d (.tuple [d]) ∧ g' = { g with src := some (q, b + brS r - brS q) }) (dueP way r m = none) := by
  have ok1 : ∀ t ∈ r, TokOk t := fun t h => (ok t h).1
  refine SCM.of (S := S.lv (n + 7)) 28 ["way", "source", "more"] 0 11 12 rfl rfl (fun _ _ _ _ _ _ _ _ => fa3 fun a b c => BindsTo.of_eq rfl) (by decide +kernel) rfl rfl rfl rfl rfl S.bad120 S.bad84 rfl (.cons (SSR.plain (SS.ifs (SE.cmp (SE.loc 0 rfl) SE.int) (.cons (SS.ret (SE.tup (.cons (SE.call 3 9 rfl rfl (.cons (SE.loc 1 rfl) (.cons (SE.loc 2 rfl) .nil))) .nil)))
 .nil) .nil))
 (.cons (SSR.plain (SS.ifs (SE.cmp (SE.loc 0 rfl) SE.int) (.cons (SS.ret (SE.tup (.cons (SE.call 4 3 rfl rfl (.cons (SE.loc 1 rfl) .nil)) .nil)))
 .nil) .nil))
 (.cons (SSR.plain (SS.ifs (SE.cmp (SE.loc 0 rfl) SE.int) (.cons (SS.ret (SE.tup (.cons (SE.call 5 4 rfl rfl (.cons (SE.loc 1 rfl) .nil)) .nil)))
 .nil) .nil))
 (.cons (SSR.plain (SS.ifs (SE.cmp (SE.loc 0 rfl) SE.int) (.cons (SS.ret (SE.tup (.cons (SE.call 6 5 rfl rfl (.cons (SE.loc 1 rfl) .nil)) .nil)))
 .nil) .nil))
 (.cons (SSR.plain (SS.ifs (SE.cmp (SE.loc 0 rfl) SE.int) (.cons (SS.ret (SE.tup (.cons (SE.call 7 6 rfl rfl (.cons (SE.loc 1 rfl) .nil)) .nil)))
 .nil) .nil))
 (.cons (SSR.ifs (SE.cmp (SE.loc 0 rfl) SE.int) (.cons (SSR.retTR 8 7 rfl rfl (.cons (SE.loc 1 rfl) .nil))
 .nil) .nil)
 (.cons (SSR.ifs (SE.cmp (SE.loc 0 rfl) SE.int) (.cons (SSR.retTR 9 16 rfl rfl (.cons (SE.loc 1 rfl) (.cons (SE.loc 2 rfl) .nil)))
 .nil) .nil)
 (.cons (SSR.plain (SS.ifs (SE.cmp (SE.loc 0 rfl) SE.int) (.cons (SS.ret (SE.tup (.cons (SE.call 10 10 rfl rfl (.cons (SE.loc 1 rfl) .nil)) .nil)))
 .nil) .nil))
 (.cons (SSR.plain (SS.ifs (SE.cmp (SE.loc 0 rfl) SE.int) (.cons (SS.ret (SE.tup (.cons (SE.meth 0 rfl (SE.loc 1 rfl) .nil (fun _ => rfl)) .nil)))
 .nil) .nil))
 (.cons (SSR.plain (SS.ret (SE.tup (.cons (SE.meth 2 rfl (SE.loc 1 rfl) (.cons (SE.loc 2 rfl) .nil) (fun _ => rfl)) .nil))))
 .nil)))))))))) ?_
  refine ifs_d (fun K h => h) (fun hw => ?_) fun n0 => ifs_d (fun K h => h) (fun hw => ?_) fun n1 => ifs_d (fun K h => h) (fun hw => ?_) fun n2 => ifs_d (fun K h => h) (fun hw => ?_) fun n3 => ifs_d (fun K h => h) (fun hw => ?_) fun n4 => ifR_d (fun K h => h) (fun hw => ?_) fun n5 =>
    ifR_d (fun K h => h) (fun hw => ?_) fun n6 => ifs_d (fun K h => h) (fun hw => ?_) fun n7 => ifs_d (fun K h => h) (fun hw => ?_) fun n8 => ?_
  · subst hw
    cases m with
    | num i => exact absurd hm.1 (by decide)
    | tok i => exact absurd hm.1 (by decide)
    | word w =>
      have hk := kw_law w.toList r hm2.1 (by simpa using hm2.2) (fun t h => (ok t h).2.2)
      refine (c_keyword S g (n + 2) w r b (by omega) hm.2.2 ok1).to ⟨_, (kwGo w.toList [] r).2, ?_, rfl, rfl⟩
      rw [hk, due_word, Array.length_toList]
  · subst hw
    exact (c_skip_blanks S g (n + 4) r b (by omega)).to ⟨_, _, rfl, rfl, aft g (brS_past false r)⟩
  · subst hw
    exact (c_skip_filler S g (n + 4) r b (by omega)).to ⟨_, _, rfl, rfl, aft g (brS_past true r)⟩
  · subst hw
    exact (c_optional_blank S g (n + 2) r b (by omega) ok1).to ⟨_, _, rfl, rfl, sam g (brS_optB r)⟩
  · subst hw
    exact (c_optional_equals S g (n + 2) r b (by omega) fun t h => ok1 t (past_mem false r t h)).to ⟨_, _, rfl, rfl, sam g (brS_optE r)⟩
  · subst hw
    rw [due_brace]
    refine (c_left_brace S g (n + 3) r b (by omega)).to ?_ ?_
    · rintro v g' ⟨hbr, rfl, rfl⟩
      exact ⟨_, _, if_pos hbr, rfl, aft g (brS_past true r)⟩
    · rintro c ⟨rfl, hbr⟩
      exact ⟨if_neg (Bool.eq_false_iff.mp hbr), .inl ⟨rfl, rfl⟩⟩
  · subst hw
    cases m with
    | word i => exact absurd rfl hm.1
    | tok i => exact absurd hm.1 (by decide)
    | num top =>
      refine (c_small S g (n + 0) top r b (by omega) (fun t h => ⟨(ok t h).1, (ok t h).2.1⟩)).to ?_ ?_
      · rintro v g' ⟨x, q, hs, rfl, rfl⟩
        exact ⟨.int x, q, congrArg (Option.map _) hs, rfl, sam g (brS_small hs)⟩
      · rintro c ⟨rfl, hs⟩
        exact ⟨congrArg (Option.map _) hs, .inr ⟨rfl, rfl⟩⟩
  · subst hw
    exact (c_signs S g (n + 3) r b (by omega)).to ⟨_, _, rfl, rfl, aft g (brS_sg _ _ _)⟩
  · subst hw
    exact (c_read S g (n + 6) r b (by omega)).to ⟨_, _, rfl, rfl, aft g (p := r) rfl⟩
  · have hw : way = 9 := Int.le_antisymm h9 (up (up (up (up (up (up (up (up (up h0 n0) n1) n2) n3) n4) n5) n6) n7) n8)
    subst hw
    cases m with
    | word i => exact absurd rfl hm.2.1
    | num i => exact absurd hm.1 (by decide)
    | tok t =>
      refine (c_back S g (n + 4) t hm.2 r b (by omega)).to ⟨_, _, rfl, rfl, ?_⟩
      rw [brS, show b + brS r - (brc t + brS r) = b - brc t by omega]
end
end Mine
/-! ## TF -/
namespace Mine
open PySem PySem.W PySem.Calls PyProof.Rows
theorem stock_ok : ∀ t ∈ stockL, TokL t := by
  intro t ht
  simp only [stockL, List.mem_cons, List.not_mem_nil, or_false] at ht
  rcases ht with rfl | rfl | rfl | rfl | rfl | rfl | rfl | rfl | rfl | rfl | rfl | rfl | rfl | rfl | rfl | rfl | rfl | rfl | rfl | rfl | rfl | rfl <;> (refine ⟨?_, ?_, ?_⟩ <;> simp [TokOk, TokQ, TokB])
theorem letter_ok (cat c b : Int) (h1 : cat = 11 ∨ cat = 12 ∨ cat = 8) (h2 : 97 ≤ c ∧ c ≤ 122) (h3 : b = 0 ∨ b = 1) : TokL (cat, c - 32 * b) := by
  refine ⟨⟨?_, ?_, ?_⟩, ⟨?_, ?_, ?_⟩, ?_⟩
  · simp only; omega
  · simp only; omega
  · simp only; omega
  · simp only [ne_eq, Prod.mk.injEq, not_and]; omega
  · simp only [ne_eq, Prod.mk.injEq, not_and]; omega
  · simp only [ne_eq, Prod.mk.injEq, not_and]; omega
  · intro h; simp only at h; omega
theorem words_ok : ∀ w ∈ wordsL, WordOk w.cps.toList ∧ w.cps ≠ #[] ∧ w.cps.size ≤ 4 := by
  intro w hw
  simp only [wordsL, List.mem_cons, List.not_mem_nil, or_false] at hw
  rcases hw with rfl | rfl | rfl | rfl | rfl | rfl | rfl <;> (refine ⟨?_, ?_, ?_⟩ <;> first | decide +kernel | (show ∀ m ∈ _, 97 ≤ m ∧ m ≤ 122; decide +kernel))
theorem words_at (x : Int) (h0 : 0 ≤ x) (h1 : x < 7) : ∃ w ∈ wordsL, (wordsL.map PyData.str)[x.toNat]? = some (.str w) := by
  have : x = 0 ∨ x = 1 ∨ x = 2 ∨ x = 3 ∨ x = 4 ∨ x = 5 ∨ x = 6 := by omega
  rcases this with rfl | rfl | rfl | rfl | rfl | rfl | rfl <;> exact ⟨_, by simp [wordsL], rfl⟩
theorem stock_at (x : Int) (h0 : 0 ≤ x) (h1 : x < 22) : ∃ t ∈ stockL, (stockL.map tkd)[x.toNat]? = some (tkd t) := by
  have hl : x.toNat < stockL.length := by show _ < 22; omega
  exact ⟨stockL[x.toNat], List.getElem_mem hl, by simp [hl]⟩
section
variable (S : Stat) (g : Gs) (n : Nat)
theorem cat_at {x : Int} (h0 : 0 ≤ x) (h1 : x < 3) : ∃ cat : Int, (cat = 11 ∨ cat = 12 ∨ cat = 8) ∧ ([PyData.int 11, .int 12, .int 8])[x.toNat]? = some (.int cat) := by
  have : x = 0 ∨ x = 1 ∨ x = 2 := by omega
  rcases this with rfl | rfl | rfl
  · exact ⟨11, .inl rfl, rfl⟩
  · exact ⟨12, .inr (.inl rfl), rfl⟩
  · exact ⟨8, .inr (.inr rfl), rfl⟩
theorem ch_row {base : Fr'} {Q : List PyData → Sto → Prop} (hb : base = [none, none, none, none, some .pool]) (l : List Nat) : ∀ (acc : List Tk) (p : Int × Int), POk p → (∀ m ∈ l, 97 ≤ m ∧ m ≤ 122) → (∀ t ∈ acc, TokL t) →
    (∀ (acc' : List Tk) p', POk p' → (∀ t ∈ acc', TokL t) → acc'.length = acc.length + l.length → Q (acc'.map tkd) ⟨{ g with pool := some p' }, none⟩) →
    compGo (turnW base [1] none (.tup (.cons (.ix (.lst (.cons (.c (.int 11)) (.cons (.c (.int 12)) (.cons (.c (.int 8)) .nil)))) (.call (S.lv (n + 1)) 513 (.cons (.loc 4) (.cons (.c (.int 3)) .nil)))) (.cons (.bin .Sub (.bi .ord (.cons (.loc 1) .nil)) (.bin .Mult (.c (.int 32)) (.call (S.lv (n + 1)) 513 (.cons (.loc 4) (.cons (.c (.int 2)) .nil))))) .nil)))) Q (l.map fun c => [.str ⟨#[c]⟩]) (acc.map tkd) ⟨{ g with pool := some p }, none⟩ := by
  subst hb
  induction l with
  | nil => exact fun acc p hp hl ha q => q acc p hp ha rfl
  | cons c l ih =>
    intro acc p hp hl ha q
    refine (c_take S g n 3 (by decide) p hp).mono (Nat.le_refl _) ?_
    rintro v g' ⟨x, p1, hx0, hx1, hp1, rfl, rfl⟩
    obtain ⟨cat, hcat, hx⟩ := cat_at hx0 hx1
    refine ixL_of hx0 (by omega) hx ⟨rfl, (c_take S g n 2 (by decide) p1 hp1).mono (Nat.le_refl _) ?_⟩
    rintro v g' ⟨y, p2, hy0, hy1, hp2, rfl, rfl⟩
    have hm := hl c (.head _)
    have hok : TokL (cat, (c : Int) - 32 * y) := letter_ok cat c y hcat (by omega) (by omega)
    have := ih (acc ++ [(cat, (c : Int) - 32 * y)]) p2 hp2 (fun m hm => hl m (.tail _ hm)) (fun t ht => (List.mem_append.mp ht).elim (ha t) fun h => List.mem_singleton.mp h ▸ hok) (fun acc' p' h1 h2 h3 => q acc' p' h1 h2 (by rw [h3, List.length_append]; show acc.length + 1 + l.length = acc.length + (l.length + 1); omega))
    rw [List.map_append] at this
    exact ⟨.inl (by decide), this⟩
inductive Rw (g : Gs) (k : Nat) (fr : Fr') (σ : Sto) : Prop
  | mk (row : List Tk) (x y p) : fr = [some .pool, some (.d (.list (row.map tkd))), x, y] → (∀ t ∈ row, TokL t) → row.length + 4 * k ≤ 40 → POk p → σ = ⟨{ g with pool := some p }, none⟩ → Rw g k fr σ
theorem c_row (p : Int × Int) (hp : POk p) : SC (S.lv (n + 2)) 518 [.pool] { g with pool := some p }
    (fun v g' => ∃ row : List Tk, ∃ p' : Int × Int, v = .d (.list (row.map tkd)) ∧ (∀ t ∈ row, TokL t) ∧ row.length ≤ 40 ∧ POk p' ∧ g' = { g with pool := some p' }) := by
  refine SC.ofCell (S := S.lv (n + 1)) 21 "pool" 3 rfl rfl (fun _ _ _ _ _ _ _ _ => rfl) (fun _ => rfl) (by decide +kernel) rfl (.cons (SS.asg 1 rfl (SE.lst .nil))
 (.cons (SS.forR 2 4 rfl rfl (SE.bin SE.int (SE.call 5 20 rfl rfl (.cons (SE.cel 0 rfl) (.cons SE.int .nil)))) (.cons (SS.ifs (SE.cmp (SE.call 5 20 rfl rfl (.cons (SE.cel 0 rfl) (.cons SE.int .nil))) SE.int) (.cons (SS.asg 3 rfl (SE.ix (SE.call 6 18 rfl rfl .nil) (SE.call 5 20 rfl rfl (.cons (SE.cel 0 rfl) (.cons SE.int .nil)))))
 (.cons (SS.asg 1 rfl (SE.bin (SE.loc 1 rfl) (SE.compX (CO_row rfl rfl rfl) (SrcE.chars (iN := 1) (SE.loc 3 rfl) rfl) .none (SE.tup (.cons (SE.ix (SE.lst (.cons SE.int (.cons SE.int (.cons SE.int .nil)))) (SE.call 2 20 rfl rfl (.cons (SE.cel 4 rfl) (.cons SE.int .nil)))) (.cons (SE.bin (SE.bi 3 2 rfl rfl (.cons (SE.loc 1 rfl) .nil)) (SE.bin SE.int (SE.call 2 20 rfl rfl (.cons (SE.cel 4 rfl) (.cons SE.int .nil))))) .nil))))))
 .nil)) (.cons (SS.asg 1 rfl (SE.bin (SE.loc 1 rfl) (SE.lst (.cons (SE.ix (SE.call 7 17 rfl rfl .nil) (SE.call 5 20 rfl rfl (.cons (SE.cel 0 rfl) (.cons SE.int .nil)))) .nil))))
 .nil))
 .nil))
 (.cons (SS.ret (SE.loc 1 rfl))
 .nil))) ?_
  refine (c_take S g n 8 (by decide) p hp).mono (Nat.le_refl _) ?_
  rintro v g' ⟨x, p1, hx0, hx1, hp1, rfl, rfl⟩
  obtain ⟨k0, rfl⟩ := Int.eq_ofNat_of_zero_le hx0
  refine ⟨3 + k0, by push_cast; rfl, by omega, ?_⟩
  refine forGo_inv (Rw g) _ _ _ ⟨[], none, none, p1, rfl, nofun, by simp; omega, hp1, rfl⟩ ?_ ?_
  · rintro k d _ _ K - ⟨row, x, y, p2, rfl, hrow, hlen, hp2, rfl⟩ hK
    refine ifs_go ((c_take S g n 4 (by decide) p2 hp2).mono (Nat.le_refl _) ?_)
    rintro v g' ⟨x3, p3, hx3, hx3', hp3, rfl, rfl⟩
    refine brd (fun _ => (c_words S _ n).to ((c_take S g n 7 (by decide) p3 hp3).mono (Nat.le_refl _) ?_)) fun _ => (c_stock S _ n).to ((c_take S g n 22 (by decide) p3 hp3).mono (Nat.le_refl _) ?_)
    · rintro v g' ⟨x4, p4, hx4, hx4', hp4, rfl, rfl⟩
      obtain ⟨w, hw, hat⟩ := words_at x4 hx4 hx4'
      obtain ⟨w1, w2, w3⟩ := words_ok w hw
      refine ixL_of hx4 (by omega) hat ⟨by rw [List.length_map, Array.length_toList]; exact Nat.le_trans w3 (by decide), ch_row S g n rfl w.cps.toList [] p4 hp4 w1 nofun fun acc p5 hp5 hacc hal => ?_⟩
      have hal2 : acc.length ≤ 4 := by rw [hal, Array.length_toList]; exact Nat.le_trans (Nat.le_of_eq (Nat.zero_add _)) w3
      refine ⟨by rw [List.length_map, List.length_map]; omega, hK _ _ ⟨row ++ acc, _, _, p5, by rw [List.map_append]; rfl, fun t h => (List.mem_append.mp h).elim (hrow t) (hacc t), by rw [List.length_append]; omega, hp5, rfl⟩⟩
    · rintro v g' ⟨x4, p4, hx4, hx4', hp4, rfl, rfl⟩
      obtain ⟨t, ht, hat⟩ := stock_at x4 hx4 hx4'
      refine ixL_of hx4 (by omega) hat ⟨by show (row.map tkd).length + 1 ≤ _; rw [List.length_map]; omega, hK _ _ ⟨row ++ [t], _, _, p4, by rw [List.map_append]; rfl, fun u h => (List.mem_append.mp h).elim (hrow u) fun h => List.mem_singleton.mp h ▸ stock_ok _ ht, by rw [List.length_append, List.length_singleton]; omega, hp4, rfl⟩⟩
  · rintro _ _ ⟨row, x, y, p2, rfl, hrow, hlen, hp2, rfl⟩
    exact ⟨row, p2, rfl, hrow, by omega, hp2, rfl⟩
end
end Mine
/-! ## TG -/
namespace Mine
open PySem PySem.W PySem.Calls PyProof.Rows
noncomputable def SX.exI (x : X) : SX := fun fr σ N _ => x fr σ fun a σ => isI a fun _ => N fr σ
theorem SS.expI {S : Stat} {ks : List (Str × NameKind)} {pos : Pos} {e : Expr} {x : X} (h : SE S ks e x) (hs : ∀ l env, swapsWith e none l env = pure false := by intro _ _; rfl) : SS S ks (.Expr e pos) (.exI x) := ⟨fun {d env T fr σ A E s QQ N Rt} H hA hT R hx nx r =>
  wpAny_Expr (h.ev H hA R hx fun v a σ' h' tk' R' q => by
    obtain ⟨i, rfl, q⟩ := isI_inv q
    obtain ⟨t, rfl⟩ := R'.int
    exact nx _ _ _ _ R'.drop q) (by unfold interactive; rw [H.kind]; rfl) (hs _ _)⟩
section
variable (S : Stat) (g : Gs) (n : Nat)
theorem c_check_whole (i : Int) : SC (S.lv (n + 1)) 140 [.d (.int i)] g (fun v g' => v = .d (.int i) ∧ g' = g) := by
  refine SC.of (S := S.lv (n)) 30 ["value"] 0 rfl rfl (fun _ _ _ _ _ _ _ _ => fa1 fun a => BindsTo.of_eq rfl) (by decide +kernel) rfl rfl (.cons (SS.ifs (SE.or (SE.not (SE.isi 1 2 rfl rfl (SE.loc 0 rfl))) (SE.one (SE.isb 1 3 rfl rfl (SE.loc 0 rfl)))) (.cons SS.stuck
 .nil) .nil)
 (.cons (SS.ret (SE.loc 0 rfl))
 .nil)) ?_
  exact ifs_f (fun K h => h) ⟨rfl, rfl⟩
theorem in_span {a b i : Int} (h1 : a ≤ i) (h2 : i ≤ b) : (!(decide (a ≤ i) && decide (i ≤ b))) = false := by rw [decide_eq_true h1, decide_eq_true h2]; rfl
theorem c_check_number (i : Int) (h0 : 0 ≤ i) (h1 : i ≤ 2147483647) : SC (S.lv (n + 2)) 147 [.d (.int i)] g (fun v g' => v = .d (.int i) ∧ g' = g) := by
  refine SC.of (S := S.lv (n+1)) 31 ["value"] 0 rfl rfl (fun _ _ _ _ _ _ _ _ => fa1 fun a => BindsTo.of_eq rfl) (by decide +kernel) rfl rfl (.cons (SS.ifs (SE.not (SE.cmp2 (SE.neg (SE.glob 1 6 rfl rfl)) (SE.call 2 30 rfl rfl (.cons (SE.loc 0 rfl) .nil)) (SE.glob 1 6 rfl rfl))) (.cons SS.stuck
 .nil) .nil)
 (.cons (SS.ret (SE.loc 0 rfl))
 .nil)) ?_
  exact ifs_v _ (σ' := ⟨g, none⟩) (fun K h => (c_check_whole S g n i).to (br_and (σ := ⟨g, none⟩) (K := fun a σ => isB a fun b => K (.d (.bool (!b))) σ) h)) (fun h => nomatch (in_span (Int.le_trans (by decide) h0) h1).symm.trans h) fun _ => ⟨rfl, rfl⟩
theorem c_check_dimen (i : Int) (h0 : 0 ≤ i) (h1 : i ≤ 1073741823) : SC (S.lv (n + 2)) 154 [.d (.int i)] g (fun v g' => v = .d (.int i) ∧ g' = g) := by
  refine SC.of (S := S.lv (n+1)) 32 ["value"] 0 rfl rfl (fun _ _ _ _ _ _ _ _ => fa1 fun a => BindsTo.of_eq rfl) (by decide +kernel) rfl rfl (.cons (SS.ifs (SE.not (SE.cmp2 (SE.neg (SE.glob 1 30 rfl rfl)) (SE.call 2 30 rfl rfl (.cons (SE.loc 0 rfl) .nil)) (SE.glob 1 30 rfl rfl))) (.cons SS.stuck
 .nil) .nil)
 (.cons (SS.ret (SE.loc 0 rfl))
 .nil)) ?_
  exact ifs_v _ (σ' := ⟨g, none⟩) (fun K h => (c_check_whole S g n i).to (br_and (σ := ⟨g, none⟩) (K := fun a σ => isB a fun b => K (.d (.bool (!b))) σ) h)) (fun h => nomatch (in_span (Int.le_trans (by decide) h0) h1).symm.trans h) fun _ => ⟨rfl, rfl⟩
theorem c_check_inner (i j : Int) (h : (i = 0 ∧ j = 7) ∨ (i = 1 ∧ j = 300)) : SC (S.lv (n + 3)) 421 [.d (.tuple [.int i, .int j])] g (fun v g' => v = .d .none ∧ g' = g) := by
  refine SC.of (S := S.lv (n+2)) 33 ["found"] 2 rfl rfl (fun _ _ _ _ _ _ _ _ => fa1 fun a => BindsTo.of_eq rfl) (by decide +kernel) rfl rfl (.cons (SS.asgP (NmE.cons (i := 1) rfl (NmE.cons (i := 2) rfl .nil)) (SE.loc 0 rfl))
 (.cons (SS.ifs (SE.not (SE.call 3 0 rfl rfl (.cons (SE.loc 1 rfl) (.cons (SE.glob 4 17 rfl rfl) (.cons (SE.glob 5 28 rfl rfl) .nil))))) (.cons SS.stuck
 .nil) .nil)
 (.cons (SS.ifs (SE.cmp (SE.loc 1 rfl) (SE.glob 4 17 rfl rfl)) (.cons (SS.expI (SE.call 7 31 rfl rfl (.cons (SE.loc 2 rfl) .nil)))
 .nil) (.cons (SS.ifs (SE.cmp (SE.loc 1 rfl) (SE.glob 8 29 rfl rfl)) (.cons (SS.expI (SE.call 9 32 rfl rfl (.cons (SE.loc 2 rfl) .nil)))
 .nil) (.cons SS.stuck
 .nil))
 .nil))
 .nil))) ?_
  rcases h with ⟨rfl, rfl⟩ | ⟨rfl, rfl⟩
  · exact ifs_f (σ' := ⟨g, none⟩) (fun K h => (c_is_whole S g (n + 1) 0 0 5).to h) (ifs_t (fun K h => h) ((c_check_number S g n 7 (by decide) (by decide)).to ⟨rfl, rfl⟩))
  · exact ifs_f (σ' := ⟨g, none⟩) (fun K h => (c_is_whole S g (n + 1) 1 0 5).to h) (ifs_f (fun K h => h) (ifs_t (fun K h => h) ((c_check_dimen S g n 300 (by decide) (by decide)).to ⟨rfl, rfl⟩)))
end
end Mine
/-! ## TH -/
namespace Mine
open PySem PySem.W PySem.Calls PyProof.Rows
/-- the contract of the pool's maker -/
theorem c_poolOf {S : Stat} (j : Nat) {f : Addr} {q : Str} {i : Nat} {m : Option Nat} {sg : Sig} {rest : List Stmt} {D : PyData} {sl : SL} (nS : Str) {np lp pos q1 q2 : Pos} {k1 k2 : Nat} (hj : fnT[j]? = some (f, q, i, m)) (hs : sigAt i m = some sg)
    (hbody : sg.body = .Assign [.Name "pool" np] (.List [.Constant (.int 0) k1 q1, .Constant (.int 1) k2 q2] lp) pos :: rest) (hbind : Binds q sg 1 [nS]) (hc : scOk sg.scope = true) (h0 : sg.scope.names[0]? = some (nS, .local)) (h1 : sg.scope.names[1]? = some (("pool" : Str), NameKind.local))
    (hb : ∀ ad : Ad, SSL { S with ad := ad } sg.scope.names rest sl) (hw : sl [some (.d D), some .pool, none] ⟨{ pool := some (0, 1) }, none⟩ (fun _ _ => False) (fun a _ σ => a = .pool ∧ ∃ p, POk p ∧ σ.g = { pool := some p })) (hd : (f == 436 || f == 56) = false)
    {A : Around} {s : Shared} {c : CM} {v : Value} (hA : Rm A (S.k + 1)) (Hp : Hp S.hb c [] s.heap) (hv : Rd c v D) {QQ E : Value → Shared → Prop}
    (ret : ∀ I o h' tk' c' p, Out s.heap c [] [(I, o)] c' h' → PoolM { S.ad with lp := I } c' (some p) [(I, o)] → POk p → QQ (.ref I) { s with heap := h', toks := tk' }) :
    wpAny (model PG S.w) A (call (.ref f) [v]) QQ E s := by
  cases FnAt.of (S.fn j hj hs) with | @mk oc od osl nm dV kV doc pm an cdv ct ho hcd hdv =>
  obtain rfl := noDef_none hd hdv
  cases ScOk.of hc with | mk nd nm' co gen kd =>
  have hh : ∀ b o, S.hb.get? b = some o → s.heap.get? b = some o := fun b o e => Hp.sub _ _ (Hp.base _ _ e)
  refine wpAny_call (codeAny_call_def (binds := [(nS, v)]) (Nat.lt_of_le_of_lt (Nat.le_add_right _ _) hA.depth) (hh _ _ (S.G.K _ _ ho)) rfl (S.G.nl.keeps hh) (codeRec_of (S.G.K.keeps hh) hcd) rfl (hbind nm kV doc pm an cdv ct s [v] rfl) (fun x hx => (nm' x hx).2) (fun y hy => ?_) (fun h₁ hns₁ hk₁ => ?_) co gen kd)
  · obtain rfl := List.mem_singleton.mp hy
    exact lookup_of_nodup nd h0
  have SI := Mine.Sx.enter Hp (Nat.le_refl _) hns₁ hk₁
  have He : EnvOk sg.scope.names ⟨s.heap, c, [], s.heap.objs.size, [], []⟩ (callEnv (fnOf nm q sg.params sg.body sg.scope .none kV doc pm an cdv ct) s.heap.objs.size f) := ⟨kd, rfl, rfl, rfl, rfl, rfl, nd, fun p hp => (nm' p hp).1⟩
  show wpAny _ _ (execs sg.body _) _ _ _
  generalize callEnv (fnOf nm q sg.params sg.body sg.scope .none kV doc pm an cdv ct) s.heap.objs.size f = env at *
  rw [hbody]
  refine wpAny_execs_cons (wpAny_Assign_Name (wpAny_List (spliced_more (wpAny_Constant_int (spliced_more (wpAny_Constant_int (spliced_none ⟨Nat.le_of_ble_eq_true rfl, ?_⟩)) rfl)) rfl)) rfl)
  have SP := SI.pushMu (o := { cls := .type "list", data := .seq ([.int 0 (s.toks + 1), .int 1 (s.toks + 1 + 1)] : List Value).toArray }) (Heap.get?_push_size h₁ rfl) (Nat.le_refl _) (push_keeps _ _)
  have R1 : Rl { S with ad := { S.ad with lp := h₁.objs.size } } sg.scope.names ⟨s.heap, c, [], s.heap.objs.size, [], []⟩ (Tm.v { S.ad with lp := h₁.objs.size } (.ref h₁.objs.size) .pool Tm.nil) [some (.d D), none, none] ⟨{ pool := some (0, 1) }, none⟩ (h₁.push { cls := .type "list", data := .seq ([.int 0 (s.toks + 1), .int 1 (s.toks + 1 + 1)] : List Value).toArray }) := by
    refine ⟨c, _, [(h₁.objs.size, { cls := .type "list", data := .seq ([.int 0 (s.toks + 1), .int 1 (s.toks + 1 + 1)] : List Value).toArray })], [], 0, SP, ⟨_, [], (List.append_nil _).symm, .some rfl rfl, .none⟩, .none, ?_, rfl, True.intro⟩
    intro i x k av hi hav
    rcases i with _ | _ | _ | i
    · rw [h0] at hi
      cases hi
      cases hav
      exact .loc (by rw [List.reverse_singleton, List.lookup, beq_self_eq_true]) hv
    · exact nomatch hav
    · exact nomatch hav
    · exact nomatch hav
  refine st_sound (S := { S with ad := { S.ad with lp := h₁.objs.size } }) (s := { s with heap := _, toks := _ }) He h1 R1 fun h2 tk2 R2 => ?_
  refine (hb { S.ad with lp := h₁.objs.size }).ex (s := { s with heap := h2, toks := tk2 }) (T := Tm.nil) He (Rm.deeper hA) (fun _ _ _ t => t) R2 hw (fun fr' σ' h' tk' R' q => q.elim) (fun v a fr' σ' h' tk' R' q => ?_)
  obtain ⟨rfl, p, hp, q2⟩ := q
  cases R' with | mk c' m' mg' mh' lh' X' G' H' F' t =>
  cases G' with | mk mp ms e PM SM =>
  rw [q2] at PM SM
  cases SM
  obtain rfl : v = .ref h₁.objs.size := t.1
  cases PM with
  | @some o a b t u n' h3 h4 =>
    rw [List.append_nil] at e
    subst e
    exact ret _ o h' tk' c' (a, b) (X'.out (List.sublist_append_left _ _)) (.some h3 h4) hp
end Mine
/-! ## TI -/
namespace Mine
open PySem PySem.W PySem.Calls PyProof.Rows
theorem big_bits {a k : Nat} (h : a < 10 ^ (120 * k)) (hk : k ≤ 24) : Builtin.Int.intBits (a : Int) ≤ 2 ^ 20 := by
  refine Nat.le_trans (intBits_le (k := 9600) ?_) (by decide)
  have h1 : (10 : Nat) ^ (120 * k) ≤ 10 ^ 2880 := Nat.pow_le_pow_right (by decide) (by omega)
  have h2 : (10 : Nat) ^ 2880 < 2 ^ 9600 := by decide +kernel
  simp only [Int.natAbs_natCast]
  omega
theorem pool_step (a n B : Nat) : (a : Int) * (B : Int) + ((n : Nat) : Int) % (B : Int) = ((a * B + n % B : Nat) : Int) := by push_cast; rfl
theorem pool_lt (a n B C : Nat) (hB : 0 < B) (h : a < C) : a * B + n % B < C * B := by
  have h1 := Nat.mod_lt n hB
  have h2 : (a + 1) * B ≤ C * B := Nat.mul_le_mul_right _ h
  rw [Nat.add_mul] at h2
  omega
inductive Pl (l : List Int) (k : Nat) (fr : Fr') (σ : Sto) : Prop
  | mk (a : Nat) (p1 : Int) (x : Option AV) : k ≤ 24 → a < 10 ^ (120 * (24 - k)) → 0 ≤ p1 → p1 < 2147483648 → fr = [some (.d (.list (l.map .int))), some .pool, x] → σ = ⟨{ pool := some ((a : Int), p1) }, none⟩ → Pl l k fr σ
section
variable (S : Stat)
theorem c_pool (l : List Int) (hl : l.length ≤ 1000) {A : Around} {s : Shared} {c : CM} {v : Value} (hA : Rm A (S.k + 1)) (Hp : Hp S.hb c [] s.heap) (hv : Rd c v (.list (l.map .int))) {QQ E : Value → Shared → Prop}
    (ret : ∀ I o h' tk' c' p, Out s.heap c [] [(I, o)] c' h' → PoolM { S.ad with lp := I } c' (some p) [(I, o)] → POk p → QQ (.ref I) { s with heap := h', toks := tk' }) :
    wpAny (model PG S.w) A (call (.ref 506) [v]) QQ E s := by
  refine c_poolOf (D := .list (l.map .int)) 19 "script" rfl rfl rfl (fun _ _ _ _ _ _ _ _ => fa1 fun a => BindsTo.of_eq rfl) (by decide +kernel) rfl rfl (fun ad => (.cons (SS.forL 2 rfl (SE.slB (SE.loc 0 rfl) SE.int) (.cons (SS.ifs (SE.cmp (SE.bi 3 1 rfl rfl (.cons (SE.loc 2 rfl) .nil)) (SE.bin SE.int SE.int)) (.cons (SS.setIx 1 0 rfl (SE.bin (SE.bin (SE.ix (SE.loc 1 rfl) SE.int) (SE.bin SE.int SE.int)) (SE.bin (SE.bi 3 1 rfl rfl (.cons (SE.loc 2 rfl) .nil)) (SE.bin SE.int SE.int))) rfl)
 .nil) (.cons (SS.setIx 1 1 rfl (SE.bin (SE.bin (SE.bin (SE.bin (SE.ix (SE.loc 1 rfl) SE.int) SE.int) (SE.bin SE.int (SE.bi 3 1 rfl rfl (.cons (SE.loc 2 rfl) .nil)))) (SE.int_ 4 rfl (SE.cmp (SE.loc 2 rfl) SE.int))) SE.int) rfl)
 .nil))
 .nil))
 (.cons (SS.ret (SE.loc 1 rfl))
 .nil))) ?_ rfl hA Hp hv ret
  refine ⟨⟨by decide, by rw [List.length_map]; omega⟩, ?_⟩
  rw [← List.map_take]
  have h24 : (l.take (Int.toNat 24)).length ≤ 24 := List.length_take_le _ _
  generalize l.take (Int.toNat 24) = l' at h24 ⊢
  refine forGo_inv (Pl l) _ _ _ ⟨0, 1, none, by simpa using h24, Nat.pow_pos (by decide), by omega, by omega, rfl, rfl⟩ ?_ ?_
  · rintro k d _ _ K hd ⟨a, p1, x, hk, ha, h0, h1, rfl, rfl⟩ hK
    obtain ⟨i, hi, rfl⟩ := List.mem_map.mp hd
    refine ifs_d (fun K h => ⟨⟨by decide, by decide, by decide⟩, h⟩) (fun _ => ?_) fun _ => ?_
    · have hT : (10 : Int) ^ Int.toNat 120 = ((10 ^ 120 : Nat) : Int) := by decide +kernel
      have habs : (if i < 0 then -i else i) = ((i.natAbs : Nat) : Int) := by split <;> omega
      refine ⟨⟨by decide, by decide, by decide⟩, ?_⟩
      rw [hT]
      refine ⟨.inr (.inr ⟨big_bits ha (by omega), Nat.le_trans (intBits_le (k := 400) (by rw [Int.natAbs_natCast]; decide +kernel)) (by decide)⟩), ⟨⟨by decide, by decide, by decide⟩, ?_⟩⟩
      rw [hT]
      refine ⟨by decide +kernel, ?_⟩
      rw [habs, Int.fmod_eq_emod_of_nonneg _ (by decide +kernel)]
      have hlt : a * 10 ^ 120 + i.natAbs % 10 ^ 120 < 10 ^ (120 * (24 - k)) := by
        have h := pool_lt a i.natAbs (10 ^ 120) (10 ^ (120 * (24 - (k + 1)))) (Nat.pow_pos (by decide)) ha
        rw [← Nat.pow_add] at h
        rwa [show 120 * (24 - (k + 1)) + 120 = 120 * (24 - k) by omega] at h
      exact hK _ _ ⟨a * 10 ^ 120 + i.natAbs % 10 ^ 120, _, _, Nat.le_of_succ_le hk, hlt, h0, h1, rfl, by rw [← pool_step a i.natAbs (10 ^ 120)]⟩
    · exact ⟨.inr (.inl (by decide)), .inl (by decide), by decide, hK _ _ ⟨a, _, _, by omega, Nat.lt_of_lt_of_le ha (Nat.pow_le_pow_right (by decide) (by omega)), Int.fmod_nonneg_of_pos _ (by decide), Int.lt_trans (Int.fmod_lt_of_pos _ (by decide)) (by decide), rfl, rfl⟩⟩
  · rintro _ _ ⟨a, p1, x, hk, ha, h0, h1, rfl, rfl⟩
    exact ⟨rfl, ((a : Int), p1), ⟨Int.natCast_nonneg _, h0, h1⟩, rfl⟩
end
end Mine
/-! ## NN -/
namespace Mine
open PySem PySem.W PySem.Calls PyProof.Rows
/-! ## the source's own set-up: what is asked there and nowhere else -/
/-- the dict of inner quantities, with its epoch -/
inductive InA (a : Addr) (ep : Nat) (c : CM) : Prop
  | mk {o v0 v1} : c a = some o → (∀ (w : World) (h : Heap), h.get? a = some o → h.DictAt (intKind PG w) a [((0 : Int), v0), (1, v1)] ep) → Rd c v0 (tk2 0 7) → Rd c v1 (tk2 1 300) → InA a ep c
theorem InA.mono {a : Addr} {ep : Nat} {c c' : CM} (k : c.le c') (h : InA a ep c) : InA a ep c' := by
  cases h with | mk e h r0 r1 => exact ⟨k _ _ e, h, r0.mono k, r1.mono k⟩
theorem pairs_any {w w' : World} {es : List DictEntry} {kvs : List (Int × Value)} (h : Pairs (intKind PG w) es kvs) : Pairs (intKind PG w') es kvs := by
  induction h with
  | nil => exact .nil
  | cons a b _ ih => exact .cons a b ih
theorem dict_any {w : World} {o : Obj} {kvs : List (Int × Value)} (h : o.IsDictOf (intKind PG w) kvs) : ∃ ep, ∀ (w : World) (h : Heap) (a : Addr), h.get? a = some o → h.DictAt (intKind PG w) a kvs ep :=
  let ⟨es, ep, h1, h2, h3, h4, h5⟩ := h; ⟨ep, fun _ _ _ ho => ⟨o, es, ho, h1, h2, fun e he => h3 e he, pairs_any h4, h5⟩⟩
theorem valueAt2 (v0 v1 : Value) (k : Int) : valueAt [((0 : Int), v0), (1, v1)] k = if k = 0 then some v0 else if k = 1 then some v1 else none := by
  unfold valueAt
  by_cases k0 : 0 = k
  · rw [List.find?_cons_of_pos (by simpa using k0), if_pos k0.symm]; rfl
  · rw [List.find?_cons_of_neg (by simpa using k0), if_neg (Ne.symm k0)]
    by_cases k1 : 1 = k
    · rw [List.find?_cons_of_pos (by simpa using k1), if_pos k1.symm]; rfl
    · rw [List.find?_cons_of_neg (by simpa using k1), if_neg (Ne.symm k1)]; rfl
theorem InA.innerD {a : Addr} {ep : Nat} {c : CM} (h : InA a ep c) (hn : (a == sysModules) = false) : InnerD a c := by
  cases h with | mk e h r0 r1 =>
  refine ⟨hn, e, r0, r1, fun w h' ho => ?_⟩
  rw [← funext (valueAt2 _ _)]
  exact (h w h' ho).dictOf.mapOf
noncomputable def Tm.o (a : Addr) (o : Obj) (T : Tm) : Tm := ⟨fun c lh => c a = some o ∧ T.on c lh, fun k h => ⟨k _ _ h.1, T.mono k h.2⟩⟩
noncomputable def Tm.ina (a : Addr) (ep : Nat) (T : Tm) : Tm := ⟨fun c lh => InA a ep c ∧ T.on c lh, fun k h => ⟨h.1.mono k, T.mono k h.2⟩⟩
section
variable {S : Stat} {ks : List (Str × NameKind)} {d : Dy} {T : Tm} {fr : Fr'} {σ : Sto} {A : Around} {E : Value → Shared → Prop} {s : Shared} {env : Env}
inductive DAt (S : Stat) (ks : List (Str × NameKind)) (d : Dy) (T : Tm) (fr : Fr') (σ : Sto) (h : Heap) (a : Addr) (ep : Nat) : Prop
  | mk {v0 v1} : h.DictAt (intKind PG S.w) a [((0 : Int), v0), (1, v1)] ep → Rl S ks d (Tm.v S.ad v0 (.d (tk2 0 7)) (Tm.v S.ad v1 (.d (tk2 1 300)) T)) fr σ h → DAt S ks d T fr σ h a ep
theorem ina_at {h : Heap} {a : Addr} {ep : Nat} (R : Rl S ks d T fr σ h) (hI : ∀ c lh, T.on c lh → InA a ep c) : DAt S ks d T fr σ h a ep := by
  cases R with | mk c m mg mh lh X G H F t =>
  cases hI _ _ t with | mk e k r0 r1 =>
  exact ⟨k S.w _ (X.sub _ _ e), c, m, mg, mh, lh, X, G, H, F, r0, r1, t⟩
theorem Rl.top {h : Heap} (R : Rl S ks d T fr σ h) : (h.objs.size == sysModules) = false := by
  cases R with | mk c m mg mh lh X =>
  exact beq_eq_false_iff_ne.mpr (Nat.ne_of_gt (Nat.lt_trans (modules_low S.G.nl) (Nat.lt_of_le_of_lt X.sizeb X.lt)))
theorem loc_ev {i : Nat} {x : Str} {p : Pos} {a : AV} {QV : Value → Shared → Prop} (hi : ks[i]? = some (x, .local)) (H : EnvOk ks d env) (R : Rl S ks d T fr σ s.heap) (ha : fr[i]? = some (some a))
    (ret : ∀ v, Rl S ks d (Tm.v S.ad v a T) fr σ s.heap → QV v s) : wpAny (model PG S.w) A (eval (.Name x p) env) QV E s := by
  cases R with | mk c m mg mh lh X G Hh F t =>
  cases F i x _ a hi ha with | loc hm hv =>
  exact wpAny_Name (wpAny_loadName_local (m := m) H.kind (H.kindOf hi) (H.loc ▸ X.ns) hm (ret _ ⟨c, m, mg, mh, lh, X, G, Hh, F, hv, t⟩)) (H.dbg' hi)
theorem Rl.ref {h : Heap} {v : Value} {a : AV} {b : Addr} (R : Rl S ks d (Tm.v S.ad v a T) fr σ h) (hv : ∀ lh c v, VR S.ad lh c v a → v = .ref b) : v = .ref b := by
  cases R with | mk c m mg mh lh X G Hh F t => exact hv _ _ _ t.1
theorem ref_ev {i : Nat} {x : Str} {p : Pos} {a : AV} {b : Addr} {QV : Value → Shared → Prop} (hi : ks[i]? = some (x, .local)) (H : EnvOk ks d env) (R : Rl S ks d T fr σ s.heap) (ha : fr[i]? = some (some a)) (hv : ∀ lh c v, VR S.ad lh c v a → v = .ref b)
    (q : QV (.ref b) s) : wpAny (model PG S.w) A (eval (.Name x p) env) QV E s := loc_ev hi H R ha fun _ R' => R'.ref hv ▸ q
/-- an attribute of the object that is being made -/
theorem set_init {QQ : Unit → Shared → Prop} {x dx : Addr} {es : List DictEntry} {n : Nat} {name : Str} {v : Value} {pre post : List (Addr × Obj)} (R : Rl S ks { d with ex := pre ++ (dx, dictOf es n) :: post } T fr σ s.heap) (hT : ∀ c lh, T.on c lh → c x = some (instObj 481 dx))
    (hn : name ∈ attrs2) (hl : (getL name es).isSome = true) (hp : ∀ t v, putL name (PyData.keyHash S.w.params name) (.str name t) v es = es ++ [⟨PyData.keyHash S.w.params name, .str name t, v⟩]) (hz : es.length ≤ 10)
    (ret : ∀ h' tk' t1 n', Rl S ks { d with ex := pre ++ (dx, dictOf (es ++ [⟨PyData.keyHash S.w.params name, .str name t1, v⟩]) n') :: post } T fr σ h' → QQ () { s with heap := h', toks := tk' }) : wpAny (model PG S.w) A (setAttr (.ref x) name v) QQ E s := by
  cases R with | mk c m mg mh lh X G H F tt =>
  have X0 : Sx S.hb d.s₀ d.c₀ d.mod c d.L m (mg ++ (mh ++ (pre ++ (dx, dictOf es n) :: post))) s.heap := X
  rw [← List.append_assoc mh, ← List.append_assoc mg] at X0
  refine sx_setDict X0 (hT _ _ tt) hn hl (congrArg (fun z => (z, _)) (hp _ _)) (by rw [List.length_append]; exact Nat.le_trans (Nat.add_le_add_right hz 1) (by decide)) fun h' X' => ret h' (s.toks + 2) (s.toks + 1) (putN name es n) (by
    refine ⟨c, m, mg, mh, lh, ?_, G, H, F, tt⟩
    rw [List.append_assoc mg, List.append_assoc mh] at X'
    exact X')
end
end Mine
/-! ## NO -/
namespace Mine
open PySem PySem.W PySem.Calls PyProof.Rows
section
variable {S : Stat} {ks : List (Str × NameKind)} {d : Dy} {T : Tm} {fr : Fr'} {σ : Sto} {A : Around} {E : Value → Shared → Prop} {s : Shared} {QQ : Flow → Shared → Prop} {env : Env}
/-- self.rest = list(tokens)[::-1] -/
theorem init_rest {dx : Addr} {n iL : Nat} {ds : List PyData} {p1 p2 p3 p4 p5 p6 p7 p8 p9 p10 : Pos} {k1 : Nat} (H : EnvOk ks d env) (R : Rl S ks { d with ex := [(dx, dictOf [] n)] } T fr σ s.heap) (hT : ∀ c lh, T.on c lh → c S.ad.x = some (instObj 481 dx))
    (h0 : ks[0]? = some (("self" : Str), NameKind.local)) (h1 : ks[1]? = some (("tokens" : Str), NameKind.local)) (hL : ks[iL]? = some (("list" : Str), NameKind.globalImplicit)) (f0 : fr[0]? = some (some .src)) (f1 : fr[1]? = some (some (.d (.list ds)))) (hl : ds.length ≤ 100000)
    (ret : ∀ h' tk' t1 n' lr o ws, Rl S ks { d with ex := [(lr, o)] ++ (dx, dictOf [⟨PyData.keyHash S.w.params "rest", .str "rest" t1, .ref lr⟩] n') :: [] } (Tm.dl ws ds.reverse T) fr σ h' → LObj o ws → QQ .next { s with heap := h', toks := tk' }) :
    wpAny (model PG S.w) A (exec (.Assign [.Attribute (.Name "self" p1) "rest" p2] (.Subscript (.Call (.Name "list" p3) [.Name "tokens" p4] [] p5) (.Slice none none (some (.UnaryOp .USub (.Constant (.int 1) k1 p6) p7)) p8) p9) p10) env) QQ E s := by
  refine plainObj_wpAny_Assign_Attribute (Subscript_ (eval_call (ev_b 6 (H.ex _) R hL rfl (PyProof.Rows.callWith_type1 (spliced_more (loc_ev h1 (H.ex _) R f1 fun v R' => spliced_none ?_) rfl) rfl)))) rfl
  cases list_at R' with | @mk a vs ev hla hlen R1 =>
  subst ev
  clear R R'
  obtain ⟨o, ho, hc, nn, hdat⟩ := hla
  have hz : vs.length ≤ sizeLine := by rw [sizeLine_eq, hlen]; omega
  refine call_list_seq a (.inl rfl) ho hc hdat (fun h1' c1 hk1 hD1 => ?_) hz
  have hDl : h1'.IsList s.heap.objs.size vs.toArray := ⟨_, hD1, rfl, _, rfl⟩
  refine Slice_ (wpAny_pure (wpAny_pure (UnaryOp_ (wpAny_Constant_int (P.neg_int ?_)))))
  refine tail_any (Heap.IsList.typeIs (s := ⟨h1'.push _, _, _, _, _⟩) (hDl.push _)) slot_list_getitem.lookup (wpAny_getItem_list_slice (hDl.push _) (Heap.IsSliceOf.new ..) .none .none (.int _ _) (by simp) ?_ hz) rfl
  rw [pick_rev]
  have R5 := (R1.keeps hk1).keeps (push_keeps h1' { cls := .type "slice", data := .fields #[.none, .none, .int (-1) (s.toks + 1)] })
  generalize h1'.push { cls := .type "slice", data := .fields #[.none, .none, .int (-1) (s.toks + 1)] } = h3 at R5 ⊢
  have R6 := (R5.newEx (I := h3.objs.size) (o := { cls := .type "list", data := .seq vs.reverse.toArray }) (h' := h3.push { cls := .type "list", data := .seq vs.reverse.toArray }) (Heap.get?_push_size h3 rfl) (Nat.le_refl _) (push_keeps _ _)).1
  refine ref_ev (s := ⟨h3.push _, _, _, _, _⟩) h0 (H.ex _) R6 f0 (fun _ _ _ h => h) (set_init (s := ⟨h3.push _, _, _, _, _⟩) (pre := [(h3.objs.size, _)]) (post := []) R6 (fun c lh t => hT _ _ t.2) (.head _) rfl (fun _ _ => rfl) (Nat.zero_le _) fun h4 tk4 t1 n4 R7 => ?_)
  exact ret h4 tk4 t1 n4 _ _ vs.reverse (R7.imp fun c lh t => ⟨t.1.reverse, t.2⟩) ⟨0, rfl⟩
/-- self.inner = {} if inner is None else dict(inner) -/
theorem init_inner {dx : Addr} {n iD ep : Nat} {es : List DictEntry} {pre post : List (Addr × Obj)} {p1 p2 p3 p4 p5 p6 p7 p8 p9 p10 p11 : Pos} {k1 : Nat} (H : EnvOk ks d env) (R : Rl S ks { d with ex := pre ++ (dx, dictOf es n) :: post } T fr σ s.heap) (hT : ∀ c lh, T.on c lh → c S.ad.x = some (instObj 481 dx))
    (hI : ∀ c lh, T.on c lh → InA S.ad.lp ep c) (hne : (S.ad.lp == sysModules) = false)
    (h0 : ks[0]? = some (("self" : Str), NameKind.local)) (h2 : ks[2]? = some (("inner" : Str), NameKind.local)) (hD : ks[iD]? = some (("dict" : Str), NameKind.globalImplicit)) (f0 : fr[0]? = some (some .src)) (f2 : fr[2]? = some (some .pool)) (hl : (getL "inner" es).isSome = true)
    (hp : ∀ t v, putL "inner" (PyData.keyHash S.w.params "inner") (.str "inner" t) v es = es ++ [⟨PyData.keyHash S.w.params "inner", .str "inner" t, v⟩]) (hz : es.length ≤ 10)
    (ret : ∀ h' tk' t1 n' di ep, (di == sysModules) = false → Rl S ks { d with ex := pre ++ (dx, dictOf (es ++ [⟨PyData.keyHash S.w.params "inner", .str "inner" t1, .ref di⟩]) n') :: post } (Tm.ina di ep T) fr σ h' → QQ .next { s with heap := h', toks := tk' }) :
    wpAny (model PG S.w) A (exec (.Assign [.Attribute (.Name "self" p1) "inner" p2] (.IfExp (.Compare (.Name "inner" p3) [.Is] [.Constant .none k1 p4] p5) (.Dict [] [] p6) (.Call (.Name "dict" p7) [.Name "inner" p8] [] p9) p10) p11) env) QQ E s := by
  refine plainObj_wpAny_Assign_Attribute (IfExp_ (wpAny_isTrue_Compare1 (ref_ev h2 (H.ex _) R f2 (fun _ _ _ h => h) (Constant_none (is_none_ne nofun (wpAny_truthy_bool ?_)))) rfl)) rfl
  rw [if_neg nofun]
  refine eval_call (ev_b 7 (H.ex _) R hD rfl (PyProof.Rows.callWith_type1 (spliced_more (ref_ev h2 (H.ex _) R f2 (fun _ _ _ h => h) (spliced_none ?_)) rfl) rfl))
  cases ina_at R hI with | @mk v0 v1 hda R1 =>
  refine kt_call_dict hne hda.dictOf (by rw [sizeLine_eq]; exact Nat.le_of_ble_eq_true rfl) fun h4 hd4 hs4 => ?_
  obtain ⟨o4, ho4, hi4⟩ := Heap.dictOf_iff.mp hd4
  obtain ⟨ep', hep⟩ := dict_any hi4
  have R4 : Rl S ks { d with ex := pre ++ (dx, dictOf es n) :: post } (Tm.ina s.heap.objs.size ep' T) fr σ h4 :=
    R1.cold ho4 (Nat.le_refl _) (fun b o e => (hs4.2 b (Nat.ne_of_lt (Heap.lt_size e))).trans (Heap.get?_push_of_some _ e)) fun c lh e t => ⟨⟨e, fun w h q => hep w h _ q, t.1, t.2.1⟩, t.2.2⟩
  exact ref_ev (s := { s with heap := h4 }) h0 (H.ex _) R4 f0 (fun _ _ _ h => h) (set_init (s := { s with heap := h4 }) R4 (fun c lh t => hT _ _ t.2) (.tail _ (.head _)) hl hp hz fun h6 tk6 t6 n6 R6 => ret h6 tk6 t6 n6 _ _ R.top R6)
/-- an attribute of the object that is being made, from a text -/
theorem init_attr {dx : Addr} {n : Nat} {es : List DictEntry} {pre post : List (Addr × Obj)} {nm : Str} {e : Expr} {x : X} {p1 p2 p3 : Pos} {Q : AV → Sto → Prop} (H : EnvOk ks d env) (hA : Rm A S.k) (R : Rl S ks { d with ex := pre ++ (dx, dictOf es n) :: post } T fr σ s.heap) (hT : ∀ c lh, T.on c lh → c S.ad.x = some (instObj 481 dx))
    (h0 : ks[0]? = some (("self" : Str), NameKind.local)) (f0 : fr[0]? = some (some .src)) (he : SE S ks e x) (hx : x fr σ Q) (hn : nm ∈ attrs2) (hl : (getL nm es).isSome = true)
    (hp : ∀ t v, putL nm (PyData.keyHash S.w.params nm) (.str nm t) v es = es ++ [⟨PyData.keyHash S.w.params nm, .str nm t, v⟩]) (hz : es.length ≤ 10)
    (ret : ∀ v a σ' h' tk' t1 n', Q a σ' → Rl S ks { d with ex := pre ++ (dx, dictOf (es ++ [⟨PyData.keyHash S.w.params nm, .str nm t1, v⟩]) n') :: post } (Tm.v S.ad v a T) fr σ' h' → QQ .next { s with heap := h', toks := tk' })
    (hsw : ∀ l env, swapsWith e (some (.Attribute (.Name "self" p1) nm p2)) l env = pure false := by intro _ _; rfl) :
    wpAny (model PG S.w) A (exec (.Assign [.Attribute (.Name "self" p1) nm p2] e p3) env) QQ E s :=
  plainObj_wpAny_Assign_Attribute (he.ev (H.ex _) hA R hx fun v a σ' h' tk' R' q => ref_ev (s := { s with heap := h', toks := tk' }) h0 (H.ex _) R' f0 (fun _ _ _ h => h) (set_init (s := { s with heap := h', toks := tk' }) R' (fun c lh t => hT _ _ t.2) hn hl hp hz fun h6 tk6 t6 n6 R6 => ret v a σ' h6 tk6 t6 n6 q R6)) (hsw _ _)
/-- self.inner, meanwhile -/
theorem inner_ev {QV : Value → Shared → Prop} {dx di : Addr} {n : Nat} {es : List DictEntry} {pre post : List (Addr × Obj)} {pa pb : Pos} (H : EnvOk ks d env) (R : Rl S ks { d with ex := pre ++ (dx, dictOf es n) :: post } T fr σ s.heap) (hT : ∀ c lh, T.on c lh → c S.ad.x = some (instObj 481 dx))
    (h0 : ks[0]? = some (("self" : Str), NameKind.local)) (f0 : fr[0]? = some (some .src)) (hl : getL "inner" es = some (some (.ref di))) (q : QV (.ref di) { s with toks := s.toks + 1 }) : wpAny (model PG S.w) A (eval (.Attribute (.Name "self" pa) "inner" pb) env) QV E s :=
  Attribute_any_ (ref_ev h0 (H.ex _) R f0 (fun _ _ _ h => h) (by
    have I : InstAt s.heap S.ad.x (instObj 481 dx) 481 (some (dictOf es n)) := by
      cases R with | mk c m mg mh lh X G H F tt =>
      exact ⟨X.sub _ _ (hT _ _ tt), rfl, rfl, (X.own (dx, dictOf es n) (List.mem_append_right _ (List.mem_append_right _ (List.mem_append_right _ (.head _))))).1⟩
    obtain ⟨_, hF⟩ := R.frx
    have z := S.at1 (n := "inner") (.tail _ (.head _))
    exact get_own (attr := none) hF S.G.K I z.1 S.set.2.2 z.2 rfl hl rfl q)) rfl
noncomputable def kitObj (di : Addr) (ep : Nat) : Obj := { cls := .type "dict_keyiterator", data := .fields #[.ref di, .int 0 0, .int 2 0, .int ep 0] }
/-- self.inner[number_of_word] is looked at -/
theorem look_inner {QV : Value → Shared → Prop} {dx di : Addr} {n ep : Nat} {kk : Int} {es : List DictEntry} {pre post : List (Addr × Obj)} {p1 p2 p3 p4 : Pos} (H : EnvOk ks d env) (R : Rl S ks { d with ex := pre ++ (dx, dictOf es n) :: post } T fr σ s.heap) (hT : ∀ c lh, T.on c lh → c S.ad.x = some (instObj 481 dx)) (hI : ∀ c lh, T.on c lh → InA di ep c)
    (h0 : ks[0]? = some (("self" : Str), NameKind.local)) (h7 : ks[7]? = some (("number_of_word" : Str), NameKind.local)) (f0 : fr[0]? = some (some .src)) (f7 : fr[7]? = some (some (.d (.int kk)))) (hl : getL "inner" es = some (some (.ref di))) (hkk : kk = 0 ∨ kk = 1)
    (ret : ∀ v j tk', (kk = 0 ∧ j = 7 ∨ kk = 1 ∧ j = 300) → Rl S ks { d with ex := pre ++ (dx, dictOf es n) :: post } (Tm.v S.ad v (.d (tk2 kk j)) T) fr σ s.heap → QV v { s with toks := tk' }) :
    wpAny (model PG S.w) A (eval (.Subscript (.Attribute (.Name "self" p1) "inner" p2) (.Name "number_of_word" p3) p4) env) QV E s := by
  refine Subscript_ (inner_ev H R hT h0 f0 hl (loc_ev (s := { s with toks := s.toks + 1 }) h7 (H.ex _) R f7 fun v R' => ?_))
  obtain ⟨t, rfl⟩ := R'.int
  cases ina_at R hI with | @mk v0 v1 hda R1 =>
  obtain ⟨v, j, e, h, R2⟩ : ∃ v j, valueAt [((0 : Int), v0), (1, v1)] kk = some v ∧ (kk = 0 ∧ j = 7 ∨ kk = 1 ∧ j = 300) ∧ Rl S ks { d with ex := pre ++ (dx, dictOf es n) :: post } (Tm.v S.ad v (.d (tk2 kk j)) T) fr σ s.heap := by
    rcases hkk with rfl | rfl
    · exact ⟨v0, 7, valueAt2 v0 v1 0, .inl ⟨rfl, rfl⟩, R1.imp fun c lh t => ⟨t.1, t.2.2⟩⟩
    · exact ⟨v1, 300, valueAt2 v0 v1 1, .inr ⟨rfl, rfl⟩, R1.drop⟩
  exact tail_any (s := { s with toks := s.toks + 1 }) (Heap.DictOf.typeIs (s := { s with toks := s.toks + 1 }) hda.dictOf) slot_dict_getitem.lookup (wpAny_getItem_of (s := { s with toks := s.toks + 1 }) (intKind_is PG S.w kk t) hda.dictOf.mapOf e (ret v j _ h R2)) rfl
end
end Mine
/-! ## NP -/
namespace Mine
open PySem PySem.W PySem.Calls PyProof.Rows
theorem pair_at (v0 v1 : Value) : ∀ {i : Nat}, i < 2 → ∃ (kk : Int) (vv : Value), (kk = 0 ∨ kk = 1) ∧ [((0 : Int), v0), (1, v1)][i]? = some (kk, vv)
  | 0, _ => ⟨0, v0, .inl rfl, rfl⟩
  | 1, _ => ⟨1, v1, .inr rfl, rfl⟩
section
variable {S : Stat} {ks : List (Str × NameKind)} {d : Dy} {T : Tm} {fr : Fr'} {g : Gs} {A : Around} {E : Value → Shared → Prop} {s : Shared} {QQ : Flow → Shared → Prop} {env : Env}
/-- check_inner(self.inner[number_of_word]) -/
theorem init_check {QV : Value → Shared → Prop} {dx di : Addr} {n iC j ep : Nat} {kk : Int} {es : List DictEntry} {pre post : List (Addr × Obj)} {p1 p2 p3 p4 p5 p6 : Pos} (H : EnvOk ks d env) (hA : Rm A S.k) (R : Rl S ks { d with ex := pre ++ (dx, dictOf es n) :: post } T fr ⟨g, none⟩ s.heap) (hT : ∀ c lh, T.on c lh → c S.ad.x = some (instObj 481 dx))
    (hI : ∀ c lh, T.on c lh → InA di ep c) (h0 : ks[0]? = some (("self" : Str), NameKind.local)) (h7 : ks[7]? = some (("number_of_word" : Str), NameKind.local)) (hC : ks[iC]? = some (("check_inner" : Str), NameKind.globalImplicit)) (hj : gfun[j]? = some (("check_inner" : Str), 421))
    (f0 : fr[0]? = some (some .src)) (f7 : fr[7]? = some (some (.d (.int kk)))) (hl : getL "inner" es = some (some (.ref di))) (hkk : kk = 0 ∨ kk = 1)
    (hK : ∀ i j, (i = 0 ∧ j = 7 ∨ i = 1 ∧ j = 300) → SC S 421 [.d (.tuple [.int i, .int j])] g (fun v g' => v = .d .none ∧ g' = g))
    (ret : ∀ h' tk', Rl S ks { d with ex := pre ++ (dx, dictOf es n) :: post } T fr ⟨g, none⟩ h' → QV .none { s with heap := h', toks := tk' }) :
    wpAny (model PG S.w) A (eval (.Call (.Name "check_inner" p1) [.Subscript (.Attribute (.Name "self" p2) "inner" p3) (.Name "number_of_word" p4) p5] [] p6) env) QV E s :=
  have gf := S.gf (List.mem_of_getElem? hj)
  eval_call (ev_glob (H.ex _) R hC gf.1 (callWith_K S.G.K gf.2 (spliced_more (look_inner H R hT hI h0 h7 f0 f7 hl hkk fun v j tk5 hj R7 => spliced_none ⟨R7.K, by
    refine sc_sound (s := { s with toks := tk5 }) (Q := fun v σ => v = .d .none ∧ σ = ⟨g, none⟩) hA (R7.imp (T' := Tm.l S.ad [v] [.d (tk2 kk j)] T) fun c lh t => ⟨.cons t.1 .nil, t.2⟩) ((hK kk j hj).mono (k := S.k) (Nat.le_refl _) fun _ _ e => ⟨e.1, e.2 ▸ rfl⟩) fun v a σ' h5 tk5 R8 q => ?_
    obtain ⟨rfl, rfl⟩ := q
    obtain rfl := R8.nul
    exact ret h5 tk5 R8.drop⟩) rfl) rfl rfl))
/-- for number_of_word in self.inner: check_inner(self.inner[number_of_word]) -/
theorem init_loop {dx di : Addr} {n iC j ep : Nat} {es : List DictEntry} {pre post : List (Addr × Obj)} {p1 p2 p3 p4 p5 p6 p7 p8 p9 p10 q1 : Pos} (H : EnvOk ks d env) (hA : Rm A S.k) (R : Rl S ks { d with ex := pre ++ (dx, dictOf es n) :: post } T fr ⟨g, none⟩ s.heap) (hT : ∀ c lh, T.on c lh → c S.ad.x = some (instObj 481 dx))
    (hI : ∀ c lh, T.on c lh → InA di ep c) (hne : (di == sysModules) = false)
    (h0 : ks[0]? = some (("self" : Str), NameKind.local)) (h7 : ks[7]? = some (("number_of_word" : Str), NameKind.local)) (hC : ks[iC]? = some (("check_inner" : Str), NameKind.globalImplicit)) (hj : gfun[j]? = some (("check_inner" : Str), 421))
    (f0 : ∀ y, (fr.set 7 y)[0]? = some (some .src)) (f7 : ∀ y, (fr.set 7 y)[7]? = some y) (fe : fr.set 7 none = fr) (hl : getL "inner" es = some (some (.ref di)))
    (hK : ∀ i j, (i = 0 ∧ j = 7 ∨ i = 1 ∧ j = 300) → SC S 421 [.d (.tuple [.int i, .int j])] g (fun v g' => v = .d .none ∧ g' = g))
    (ret : ∀ h' tk' y, Rl S ks { d with ex := pre ++ (dx, dictOf es n) :: post } T (fr.set 7 y) ⟨g, none⟩ h' → QQ .next { s with heap := h', toks := tk' }) :
    wpAny (model PG S.w) A (exec (.For (.Name "number_of_word" q1) (.Attribute (.Name "self" p1) "inner" p2) [.Expr (.Call (.Name "check_inner" p3) [.Subscript (.Attribute (.Name "self" p4) "inner" p5) (.Name "number_of_word" p6) p7] [] p8) p9] [] p10) env) QQ E s := by
  refine wpAny_For (inner_ev H R hT h0 (fe ▸ f0 none) hl ?_)
  cases ina_at R hI with | @mk v0 v1 hda _ =>
  refine wpAny_pyIter_dict (s := { s with toks := s.toks + 1 }) hne hda ?_
  obtain ⟨R2, hI2⟩ := R.newEx (I := s.heap.objs.size) (o := kitObj di ep) (h' := s.heap.push (kitObj di ep)) (Heap.get?_push_size s.heap rfl) (Nat.le_refl _) (push_keeps _ _)
  show codeAny _ _ (.forLoop _ (.ref s.heap.objs.size) _ _ _) _ _
  refine codeAny_forLoop (St S ks { d with ex := pre ++ (dx, dictOf es n) :: post } s.heap.objs.size T s 2 fun i fr' σ' h => h.IsKeyIter s.heap.objs.size di i 2 ep ∧ i ≤ 2 ∧ σ' = ⟨g, none⟩ ∧ ∃ y, fr' = fr.set 7 y)
    (fun j s' q => q.go fun i o fr2 σ2 h2 tk2 ej R3 p => ?_) 2 ⟨rfl, rfl, R2, ⟨kitObj di ep, R2.getEx, rfl, rfl⟩, Nat.zero_le _, rfl, none, fe.symm⟩
  obtain ⟨hit, hi2, rfl, y, rfl⟩ := p
  clear q R
  generalize s.heap.objs.size = I at R2 hI2 R3 hit ⊢
  cases ina_at R3 hI with | @mk v0 v1 hda R4 =>
  clear R4
  by_cases hlt : i < 2
  · obtain ⟨kk, vv, hkk, hkv⟩ := pair_at v0 v1 hlt
    refine wpAny_pyNext_dict_item (s := { s with heap := h2, toks := tk2 }) hit hda hkv fun key h3 hkey ⟨o3, ho3, hr⟩ hs3 => ?_
    obtain ⟨t, rfl⟩ := Value.isInt_shape hkey
    refine wpAny_assign_Name (st_sound (s := { s with heap := h3, toks := tk2 }) (H.ex _) h7 ((R3.updEx hs3 ho3).val (v := .int kk t) (x := .int kk) fun c => .int _ _) fun h4 tk4 R6 => ?_)
    rw [List.set_set] at R6
    exact wpAny_execs_cons (wpAny_Expr (init_check (s := { s with heap := h4, toks := tk4 }) (pre := (I, o3) :: pre) H hA R6 hT hI h0 h7 hC hj (f0 _) (f7 _) hl hkk hK fun h5 tk5 R8 => wpAny_execs_nil ⟨2 - (i + 1), by omega, rfl, rfl, R8, ⟨o3, R8.getEx, hr⟩, hlt, rfl, _, rfl⟩) (by unfold interactive; rw [H.kind]; rfl) rfl)
  · obtain rfl : i = 2 := by omega
    exact wpAny_pyNext_dict_end (s := { s with heap := h2, toks := tk2 }) hA.handled hit hda rfl fun h3 he => wpAny_execs_nil (ret h3 tk2 y (R3.endEx hI2 he))
end
end Mine
/-! ## NQ -/
namespace Mine
open PySem PySem.W PySem.Calls PyProof.Rows
theorem Rm.under {A : Around} {n : Nat} {C : Addr} {vs : List Value} (R : Rm A (n + 1)) : Rm (A.under (.builtin "type.__call__" ⟨.ref C :: vs, []⟩)) n :=
  ⟨by rw [depth_under_kw]; have := R.depth; omega, by rw [units_under_make]; have := R.units; omega, R.handled⟩
theorem Hp.none {hb h : Heap} {c : CM} {mu : List (Addr × Obj)} (H : Hp hb c mu h) {a : Addr} (k : h.objs.size ≤ a) : c a = .none := by
  cases e : c a with
  | none => rfl
  | some o => exact absurd (Heap.lt_size (H.sub _ _ e)) (Nat.not_lt.mpr k)
/-- the frame at the start of the set-up -/
theorem init_enter {hb h h2 h₁ : Heap} {c : CM} {m : Str → Option Value} (Hp : Hp hb c [] h) (hns : h₁.Ns h2.objs.size m) (hs2 : h.objs.size + 2 = h2.objs.size) (hx : h2.get? (h.objs.size + 1) = some (instObj 481 h.objs.size)) (hd : h2.get? h.objs.size = some emptyDict)
    (hk : ∀ b o, h2.get? b = some o → h₁.get? b = some o) (keep2 : ∀ b o, h.get? b = some o → h2.get? b = some o) : Sx hb h c [] (c.put (h.objs.size + 1) (instObj 481 h.objs.size)) h2.objs.size m [(h.objs.size, dictOf [] 0)] h₁ := by
  have X1 := (Mine.Sx.enter Hp (show h.objs.size ≤ h2.objs.size by omega) hns fun b o e => hk _ _ (keep2 _ _ e))
  refine ⟨hns, X1.base, CM.le_put (Hp.none (Nat.le_succ _)), fun b o e => ?_, fun b o e => ?_, X1.kept, ?_, ?_, by simp, X1.sizeb, X1.sizeL, X1.alive⟩
  · unfold CM.put at e
    by_cases q : b = h.objs.size + 1
    · rw [if_pos q] at e; cases e; rw [q]; exact hk _ _ hx
    · rw [if_neg q] at e; exact X1.sub _ _ e
  · unfold CM.put at e
    by_cases q : b = h.objs.size + 1
    · rw [q]; exact .inr (get_none_of_size (Nat.le_succ _))
    · rw [if_neg q] at e; exact .inl e
  · unfold CM.put; rw [if_neg (show ¬ h2.objs.size = h.objs.size + 1 by omega)]; exact X1.noL
  · intro p hp
    obtain rfl := List.mem_singleton.mp hp
    refine ⟨hk _ _ hd, (show h.objs.size ≠ h2.objs.size by omega), ?_, .inr (get_none_of_size (Nat.le_refl _))⟩
    show (if h.objs.size = h.objs.size + 1 then _ else c h.objs.size) = none
    rw [if_neg (by omega)]
    exact Hp.none (Nat.le_refl _)
noncomputable abbrev initNs : List Str := ["self", "tokens", "inner", "names", "ex", "em"]
noncomputable abbrev initAs (D : PyData) : List AV := [.src, .d D, .pool, .d .none, .d (.int 0), .d (.int 0)]
noncomputable abbrev initFr (D : PyData) (y z : Option AV) : Fr' := [some .src, some (.d D), some .pool, some (.d .none), some (.d (.int 0)), some (.d (.int 0)), y, z]
section
variable {S : Stat} {ks : List (Str × NameKind)} {d : Dy} {A : Around} {E : Value → Shared → Prop} {s : Shared} {QQ : Flow → Shared → Prop} {env : Env}
theorem init_tail {h0 : Addr} {r : List Tk} {T : Tm} {y : Option AV} {eS : Expr} {xS : X} {iL iD iC j ep n0 : Nat}
    {a1 a2 a3 a4 a5 a6 a7 a8 a9 a10 b1 b2 b3 b4 b5 b6 b7 b8 b9 b10 b11 c1 c2 c3 c4 c5 c6 c7 c8 c9 c10 c11 d1 d2 d3 d4 e1 e2 e3 f1 f2 f3 f4 : Pos} {u1 u2 u3 : Nat}
    (H : EnvOk ks d env) (hA : Rm A S.k) (hT : ∀ c lh, T.on c lh → c S.ad.x = some (instObj 481 h0)) (hI : ∀ c lh, T.on c lh → InA S.ad.lp ep c) (hne : (S.ad.lp == sysModules) = false)
    (h0' : ks[0]? = some (("self" : Str), NameKind.local)) (h1 : ks[1]? = some (("tokens" : Str), NameKind.local)) (h2 : ks[2]? = some (("inner" : Str), NameKind.local)) (h3 : ks[3]? = some (("names" : Str), NameKind.local)) (h7 : ks[7]? = some (("number_of_word" : Str), NameKind.local))
    (hL : ks[iL]? = some (("list" : Str), NameKind.globalImplicit)) (hD : ks[iD]? = some (("dict" : Str), NameKind.globalImplicit)) (hC : ks[iC]? = some (("check_inner" : Str), NameKind.globalImplicit)) (hj : gfun[j]? = some (("check_inner" : Str), 421)) (hr : r.length ≤ 100000)
    (hE : SE S ks eS xS) (hx : ∀ y z, xS (initFr (.list (r.map tkd)) y z) {} fun a σ => a = .d (tk2 0 0) ∧ σ = {}) (hsw : ∀ l env, swapsWith eS (some (.Attribute (.Name "self" e1) "sizes" e2)) l env = pure false)
    (hK : ∀ i j, (i = 0 ∧ j = 7 ∨ i = 1 ∧ j = 300) → SC S 421 [.d (.tuple [.int i, .int j])] {} (fun v g' => v = .d .none ∧ g' = {}))
    (R : Rl S ks { d with ex := [(h0, dictOf [] n0)] } T (initFr (.list (r.map tkd)) y none) {} s.heap)
    (ret : ∀ h' tk' y z t1 t2 t3 t4 t5 tb n lr o ws di ep v, (di == sysModules) = false → LObj o ws → Rl S ks { d with ex := [(lr, o), (h0, srcDict S.w { S.ad with lr := lr, di := di, sz := v } 0 t1 t2 t3 t4 t5 tb n)] } (Tm.v S.ad (.ref v) (.d (tk2 0 0)) (Tm.ina di ep (Tm.dl ws (r.map tkd).reverse T))) (initFr (.list (r.map tkd)) y z) {} h' → QQ .next { s with heap := h', toks := tk' }) :
    wpAny (model PG S.w) A (execs [
      .Assign [.Attribute (.Name "self" a1) "rest" a2] (.Subscript (.Call (.Name "list" a3) [.Name "tokens" a4] [] a5) (.Slice none none (some (.UnaryOp .USub (.Constant (.int 1) u1 a6) a7)) a8) a9) a10,
      .Assign [.Attribute (.Name "self" b1) "inner" b2] (.IfExp (.Compare (.Name "inner" b3) [.Is] [.Constant .none u2 b4] b5) (.Dict [] [] b6) (.Call (.Name "dict" b7) [.Name "inner" b8] [] b9) b10) b11,
      .For (.Name "number_of_word" c11) (.Attribute (.Name "self" c1) "inner" c2) [.Expr (.Call (.Name "check_inner" c3) [.Subscript (.Attribute (.Name "self" c4) "inner" c5) (.Name "number_of_word" c6) c7] [] c8) c9] [] c10,
      .Assign [.Attribute (.Name "self" d1) "names" d2] (.Name "names" d3) d4,
      .Assign [.Attribute (.Name "self" e1) "sizes" e2] eS e3,
      .Assign [.Attribute (.Name "self" f1) "balance" f2] (.Constant (.int 0) u3 f3) f4] env) QQ E s := by
  refine wpAny_execs_cons (init_rest H R hT h0' h1 hL rfl rfl (by rw [List.length_map]; exact hr) fun h4 tk4 t1 n1 lr o ws R2 hlo => ?_)
  refine wpAny_execs_cons (init_inner (s := { s with heap := h4, toks := tk4 }) H R2 (fun c lh t => hT _ _ t.2) (fun c lh t => hI _ _ t.2) hne h0' h2 hD rfl rfl rfl (fun t v => rfl) (Nat.le_of_ble_eq_true rfl) fun h5 tk5 t2 n2 di ep' hdi R3 => ?_)
  refine wpAny_execs_cons (init_loop (s := { s with heap := h5, toks := tk5 }) H hA R3 (fun c lh t => hT _ _ t.2.2) (fun c lh t => t.1) hdi h0' h7 hC hj (fun _ => rfl) (fun _ => rfl) rfl rfl hK fun h6 tk6 z R4 => ?_)
  refine wpAny_execs_cons (init_attr (s := { s with heap := h6, toks := tk6 }) (Q := fun a σ => a = .d .none ∧ σ = {}) H hA R4 (fun c lh t => hT _ _ t.2.2) h0' rfl (.loc 3 h3) ⟨rfl, rfl⟩ (.tail _ (.tail _ (.head _))) rfl (fun t v => rfl) (Nat.le_of_ble_eq_true rfl) (fun v5 av5 σ5 h7 tk7 t3 n3 q R5 => ?_))
  obtain ⟨rfl, rfl⟩ := q
  obtain rfl := R5.nul
  refine wpAny_execs_cons (init_attr (s := { s with heap := h7, toks := tk7 }) H hA R5.drop (fun c lh t => hT _ _ t.2.2) h0' rfl hE (hx _ _) (.tail _ (.tail _ (.tail _ (.head _)))) rfl (fun t v => rfl) (Nat.le_of_ble_eq_true rfl) (fun v6 av6 σ6 h8 tk8 t4 n4 q R6 => ?_) hsw)
  obtain ⟨rfl, rfl⟩ := q
  refine wpAny_execs_cons (init_attr (s := { s with heap := h8, toks := tk8 }) (Q := fun a σ => a = .d (.int 0) ∧ σ = {}) H hA R6 (fun c lh t => hT _ _ t.2.2.2) h0' rfl .int ⟨rfl, rfl⟩ (.tail _ (.tail _ (.tail _ (.tail _ (.head _))))) rfl (fun t v => rfl) (Nat.le_of_ble_eq_true rfl) (fun v7 av7 σ7 h9 tk9 t5 n5 q R7 => ?_))
  obtain ⟨rfl, rfl⟩ := q
  obtain ⟨tb, rfl⟩ := R7.int
  cases tup_at R7.drop with | mk ev _ _ _ =>
  subst ev
  exact wpAny_execs_nil (ret h9 tk9 _ z t1 t2 t3 t4 t5 tb n5 lr o ws di ep' _ hdi hlo R7.drop)
end
end Mine
/-! ## NR -/
namespace Mine
open PySem PySem.W PySem.Calls PyProof.Rows
/-- the source's class, called -/
theorem c_sourceOf {S : Stat} {sg : Sig} {r : List Tk} {st0 : Stmt} {eS : Expr} {sx0 : Ad → SX} {xS : Ad → X} {iL iD iC j ep : Nat}
    {a1 a2 a3 a4 a5 a6 a7 a8 a9 a10 b1 b2 b3 b4 b5 b6 b7 b8 b9 b10 b11 c1 c2 c3 c4 c5 c6 c7 c8 c9 c10 c11 d1 d2 d3 d4 e1 e2 e3 f1 f2 f3 f4 : Pos} {u1 u2 u3 : Nat} (hs : sigAt 57 (some 0) = some sg)
    (hbody : sg.body = st0 :: [
      .Assign [.Attribute (.Name "self" a1) "rest" a2] (.Subscript (.Call (.Name "list" a3) [.Name "tokens" a4] [] a5) (.Slice none none (some (.UnaryOp .USub (.Constant (.int 1) u1 a6) a7)) a8) a9) a10,
      .Assign [.Attribute (.Name "self" b1) "inner" b2] (.IfExp (.Compare (.Name "inner" b3) [.Is] [.Constant .none u2 b4] b5) (.Dict [] [] b6) (.Call (.Name "dict" b7) [.Name "inner" b8] [] b9) b10) b11,
      .For (.Name "number_of_word" c11) (.Attribute (.Name "self" c1) "inner" c2) [.Expr (.Call (.Name "check_inner" c3) [.Subscript (.Attribute (.Name "self" c4) "inner" c5) (.Name "number_of_word" c6) c7] [] c8) c9] [] c10,
      .Assign [.Attribute (.Name "self" d1) "names" d2] (.Name "names" d3) d4,
      .Assign [.Attribute (.Name "self" e1) "sizes" e2] eS e3,
      .Assign [.Attribute (.Name "self" f1) "balance" f2] (.Constant (.int 0) u3 f3) f4])
    (hbind : ∀ nm dV kV doc pm an cdv ct (s : Shared) a v dd (t : Obj) n, S.K.In s.heap → dV = .ref 429 → S.K.lookup 429 = some t → t.data = .seq ([.none, .none, .int 0 859, .int 0 860] : List Value).toArray n →
      BindsTo s (fnOf nm "PlainSource.__init__" sg.params sg.body sg.scope dV kV doc pm an cdv ct) ⟨[a, v, dd], []⟩ [("self", a), ("tokens", v), ("inner", dd), ("names", .none), ("ex", .int 0 859), ("em", .int 0 860)])
    (hc : scOk sg.scope = true) (hns : sg.scope.names.take 6 = initNs.map fun n => (n, NameKind.local)) (h7 : sg.scope.names[7]? = some (("number_of_word" : Str), NameKind.local)) (hL : sg.scope.names[iL]? = some (("list" : Str), NameKind.globalImplicit)) (hD : sg.scope.names[iD]? = some (("dict" : Str), NameKind.globalImplicit))
    (hC : sg.scope.names[iC]? = some (("check_inner" : Str), NameKind.globalImplicit)) (hj : gfun[j]? = some (("check_inner" : Str), 421)) (hr : r.length ≤ 100000)
    (hb : ∀ ad : Ad, SS { S with ad := ad } sg.scope.names st0 (sx0 ad)) (hw : ∀ ad, sx0 ad (initFr (.list (r.map tkd)) none none) {} (fun fr σ => (∃ y, fr = initFr (.list (r.map tkd)) y none) ∧ σ = {}) fun _ _ _ => False)
    (hE : ∀ ad : Ad, SE { S with ad := ad } sg.scope.names eS (xS ad)) (hx : ∀ ad y z, xS ad (initFr (.list (r.map tkd)) y z) {} fun a σ => a = .d (tk2 0 0) ∧ σ = {}) (hsw : ∀ l env, swapsWith eS (some (.Attribute (.Name "self" e1) "sizes" e2)) l env = pure false)
    (hK : ∀ (ad : Ad) i j, (i = 0 ∧ j = 7 ∨ i = 1 ∧ j = 300) → SC { S with ad := ad } 421 [.d (.tuple [.int i, .int j])] {} (fun v g' => v = .d .none ∧ g' = {}))
    {A : Around} {s : Shared} {c : CM} {v : Value} {D : Addr} (hA : Rm A (S.k + 2)) (Hp : Hp S.hb c [] s.heap) (hv : Rd c v (.list (r.map tkd))) (hI : InA D ep c) (hDn : (D == sysModules) = false) {QQ E : Value → Shared → Prop}
    (ret : ∀ x dx lr di sz h' tk' c' ms, Out s.heap c [] ms c' h' → SrcM S.w { S.ad with x := x, dx := dx, lr := lr, di := di, sz := sz } c' (some (r, 0)) ms → QQ (.ref x) { s with heap := h', toks := tk' }) :
    wpAny (model PG S.w) A (call (.ref 481) [v, .ref D]) QQ E s := by
  cases FnAt.of (S.fn 39 rfl hs) with | @mk oc od osl nm dV kV doc pm an cdv ct ho hcd hdv =>
  clear hdv
  cases DefAt.of ho S.G.L.ini with | @mk t n hdv hT hd =>
  cases ScOk.of hc with | mk nd nm' co gen kd =>
  have hh : ∀ b o, S.hb.get? b = some o → s.heap.get? b = some o := fun b o e => Hp.sub _ _ (Hp.base _ _ e)
  have X0 := S.G.K.keeps hh
  have L7 := and2 (S.G.L.at 7 rfl)
  have L7a := and2 L7.1
  have L7b := and2 L7a.1
  obtain ⟨h, g, dr, t', os⟩ := s
  refine wpAny_call (make_core (makes_of X0 L7b.1) (looks_findIn X0 (beq_true L7b.2)) (fun self => bind_fn X0 self (beq_true L7a.2)) (.inl rfl) ?_)
  have keep2 : ∀ b o, h.get? b = some o → ((h.push emptyDict).push (instObj 481 h.objs.size)).get? b = some o := fun b o e => Heap.get?_push_of_some _ (Heap.get?_push_of_some _ e)
  have hx2 : ((h.push emptyDict).push (instObj 481 h.objs.size)).get? (h.objs.size + 1) = some (instObj 481 h.objs.size) := by
    have := Heap.get?_push_size (h.push emptyDict) (o := instObj 481 h.objs.size) rfl
    rwa [Heap.size_push] at this
  have hd2 : ((h.push emptyDict).push (instObj 481 h.objs.size)).get? h.objs.size = some emptyDict := Heap.get?_push_of_some _ (Heap.get?_push_size h rfl)
  have hs2 : h.objs.size + 2 = ((h.push emptyDict).push (instObj 481 h.objs.size)).objs.size := by rw [Heap.size_push, Heap.size_push]
  generalize (h.push emptyDict).push (instObj 481 h.objs.size) = h2 at keep2 hx2 hd2 hs2 ⊢
  have VL : VRL { S.ad with x := h.objs.size + 1, lp := D } 0 c [.ref (h.objs.size + 1), v, .ref D, .none, .int 0 859, .int 0 860] (initAs (.list (r.map tkd))) := .cons rfl (.cons hv (.cons rfl (.cons .none (.cons (.int _ _) (.cons (.int _ _) .nil)))))
  refine codeAny_call_def (s := ⟨h2, g, dr, t', os⟩) (binds := initNs.zip [.ref (h.objs.size + 1), v, .ref D, .none, .int 0 859, .int 0 860]) (by rw [depth_under_kw]; have := hA.depth; omega) (keep2 _ _ (hh _ _ (S.G.K _ _ ho))) rfl (S.G.nl.keeps fun b o e => keep2 _ _ (hh _ _ e)) (codeRec_of (X0.keeps keep2) hcd) rfl
    (hbind nm dV kV doc pm an cdv ct _ _ _ _ t n (X0.keeps keep2) hdv hT hd) (fun x hx => (nm' x hx).2) (fun y hy => ?_) (fun h₁ hns₁ hk₁ => ?_) co gen kd
  · obtain ⟨i, hi⟩ := List.getElem?_of_mem hy
    rw [List.getElem?_zip_eq_some] at hi
    have hil : i < 6 := (List.getElem?_eq_some_iff.mp hi.1).1
    exact lookup_of_nodup (i := i) nd (by rw [← List.getElem?_take_of_lt hil, hns, List.getElem?_map, hi.1]; rfl)
  have SI := init_enter Hp hns₁ hs2 hx2 hd2 hk₁ keep2
  have le : c.le (c.put (h.objs.size + 1) (instObj 481 h.objs.size)) := CM.le_put (Hp.none (Nat.le_succ _))
  have nth : ∀ {i : Nat} {x : Str}, i < 6 → initNs[i]? = some x → sg.scope.names[i]? = some (x, NameKind.local) := fun hi e => by rw [← List.getElem?_take_of_lt hi, hns, List.getElem?_map, e]; rfl
  have R0 : Rl { S with ad := { S.ad with x := h.objs.size + 1, lp := D } } sg.scope.names { (⟨h, c, [], h2.objs.size, [], []⟩ : Dy) with ex := [(h.objs.size, dictOf [] 0)] } (Tm.o (h.objs.size + 1) (instObj 481 h.objs.size) (Tm.ina D ep Tm.nil)) (initFr (.list (r.map tkd)) none none) {} h₁ :=
    ⟨_, _, [], [], 0, SI, ⟨[], [], rfl, .none, .none⟩, .none, entry_fr (ns := initNs) (pad := 2) nd hns rfl (VL.mono le), CM.put_at, hI.mono le, True.intro⟩
  have He : EnvOk sg.scope.names ⟨h, c, [], h2.objs.size, [], []⟩ (callEnv (fnOf nm "PlainSource.__init__" sg.params sg.body sg.scope dV kV doc pm an cdv ct) h2.objs.size 436) := ⟨kd, rfl, rfl, rfl, rfl, rfl, nd, fun p hp => (nm' p hp).1⟩
  have hA2 : ∀ env, Rm ((A.under (.builtin "type.__call__" ⟨[.ref 481, v, .ref D], []⟩)).deeper env) S.k := fun env => (Rm.under (n := S.k + 1) hA).deeper
  show wpAny _ _ (execs sg.body _) _ _ _
  have hA2 := hA2 (callEnv (fnOf nm "PlainSource.__init__" sg.params sg.body sg.scope dV kV doc pm an cdv ct) h2.objs.size 436)
  generalize callEnv (fnOf nm "PlainSource.__init__" sg.params sg.body sg.scope dV kV doc pm an cdv ct) h2.objs.size 436 = env at *
  rw [hbody]
  refine wpAny_execs_cons ?_
  refine (hb { S.ad with x := h.objs.size + 1, lp := D }).ex (s := ⟨h₁, g, dr, _, os⟩) (He.ex _) hA2 (fun _ _ _ t => t) R0 (hw _) (fun fr1 σ1 h3 tk3 R1 q => ?_) fun v a fr' σ' h' tk' R' q => q.elim
  obtain ⟨⟨y, rfl⟩, rfl⟩ := q
  refine init_tail (T := Tm.o (h.objs.size + 1) (instObj 481 h.objs.size) (Tm.ina D ep Tm.nil)) (S := { S with ad := { S.ad with x := h.objs.size + 1, lp := D } }) (s := ⟨h3, g, dr, tk3, os⟩) He hA2 (fun c lh t => t.1) (fun c lh t => t.2.1) hDn (nth (by decide) rfl) (nth (by decide) rfl) (nth (by decide) rfl) (nth (by decide) rfl) h7 hL hD hC hj hr (hE _) (hx _) hsw (hK _) R1
    fun h9 tk9 y9 z9 t1 t2 t3 t4 t5 tb n9 lr o ws di ep' sz hdi hlo R9 => ⟨rfl, ?_⟩
  cases R9 with | mk c9 m9 mg9 mh9 lh9 X9 G9 H9 F9 t9 =>
  cases G9 with | mk mp ms e PM SM =>
  cases PM
  cases SM
  cases H9
  subst e
  obtain ⟨_, tin, tdl, tx, _⟩ := t9
  exact ret (h.objs.size + 1) h.objs.size lr di sz h9 tk9 c9 _ ((X9.perm (List.Perm.swap _ _ _)).out (List.Sublist.refl _)) (.some tx (tin.innerD hdi) hlo tdl)
end Mine
/-! ## NS -/
namespace Mine
open PySem PySem.W PySem.Calls PyProof.Rows
section
variable {S : Stat} {ks : List (Str × NameKind)} {d : Dy} {T : Tm} {fr : Fr'} {σ : Sto} {A : Around} {E : Value → Shared → Prop} {s : Shared} {env : Env}
theorem Rl.freezeEx {I : Addr} {o : Obj} {ex : List (Addr × Obj)} {h : Heap} {T' : Tm} (R : Rl S ks { d with ex := (I, o) :: ex } T fr σ h) (hn : d.s₀.get? I = none) (t : ∀ c lh, c I = some o → T.on c lh → T'.on c lh) : Rl S ks { d with ex := ex } T' fr σ h := by
  cases R with | mk c m mg mh lh X G H F tt =>
  have X' : Mine.Sx S.hb d.s₀ d.c₀ d.mod c d.L m ((I, o) :: (mg ++ (mh ++ ex))) h := X.perm (by
    show List.Perm ((I, o) :: (mg ++ (mh ++ ex))) (mg ++ (mh ++ (I, o) :: ex))
    rw [← List.append_assoc, ← List.append_assoc]
    exact List.perm_middle.symm)
  have le : c.le (c.put I o) := CM.le_put (X'.own _ (.head _)).2.2.1
  exact ⟨_, m, mg, mh, lh, X'.freeze hn, G.mono le, H.mono le, F.mono le, t _ _ CM.put_at (T.mono le tt)⟩
/-- {0: (0, 7), 1: (1, 300)} -/
theorem dict_lit {eA eB : Expr} {xA xB : X} {k0 k1 : Nat} {q0 q1 pos : Pos} {QV : Value → Shared → Prop} (H : EnvOk ks d env) (hA : Rm A S.k) (R : Rl S ks d T fr σ s.heap) (h0 : SE S ks eA xA) (h1 : SE S ks eB xB)
    (w0 : xA fr σ fun a σ' => a = .d (tk2 0 7) ∧ σ' = σ) (w1 : xB fr σ fun a σ' => a = .d (tk2 1 300) ∧ σ' = σ)
    (ret : ∀ D ep h' tk', (D == sysModules) = false → Rl S ks d (Tm.ina D ep T) fr σ h' → QV (.ref D) { s with heap := h', toks := tk' }) :
    wpAny (model PG S.w) A (eval (.Dict [some (.Constant (.int 0) k0 q0), some (.Constant (.int 1) k1 q1)] [eA, eB] pos) env) QV E s := by
  refine wpAny_Dict_walk (knd := intKind PG S.w) rfl rfl (by simp) (by simp) ?_
  have hD := R.top
  obtain ⟨R1, hn⟩ := R.newEx (I := s.heap.objs.size) (o := { cls := .type "dict", data := .dict #[] }) (h' := s.heap.push { cls := .type "dict", data := .dict #[] }) (Heap.get?_push_size s.heap rfl) (Nat.le_refl _) (push_keeps _ _)
  have hnew : ({ cls := .type "dict", data := .dict #[] } : Obj).IsDictOf (intKind PG S.w) [] := by
    obtain ⟨o, ho, hd⟩ := Heap.dictOf_iff.mp (Heap.DictOf.new (knd := intKind PG S.w) s.heap)
    rw [Heap.get?_push_size _ rfl] at ho
    exact (Option.some.inj ho) ▸ hd
  generalize s.heap.objs.size = D at R1 hn hD ⊢
  generalize s.heap.push { cls := .type "dict", data := .dict #[] } = h1' at R1 ⊢
  refine pairTrees_cons_walk (wpAny_Constant_int (h0.ev (s := { s with heap := h1', toks := s.toks + 1 }) (H.ex _) hA R1 w0 fun v0 a0 σ0 h2 tk2 R2 q => ?_))
  obtain ⟨rfl, rfl⟩ := q
  refine pairTrees_cons_walk (wpAny_Constant_int (h1.ev (s := { s with heap := h2, toks := tk2 + 1 }) (H.ex _) hA R2 w1 fun v1 a1 σ1 h3 tk3 R3 q => ?_))
  obtain ⟨rfl, rfl⟩ := q
  refine pairTrees_nil_walk (display_done_int (prog := PG) (w := S.w) rfl (show ([0, 1] : List Int).Nodup by decide) (Heap.dictOf_iff.mpr ⟨_, R3.getEx, hnew⟩) fun h4 hm hs => ?_)
  obtain ⟨o4, ho4, hd4⟩ := Heap.dictOf_iff.mp hm
  obtain ⟨ep, hep⟩ := dict_any hd4
  exact ret D ep h4 _ hD ((R3.updEx hs ho4).freezeEx hn fun c lh e t => ⟨⟨e, fun w h q => hep w h _ q, t.2.1, t.1⟩, t.2.2⟩)
theorem NmR.reAd {ad ad' : Ad} {lh : Addr} {c : CM} {cl m x av k} (h : NmR ad lh c cl m x av k) (hF : ∀ v, VR ad lh c v av → VR ad' lh c v av) : NmR ad' lh c cl m x av k := by
  cases h with
  | loc a b => exact .loc a (hF _ b)
  | cel a b e f => exact .cel a b e (hF _ f)
/-- the lists of statements ahead of others -/
inductive SSs (S : Stat) (ks : List (Str × NameKind)) : List Stmt → SL → Prop
  | nil : SSs S ks [] .nil
  | cons {st : Stmt} {sts : List Stmt} {x : SX} {xs : SL} : SS S ks st x → SSs S ks sts xs → SSs S ks (st :: sts) (.cons x xs)
theorem SSs.ex {pre : List Stmt} {t : SL} (h : SSs S ks pre t) : ∀ {rest : List Stmt} {d env T fr σ A E s} {QQ : Flow → Shared → Prop} {N : Fr' → Sto → Prop} {Rt : AV → Fr' → Sto → Prop}, EnvOk ks d env → Rm A S.k → T.Free → Rl S ks d T fr σ s.heap → t fr σ N Rt →
    (∀ fr' σ' h' tk', Rl S ks d T fr' σ' h' → N fr' σ' → wpAny (model PG S.w) A (execs rest env) QQ E { s with heap := h', toks := tk' }) →
    (∀ v a fr' σ' h' tk', Rl S ks d (Tm.v S.ad v a T) fr' σ' h' → Rt a fr' σ' → QQ (.ret v) { s with heap := h', toks := tk' }) → wpAny (model PG S.w) A (execs (pre ++ rest) env) QQ E s := by
  induction h with
  | nil => exact fun {rest d env T fr σ A E s QQ N Rt} H hA hT R hx nx rt => nx fr σ s.heap s.toks R hx
  | cons h r ih => exact fun {rest d env T fr σ A E s QQ N Rt} H hA hT R hx nx rt => wpAny_execs_cons (h.ex H hA hT R hx (fun fr' σ' h' tk' R' q => ih H hA hT R' q nx rt) rt)
end
end Mine
/-! ## NT -/
namespace Mine
open PySem PySem.W PySem.Calls PyProof.Rows
noncomputable abbrev lostFr : Fr' := [none, none, none, none, none, none, none, none, none, none]
noncomputable abbrev lostFr' : Fr' := [none, none, none, none, none, none, none, none, some (.d .none), some (.d .none)]
noncomputable abbrev Dy.lost (S : Stat) (d : Dy) : Dy := ⟨S.hb, fun a => S.hb.get? a, [], d.L, d.cl, []⟩
section
variable {S : Stat} {ks : List (Str × NameKind)} {d : Dy} {T : Tm} {fr : Fr'} {σ : Sto} {A : Around} {E : Value → Shared → Prop} {s : Shared} {QQ : Flow → Shared → Prop} {env : Env}
/-- what is left, when all that was mutable is lost -/
theorem lost_rl {h : Heap} {m : Str → Option Value} (hs : S.hb.StaysIn h) (hL : S.hb.objs.size ≤ d.L) (hn : h.Ns d.L m) : Rl S ks (d.lost S) Tm.nil lostFr {} h := by
  have hLn := get_none_of_size hL
  refine ⟨fun a => S.hb.get? a, m, [], [], 0, ⟨hn, fun _ _ e => e, CM.le.refl _, hs, fun _ _ e => .inl e, fun b o e _ => hs b o e, hLn, (fun p hp => nomatch hp), List.nodup_nil, hL, .inr hLn, fun b o e => ⟨o, hs b o e⟩⟩, ⟨[], [], rfl, .none, .none⟩, .none, fun i x k av hi hf => ?_, True.intro⟩
  rcases i with _ | _ | _ | _ | _ | _ | _ | _ | _ | _ | i <;> exact nomatch hf
/-- due, found = (.., _law_met(..)) : what is behind the tuple -/
theorem mid_fin {v v2 : Value} {dd d2 : PyData} {h3 : Heap} {tk3 : Nat} (i8 : ks[8]? = some (("due" : Str), NameKind.local)) (i9 : ks[9]? = some (("found" : Str), NameKind.local)) (hA : Rm A S.k) (H : EnvOk ks d env) (R : Rl S ks d (Tm.dl [v, v2] [dd, d2] T) fr σ h3)
    (ret : ∀ h' tk', Rl S ks d T ((fr.set 9 (some (.d d2))).set 8 (some (.d dd))) σ h' → QQ .next { s with heap := h', toks := tk' }) :
    [v, v2].length ≤ sizeLine ∧ wpAny (model PG S.w) A (unpackItems (.ref h3.objs.size) 2 none) (fun items s₂ => wpAny (model PG S.w) A (assignInOrder ([("due" : Str), "found"].reverse.map fun n => bindName env n) items.reverse) (fun _ => QQ .next) E s₂) E { s with heap := h3.push { cls := .type "tuple", data := .seq [v, v2].toArray }, toks := tk3 } := by
  refine ⟨by rw [sizeLine_eq]; exact Nat.le_of_ble_eq_true rfl, ?_⟩
  have R2 := R.keeps (push_keeps h3 { cls := .type "tuple", data := .seq [v, v2].toArray })
  have ht : IsTup (h3.push { cls := .type "tuple", data := .seq [v, v2].toArray }) h3.objs.size [v, v2].toArray := ⟨_, Heap.get?_push_size h3 rfl, rfl, _, rfl⟩
  refine unpackItems_tuple (items := [v, v2].toArray) hA.handled ht fun h4 he => ?_
  exact stores (s := { s with heap := h4, toks := tk3 }) (vs := [v2, v]) (ds := [d2, dd]) (is := [9, 8]) H (NmL.reverse (is := [8, 9]) (.cons i8 (.cons i9 .nil))).t rfl ((R2.keeps fun b o e => he b o (Nat.ne_of_lt (Heap.lt_size e)) e).imp fun c lh t => ⟨t.1.reverse, t.2⟩) fun h5 tk5 R4 => ret _ _ R4
/-- due, found = (.., _law_met(..)) -/
theorem mid_sound {iM : Nat} {es : List Expr} {xs : XL} {eD : Expr} {xD : X} {q1 q2 q3 q4 q5 tp pos : Pos} {k1 k2 : Nat} {QN : PyData → PyData → Sto → Prop} {QL : Prop} (H : EnvOk ks d env) (hA : Rm A S.k) (F : RF S.hb [] A env d) (R : Rl S ks d T fr σ s.heap) (hT : T.Free)
    (i8 : ks[8]? = some (("due" : Str), NameKind.local)) (i9 : ks[9]? = some (("found" : Str), NameKind.local)) (hM : ks[iM]? = some (("_law_met" : Str), NameKind.globalImplicit))
    (hw : ∀ env : Env, env.scope.kind = .function → (∀ x ∈ [("due" : Str), "found"], env.kindOf x = some .local) → swappedStores [.Tuple [.Name "due" q1, .Name "found" q2] k1 tp] (.Tuple [eD, .Call (.Name "_law_met" q3) es [] q4] k2 q5) env = pure (some [("due" : Str), ("found" : Str)]))
    (hsw : ∀ l env, swapsWithSole [.Tuple [.Name "due" q1, .Name "found" q2] k1 tp] (.Tuple [eD, .Call (.Name "_law_met" q3) es [] q4] k2 q5) l env = pure false)
    (hD : SE S ks eD xD) (hE : SEL S ks es xs)
    (hx : xD fr σ fun a σ1 => isD a fun dd => xs fr σ1 fun as σ2 => SCM S 563 as σ2.g (fun a2 g' => isD a2 fun d2 => QN dd d2 { σ2 with g := g' }) (dd = .none ∧ QL))
    (norm : ∀ dd d2 σ' h' tk', QN dd d2 σ' → Rl S ks d T ((fr.set 9 (some (.d d2))).set 8 (some (.d dd))) σ' h' → QQ .next { s with heap := h', toks := tk' })
    (lost : QL → ∀ h' tk', Rl S ks (d.lost S) Tm.nil lostFr' {} h' → QQ .next { s with heap := h', toks := tk' }) :
    wpAny (model PG S.w) A (exec (.Assign [.Tuple [.Name "due" q1, .Name "found" q2] k1 tp] (.Tuple [eD, .Call (.Name "_law_met" q3) es [] q4] k2 q5) pos) env) QQ E s := by
  have hcf := S.gf (p := (("_law_met" : Str), 563)) (List.mem_of_getElem? (i := 28) rfl)
  refine Assign_Tuple_swapped (names := [("due" : Str), "found"]) (wpAny_Tuple (spliced_more (hD.ev H hA R hx fun v a σ1 h1 tk1 R1 q => ?_) (hD.star _ _))) (hsw _ _) (hw _ H.kind (NmL.kinds H (is := [8, 9]) (.cons i8 (.cons i9 .nil))))
  obtain ⟨dd, rfl, q⟩ := isD_inv q
  refine spliced_more (eval_call (ev_glob (s := { s with heap := h1, toks := tk1 }) H R1 hM hcf.1 (callWith_ (s := { s with heap := h1, toks := tk1 }) hE H hA R1 hcf.2 q fun vs as σ2 h2 tk2 R2 C => ?_))) rfl
  obtain ⟨C⟩ := C
  cases R2 with | mk c m mg mh lh X G Hh FF t =>
  obtain ⟨tl, tv, tt⟩ := t
  refine C A { s with heap := h2, toks := tk2 } c mg vs lh [env] hA X.hp G tl (F.rp H X) _ _ (fun v2 h3 tk3 c3 mu3 av g3 O M V z => ?_) fun ql h3 tk3 hs hk => ?_
  · obtain ⟨d2, rfl, z⟩ := isD_inv z
    have R3 : Rl S ks d (Tm.dl [v, v2] [dd, d2] T) fr { σ2 with g := g3 } h3 := ⟨c3, m, mu3, mh, lh, X.back O, M, Hh.mono O.grow, FF.mono O.grow, .cons (Rd.mono O.grow tv) (.cons V .nil), T.mono O.grow tt⟩
    exact spliced_none (mid_fin i8 i9 hA H R3 fun h' tk' R4 => norm dd d2 _ h' tk' z R4)
  · obtain ⟨rfl, ql⟩ := ql
    obtain rfl := Rd.none_inv tv
    have hLm : d.L ∉ mg.map (·.1) := fun q => by
      obtain ⟨p, hp, e⟩ := List.mem_map.mp q
      exact (X.own p (List.mem_append_left _ hp)).2.1 e
    obtain ⟨oL, es', ep, hLo, hd, hr⟩ := X.ns
    obtain ⟨sl, z2⟩ := hk _ _ hLo hLm (by rw [hd]; exact nofun)
    have R3 : Rl S ks (d.lost S) (Tm.dl [.none, .none] [.none, .none] Tm.nil) lostFr {} h3 := (lost_rl hs X.sizeb ⟨_, es', ep, z2, hd, hr⟩).imp fun c lh t => ⟨.cons .none (.cons .none .nil), t⟩
    exact spliced_none (mid_fin (d := d.lost S) i8 i9 hA ⟨H.kind, H.names, H.loc, H.glob, H.blt, H.cells, H.nd, H.dbg⟩ R3 fun h' tk' R4 => lost ql h' tk' R4)
end
end Mine
/-! ## TJ -/
namespace Mine
open PySem PySem.W PySem.Calls PyProof.Rows
section
variable (S : Stat)
inductive It (D : PyData) (k : Nat) (fr : Fr') (σ : Sto) : Prop
  | mk (y : Option AV) : fr = initFr D y none → σ = {} → It D k fr σ
/-- the source's contract -/
theorem c_source (n : Nat) {r : List Tk} {ep : Nat} (hr : r.length ≤ 100000) (ht : ∀ t ∈ r, TokOk t) {A : Around} {s : Shared} {c : CM} {v : Value} {D : Addr} (hA : Rm A (n + 5)) (Hp : Hp S.hb c [] s.heap) (hv : Rd c v (.list (r.map tkd))) (hI : InA D ep c) (hD : (D == sysModules) = false) {QQ E : Value → Shared → Prop}
    (ret : ∀ x dx lr di sz h' tk' c' ms, Out s.heap c [] ms c' h' → SrcM S.w { S.ad with x := x, dx := dx, lr := lr, di := di, sz := sz } c' (some (r, 0)) ms → QQ (.ref x) { s with heap := h', toks := tk' }) :
    wpAny (model PG S.w) A (call (.ref 481) [v, .ref D]) QQ E s := by
  refine c_sourceOf (S := S.lv (n + 3)) (iL := 14) (iD := 15) (iC := 16) (j := 33) rfl rfl (fun nm dV kV doc pm an cdv ct s a v dd t n X h1 h2 h3 => binds_K X h1 h2 h3 rfl rfl) (by decide +kernel) rfl rfl rfl rfl rfl rfl hr
    (fun ad => SS.forL 6 rfl (SE.loc 1 rfl) (.cons (SS.ifs (SE.or (SE.not (SE.call 8 1 rfl rfl (.cons (SE.loc 6 rfl) .nil))) (SE.one (SE.cmp (SE.ix (SE.loc 6 rfl) SE.int) (SE.tup (.cons (SE.glob 9 13 rfl rfl) (.cons (SE.glob 10 14 rfl rfl) (.cons (SE.glob 11 15 rfl rfl) (.cons (SE.glob 12 16 rfl rfl) .nil)))))))) (.cons SS.stuck .nil) .nil) .nil)) (fun ad => ?_)
    (fun ad => (SE.tup (.cons (SE.call 17 32 rfl rfl (.cons (SE.loc 4 rfl) .nil)) (.cons (SE.call 17 32 rfl rfl (.cons (SE.loc 5 rfl) .nil)) .nil)))) (fun ad y z => ?_) (fun _ _ => rfl) (fun ad i j h => c_check_inner { S with ad := ad } {} n i j h) hA Hp hv hI hD ret
  · refine forGo_inv (It (.list (r.map tkd))) _ _ _ ⟨none, rfl, rfl⟩ ?_ ?_
    · rintro k d _ _ K hd ⟨y, rfl, rfl⟩ hK
      obtain ⟨t, htr, rfl⟩ := List.mem_map.mp hd
      have htk := ht t htr
      obtain ⟨a, b⟩ := t
      exact ifs_v _ (val_or (u := false) (σ' := {}) (fun K h => (c_is_token { S with ad := ad } _ (n + 1) _ htk).to h) fun _ K h => ⟨⟨rfl, rfl⟩, h⟩) (fun h => nomatch (tok_out htk.1).symm.trans h) fun _ => hK _ _ ⟨_, rfl, rfl⟩
    · rintro _ _ ⟨y, rfl, rfl⟩
      exact ⟨⟨y, rfl⟩, rfl⟩
  · have hcd : SC ({ S with ad := ad }.lv (n + 3)) 154 [.d (.int 0)] {} (fun v g' => v = .d (.int 0) ∧ g' = {}) := (c_check_dimen { S with ad := ad } {} (n + 1) 0 (by decide) (by decide)).mono (Nat.le_refl _) fun _ _ z => z
    exact hcd.to (hcd.to ⟨rfl, rfl⟩)
end
end Mine
/-! ## TK -/
namespace Mine
open PySem PySem.W PySem.Calls PyProof.Rows
/-! ## what a way leaves -/
structure Kp (r q : List Tk) : Prop where
  mem : ∀ t ∈ q, t ∈ r
  len : q.length ≤ r.length
theorem Kp.rfl {r : List Tk} : Kp r r := ⟨fun _ h => h, Nat.le_refl _⟩
theorem Kp.then {r q p : List Tk} (h : Kp r q) (k : Kp q p) : Kp r p := ⟨fun t ht => h.mem t (k.mem t ht), Nat.le_trans k.len h.len⟩
theorem Kp.tail {r : List Tk} : Kp r r.tail := ⟨fun _ => List.mem_of_mem_tail, by rw [List.length_tail]; exact Nat.sub_le _ _⟩
theorem Kp.drop {r : List Tk} {n : Nat} : Kp r (r.drop n) := ⟨fun _ => List.mem_of_mem_drop, by rw [List.length_drop]; exact Nat.sub_le _ _⟩
theorem Kp.past {f : Bool} {r : List Tk} : Kp r (past f r) := ⟨past_mem f r, past_len f r⟩
theorem Kp.sg {r : List Tk} : Kp r (sgn r).1 := ⟨sg_mem _ _ _, sg_len _ _ _⟩
theorem Kp.optB {r : List Tk} : Kp r (optB r) := by
  cases r with
  | nil => exact .rfl
  | cons t r =>
    by_cases h : t.1 = 10
    · rw [show Mine.optB (t :: r) = r from if_pos h]; exact .tail
    · rw [show Mine.optB (t :: r) = t :: r from if_neg h]; exact .rfl
theorem Kp.optA {r : List Tk} : Kp r (optA r) := by
  cases r with
  | nil => exact .rfl
  | cons t r =>
    by_cases h : t = (12, 61)
    · rw [show Mine.optA (t :: r) = r from if_pos h]; exact .tail
    · rw [show Mine.optA (t :: r) = t :: r from if_neg h]; exact .rfl
theorem Kp.small {r : List Tk} {top x : Int} {q : List Tk} (h : smallP r top = some (x, q)) : Kp r q := by
  cases hn : npP r with
  | none => rw [small_none hn] at h; exact nomatch h
  | some y =>
    obtain ⟨x', i, q'⟩ := y
    rw [small_of hn] at h
    obtain ⟨hm, hq, _⟩ := npP_mem hn
    by_cases hc : 0 ≤ x' ∧ x' ≤ top
    · rw [if_pos hc] at h
      cases h
      cases i with
      | true => exact ⟨hm, hq⟩
      | false => exact Kp.then ⟨hm, hq⟩ .optB
    · rw [if_neg hc] at h; exact nomatch h
theorem shaped_fnd (x : Option Tk × Int × Int) : SeqAt.shaped (.tuple [fnd x]) = true := by obtain ⟨_ | _, _, _⟩ := x <;> rfl
theorem shaped_fndb (x : Option Tk × Int × Int) (b : Bool) : SeqAt.shaped (.tuple [.tuple [fnd x, .bool b]]) = true := by obtain ⟨_ | _, _, _⟩ := x <;> rfl
structure DueOk (way : Int) (r : List Tk) (m : More) (d : PyData) (q : List Tk) : Prop where
  len : q.length ≤ r.length + 1
  mem : ∀ t ∈ q, t ∈ r ∨ m = .tok t
  sh : SeqAt.shaped (.tuple [d]) = true
  b : way = 0 → ∃ b, d = .bool b
theorem DueOk.of {way : Int} {r : List Tk} {m : More} {d : PyData} {q : List Tk} (k : Kp r q) (sh : SeqAt.shaped (.tuple [d]) = true) (b : way = 0 → ∃ b, d = .bool b) : DueOk way r m d q := ⟨Nat.le_succ_of_le k.len, fun t h => .inl (k.mem t h), sh, b⟩
/-- what a way leaves: part of what was there, or one token more -/
theorem due_keeps {way : Int} {r : List Tk} {m : More} {d : PyData} {q : List Tk} (h : dueP way r m = some (d, q)) : DueOk way r m d q := by
  unfold dueP at h
  by_cases h0 : way = 0
  · rw [if_pos h0] at h
    cases m with
    | word w =>
      cases h
      refine .of (Kp.then (.past (f := false)) ?_) rfl fun _ => ⟨_, rfl⟩
      cases standsP (past false r) w.toList with
      | true => exact .drop
      | false => exact .rfl
    | _ => exact nomatch h
  rw [if_neg h0] at h
  have nz : ∀ {d}, way = 0 → ∃ b, d = PyData.bool b := fun z => absurd z h0
  by_cases h1 : way = 1 ∨ way = 2
  · rw [if_pos h1] at h; cases h; exact .of (Kp.past.then .tail) (shaped_fnd _) nz
  rw [if_neg h1] at h
  by_cases h3 : way = 3
  · rw [if_pos h3] at h; cases h; exact .of .optB rfl nz
  rw [if_neg h3] at h
  by_cases h4 : way = 4
  · rw [if_pos h4] at h; cases h; exact .of (Kp.past.then .optA) rfl nz
  rw [if_neg h4] at h
  by_cases h5 : way = 5
  · rw [if_pos h5] at h
    by_cases hb : isBrace (past true r) = true
    · rw [if_pos hb] at h; cases h; exact .of (Kp.past.then .tail) (shaped_fnd _) nz
    · rw [if_neg hb] at h; exact nomatch h
  rw [if_neg h5] at h
  by_cases h6 : way = 6
  · rw [if_pos h6] at h
    cases m with
    | num top =>
      obtain ⟨y, hy, e⟩ := Option.map_eq_some_iff.mp h
      cases e
      exact .of (.small (x := y.1) hy) rfl nz
    | _ => exact nomatch h
  rw [if_neg h6] at h
  by_cases h7 : way = 7
  · rw [if_pos h7] at h; cases h; exact .of (Kp.sg.then .tail) (shaped_fndb _ _) nz
  rw [if_neg h7] at h
  by_cases h8 : way = 8
  · rw [if_pos h8] at h; cases h; exact .of .tail (shaped_fnd _) nz
  rw [if_neg h8] at h
  cases m with
  | tok t =>
    cases h
    exact ⟨Nat.le_refl _, fun u hu => (List.mem_cons.mp hu).elim (fun e => .inr (e ▸ rfl)) .inl, rfl, nz⟩
  | _ => exact nomatch h
end Mine
/-! ## TL -/
namespace Mine
open PySem PySem.W PySem.Calls PyProof.Rows
noncomputable abbrev lawFr (D : PyData) (r : List Tk) (b : Int) (x5 x6 x7 x8 x9 : Option AV) : Fr' := [some (.d D), some .pool, some (.d (.list (r.map tkd))), some .src, some (.d (.int b)), x5, x6, x7, x8, x9]
noncomputable abbrev lawG (p : Int × Int) (r : List Tk) (b : Int) : Sto := ⟨{ pool := some p, src := some (r, b) }, none⟩
structure LawOk (n : Nat) (r : List Tk) (p : Int × Int) : Prop where
  tok : ∀ t ∈ r, TokL t
  len : r.length ≤ n
  pool : POk p
structure WayOk (way : Int) (m : More) : Prop where
  lo : 0 ≤ way
  hi : way ≤ 9
  more : MoreOk way m
  word : MoreM m
  tok : ∀ t, m = .tok t → TokL t
theorem RF.ex {hb : Heap} {outer : List Env} {A : Around} {env : Env} {d : Dy} (F : RF hb outer A env d) (ex : List (Addr × Obj)) : RF hb outer A env { d with ex := ex } := ⟨F.fr, F.f, F.stay, F.nomod, F.ff, F.ffm⟩
theorem PoolM.reAd {ad ad' : Ad} {c c' : CM} {x : Option (Int × Int)} {mu : List (Addr × Obj)} (h : PoolM ad c x mu) (e : ad'.lp = ad.lp) : PoolM ad' c' x mu := by
  cases h with
  | none => exact .none
  | some a b => rw [← e]; exact .some a b
/-- a frame of data alone, and of the pool -/
theorem FrR.reAd {ad ad' : Ad} {lh : Addr} {c : CM} {ks : List (Str × NameKind)} {cl : List (Str × Addr)} {fr : Fr'} {m : Str → Option Value} (F : FrR ad lh c ks cl fr m) (hF : ∀ (i : Nat) av, fr[i]? = some (some av) → ∀ v, VR ad lh c v av → VR ad' lh c v av) : FrR ad' lh c ks cl fr m :=
  fun i x k av hi hf => (F i x k av hi hf).reAd (hF i av hf)
section
variable {S : Stat} {ks : List (Str × NameKind)} {d : Dy} {A : Around} {E : Value → Shared → Prop} {s : Shared} {QQ : Flow → Shared → Prop} {env : Env}
/-- pool = _law_pool(script) -/
theorem law_pool {l : List Int} {iP : Nat} {a1 a2 a3 a4 a5 : Pos} (hl : l.length ≤ 1000) (H : EnvOk ks d env) (hA : Rm A S.k) (hk : 1 ≤ S.k) (i0 : ks[0]? = some (("script" : Str), NameKind.local)) (i1 : ks[1]? = some (("pool" : Str), NameKind.local)) (iG : ks[iP]? = some (("_law_pool" : Str), NameKind.globalImplicit))
    (R : Rl S ks d Tm.nil [some (.d (.list (l.map .int))), none, none, none, none, none, none, none, none, none] {} s.heap)
    (ret : ∀ I p h' tk', POk p → Rl { S with ad := { S.ad with lp := I } } ks d Tm.nil [some (.d (.list (l.map .int))), some .pool, none, none, none, none, none, none, none, none] ⟨{ pool := some p }, none⟩ h' → QQ .next { s with heap := h', toks := tk' }) :
    wpAny (model PG S.w) A (exec (.Assign [.Name "pool" a1] (.Call (.Name "_law_pool" a2) [.Name "script" a3] [] a4) a5) env) QQ E s := by
  have hcf := S.gf (p := (("_law_pool" : Str), 506)) (List.mem_of_getElem? (i := 19) rfl)
  refine wpAny_Assign_Name (eval_call (ev_glob H R iG hcf.1 (callWith_ (Q := fun as σ => as = [.d (.list (l.map .int))] ∧ σ = {}) (.cons (.loc 0 i0) .nil) H hA R hcf.2 ⟨rfl, rfl⟩ fun vs as σ2 h2 tk2 R2 q => ?_))) rfl
  obtain ⟨rfl, rfl⟩ := q
  cases R2 with | mk c m mg mh lh X G Hh FF t =>
  cases G with | mk mp ms e PM SM =>
  cases PM
  cases SM
  cases Hh
  subst e
  cases t.1 with | cons tv tr =>
  cases tr
  refine c_pool (s := { s with heap := h2, toks := tk2 }) (S.lv 0) l hl (hA.less hk) (X.hp (pass := [])) tv fun I o h' tk' c' p O PM hp => ?_
  have R3 : Rl { S with ad := { S.ad with lp := I } } ks d (Tm.v { S.ad with lp := I } (.ref I) .pool Tm.nil) [some (.d (.list (l.map .int))), none, none, none, none, none, none, none, none, none] ⟨{ pool := some p }, none⟩ h' := by
    refine ⟨c', m, [(I, o)], [], lh, X.back (pass := []) O, ⟨[(I, o)], [], rfl, PM, .none⟩, .none, (FF.mono O.grow).reAd fun i av hf v hv => ?_, rfl, True.intro⟩
    rcases i with _ | _ | _ | _ | _ | _ | _ | _ | _ | _ | i <;> cases hf
    exact hv
  exact st_sound (S := { S with ad := { S.ad with lp := I } }) (i := 1) (s := { s with heap := h', toks := tk' }) H i1 R3 fun h4 tk4 R4 => ret I p h4 tk4 hp R4
/-- source, balance = (PlainSource(rest, {0: (0, 7), 1: (1, 300)}), 0) -/
theorem law_source {D : PyData} {p : Int × Int} {r : List Tk} {iG : Nat} {eA eB : Expr} {xA xB : X} {b1 b2 b3 b4 b5 b6 b7 b8 b9 b10 c1 c2 : Pos} {k0 k1 k2 k3 k4 : Nat} (hr : r.length ≤ 100000) (ht : ∀ t ∈ r, TokOk t) (H : EnvOk ks d env) (hA : Rm A S.k) (hk : 5 ≤ S.k)
    (i2 : ks[2]? = some (("rest" : Str), NameKind.local)) (i3 : ks[3]? = some (("source" : Str), NameKind.local)) (i4 : ks[4]? = some (("balance" : Str), NameKind.local)) (hG : ks[iG]? = some (("PlainSource" : Str), NameKind.globalImplicit))
    (R : Rl S ks d Tm.nil [some (.d D), some .pool, some (.d (.list (r.map tkd))), none, none, none, none, none, none, none] ⟨{ pool := some p }, none⟩ s.heap)
    (hA0 : SE S ks eA xA) (hB0 : SE S ks eB xB) (w0 : ∀ fr σ, xA fr σ fun a σ' => a = .d (tk2 0 7) ∧ σ' = σ) (w1 : ∀ fr σ, xB fr σ fun a σ' => a = .d (tk2 1 300) ∧ σ' = σ)
    (hsw : ∀ l env, swapsWithSole [.Tuple [.Name "source" b1, .Name "balance" b2] k0 b3] (.Tuple [.Call (.Name "PlainSource" b4) [.Name "rest" b5, .Dict [some (.Constant (.int 0) k1 b6), some (.Constant (.int 1) k2 b7)] [eA, eB] b8] [] b9, .Constant (.int 0) k3 b10] k4 c1) l env = pure false)
    (hw : ∀ env : Env, env.scope.kind = .function → (∀ x ∈ [("source" : Str), "balance"], env.kindOf x = some .local) → swappedStores [.Tuple [.Name "source" b1, .Name "balance" b2] k0 b3] (.Tuple [.Call (.Name "PlainSource" b4) [.Name "rest" b5, .Dict [some (.Constant (.int 0) k1 b6), some (.Constant (.int 1) k2 b7)] [eA, eB] b8] [] b9, .Constant (.int 0) k3 b10] k4 c1) env = pure (some [("source" : Str), ("balance" : Str)]))
    (ret : ∀ x dx lr di sz h' tk', Rl { S with ad := { S.ad with x := x, dx := dx, lr := lr, di := di, sz := sz } } ks d Tm.nil (lawFr D r 0 none none none none none) (lawG p r 0) h' → QQ .next { s with heap := h', toks := tk' }) :
    wpAny (model PG S.w) A (exec (.Assign [.Tuple [.Name "source" b1, .Name "balance" b2] k0 b3] (.Tuple [.Call (.Name "PlainSource" b4) [.Name "rest" b5, .Dict [some (.Constant (.int 0) k1 b6), some (.Constant (.int 1) k2 b7)] [eA, eB] b8] [] b9, .Constant (.int 0) k3 b10] k4 c1) c2) env) QQ E s := by
  have L8 := and2 (and2 (and2 (and2 (S.G.L.at 8 rfl)).1).1).1
  refine Assign_Tuple_swapped (names := [("source" : Str), "balance"]) (wpAny_Tuple (spliced_more (eval_call (ev_glob H R hG (beq_true L8.1) (callWith_K S.G.K L8.2 (spliced_more (loc_ev i2 H R rfl fun v R2 => spliced_more (dict_lit H hA R2 hA0 hB0 (w0 _ _) (w1 _ _) fun DD ep h3 tk3 hDD R3 => spliced_none ⟨R3.K, ?_⟩) rfl) rfl) rfl rfl))) rfl)) (hsw _ _) (hw _ H.kind (NmL.kinds H (is := [3, 4]) (.cons i3 (.cons i4 .nil))))
  cases R3 with | mk c m mg mh lh X G Hh FF t =>
  obtain ⟨tI, tv, -⟩ := t
  cases G with | mk mp ms e PM SM =>
  cases SM
  cases Hh
  rw [List.append_nil] at e
  subst e
  refine c_source (s := { s with heap := h3, toks := tk3 }) S 0 hr ht (hA.less hk) (X.hp (pass := [])) tv tI hDD fun x dx lr di sz h4 tk4 c4 ms O SM => ?_
  have R4 : Rl { S with ad := { S.ad with x := x, dx := dx, lr := lr, di := di, sz := sz } } ks d (Tm.v { S.ad with x := x, dx := dx, lr := lr, di := di, sz := sz } (.ref x) .src Tm.nil) [some (.d D), some .pool, some (.d (.list (r.map tkd))), none, none, none, none, none, none, none] (lawG p r 0) h4 := by
    refine ⟨c4, m, mg ++ ms, [], lh, ((X.back (pass := []) O).perm ?_), ⟨mg, ms, rfl, PM.reAd rfl, SM⟩, .none, (FF.mono O.grow).reAd fun i av hf v hv => ?_, rfl, True.intro⟩
    · show List.Perm ((mg ++ ms) ++ ([] ++ d.ex)) (ms ++ (mg ++ ([] ++ d.ex)))
      rw [← List.append_assoc ms]
      exact List.Perm.append_right _ List.perm_append_comm
    · rcases i with _ | _ | _ | _ | _ | _ | _ | _ | _ | _ | i <;> cases hf
      all_goals exact hv
  refine spliced_more (wpAny_Constant_int (spliced_none ⟨by rw [sizeLine_eq]; exact Nat.le_of_ble_eq_true rfl, ?_⟩)) rfl
  have R5 := (R4.val (v := .int 0 tk4) (x := .int 0) fun c => .int _ _).keeps (push_keeps h4 { cls := .type "tuple", data := .seq [.ref x, .int 0 tk4].toArray })
  have ht2 : IsTup (h4.push { cls := .type "tuple", data := .seq [.ref x, .int 0 tk4].toArray }) h4.objs.size [.ref x, .int 0 tk4].toArray := ⟨_, Heap.get?_push_size h4 rfl, rfl, _, rfl⟩
  refine unpackItems_tuple (items := [.ref x, .int 0 tk4].toArray) hA.handled ht2 fun h5 he => ?_
  refine assignInOrder_cons (bindName_ (st_sound (S := { S with ad := { S.ad with x := x, dx := dx, lr := lr, di := di, sz := sz } }) (i := 4) (s := ⟨h5, _, _, _, _⟩) H i4 (R5.keeps (h' := h5) fun b o e => he b o (Nat.ne_of_lt (Heap.lt_size e)) e) fun h6 tk6 R7 => ?_))
  exact assignInOrder_cons (bindName_ (st_sound (S := { S with ad := { S.ad with x := x, dx := dx, lr := lr, di := di, sz := sz } }) (i := 3) (s := ⟨h6, _, _, _, _⟩) H i3 R7 fun h7 tk7 R8 => assignInOrder_nil (ret x dx lr di sz h7 tk7 R8)))
end
end Mine
/-! ## TM -/
namespace Mine
open PySem PySem.W PySem.Calls PyProof.Rows
theorem SCM.mono {S : Stat} {f : Addr} {args : List AV} {g : Gs} {Q Q' : AV → Gs → Prop} {L L' : Prop} (h : SCM S f args g Q L) (q : ∀ a g, Q a g → Q' a g) (l : L → L') : SCM S f args g Q' L' := by
  obtain ⟨h⟩ := h
  exact ⟨fun A s c mu vs lh outer hA Hp GM VL P QQ E ret re => h A s c mu vs lh outer hA Hp GM VL P QQ E (fun v h' tk' c' mu' av g' O M V z => ret v h' tk' c' mu' av g' O M V (q _ _ z)) fun z h' tk' a b => re (l z) h' tk' a b⟩
/-- where a turn begins; behind its choice; behind what was due -/
inductive LawSt (D : PyData) (i : Nat) (fr : Fr') (σ : Sto) : Prop
  | mk (r b p x5 x6 x7 x8 x9) : fr = lawFr D r b x5 x6 x7 x8 x9 → σ = lawG p r b → LawOk (42 + 2 * i) r p → LawSt D i fr σ
inductive LawMid (D : PyData) (i : Nat) (fr : Fr') (σ : Sto) : Prop
  | mk (r b p way m x8 x9) : fr = lawFr D r b (some (.d (.int i))) (some (.d (.int way))) (some (.d (More.d m))) x8 x9 → σ = lawG p r b → LawOk (42 + 2 * i + 1) r p → WayOk way m → LawMid D i fr σ
inductive LawDue (D : PyData) (i : Nat) (fr : Fr') (σ : Sto) : Prop
  | mk (r b p way m dd q) : fr = lawFr D r b (some (.d (.int i))) (some (.d (.int way))) (some (.d (More.d m))) (some (.d (.tuple [dd, .list (q.map tkd)]))) (some (.d (.tuple [dd]))) → σ = lawG p q (b + brS r - brS q) →
      LawOk (42 + 2 * i + 1) r p → LawOk (42 + 2 * (i + 1)) q p → DueOk way r m dd q → LawDue D i fr σ
section
variable {S : Stat} {ks : List (Str × NameKind)} {d : Dy} {A : Around} {E : Value → Shared → Prop} {s : Shared} {QQ : Flow → Shared → Prop} {env : Env}
/-- one turn of the law -/
theorem law_body {D : PyData} {i iM : Nat} {fr : Fr'} {σ : Sto} {eD : Expr} {g1 g2 g3 g4 : Stmt} {suf : List Stmt} {es : List Expr} {slP slS : SL} {q1 q2 q3 q4 q5 q6 q7 : Pos} {k1 k2 : Nat} (H : EnvOk ks d env) (hA : Rm A 8) (F : RF S.hb [] A env d) (i8 : ks[8]? = some (("due" : Str), NameKind.local)) (i9 : ks[9]? = some (("found" : Str), NameKind.local))
    (hM : ks[iM]? = some (("_law_met" : Str), NameKind.globalImplicit)) (R : Rl (S.lv 8) ks d Tm.nil (fr.set 5 (some (.d (.int i)))) σ s.heap) (q : LawSt D i fr σ) (hi : i < 15)
    (hP : SSs (S.lv 8) ks [g1, g2, g3, g4] slP) (hPw : ∀ i fr σ, LawSt D i fr σ → i < 15 → slP (fr.set 5 (some (.d (.int i)))) σ (LawMid D i) fun _ _ _ => False)
    (hD : SE (S.lv 8) ks eD (.call (S.lv 8) 556 (.cons (.loc 6) (.cons (.loc 2) (.cons (.loc 7) .nil))))) (hE : SEL (S.lv 8) ks es (.cons (.loc 6) (.cons (.loc 3) (.cons (.loc 7) .nil))))
    (hsw : ∀ l env, swapsWithSole [.Tuple [.Name "due" q1, .Name "found" q2] k1 q3] (.Tuple [eD, .Call (.Name "_law_met" q4) es [] q5] k2 q6) l env = pure false)
    (hw : ∀ env : Env, env.scope.kind = .function → (∀ x ∈ [("due" : Str), "found"], env.kindOf x = some .local) → swappedStores [.Tuple [.Name "due" q1, .Name "found" q2] k1 q3] (.Tuple [eD, .Call (.Name "_law_met" q4) es [] q5] k2 q6) env = pure (some [("due" : Str), ("found" : Str)]))
    (hS : SSL (S.lv 8) ks suf slS) (hSw : ∀ i fr σ, LawDue D i fr σ → i < 15 → slS fr σ (LawSt D (i + 1)) fun _ _ _ => False) (hSl : slS lostFr' {} (fun _ _ => False) fun a _ _ => a = .d (.bool true))
    (next : ∀ fr' σ' h' tk', Rl (S.lv 8) ks d Tm.nil fr' σ' h' → LawSt D (i + 1) fr' σ' → QQ .next { s with heap := h', toks := tk' })
    (lost : ∀ h' tk', S.hb.StaysIn h' → QQ (.ret (.bool true)) { s with heap := h', toks := tk' }) :
    wpAny (model PG S.w) A (execs (g1 :: g2 :: g3 :: g4 :: .Assign [.Tuple [.Name "due" q1, .Name "found" q2] k1 q3] (.Tuple [eD, .Call (.Name "_law_met" q4) es [] q5] k2 q6) q7 :: suf) env) QQ E s := by
  refine hP.ex H hA (fun _ _ _ t => t) R (hPw i fr σ q hi) (fun fr σ h5 tk5 R8 q => ?_) fun v a fr σ h5 tk5 R8 q => q.elim
  cases q with | mk r b p way m x8 x9 ef es ok wok =>
  subst ef es
  refine wpAny_execs_cons (mid_sound (S := S.lv 8) (s := { s with heap := h5, toks := tk5 }) (QN := fun dd d2 σ' => LawDue D i (lawFr D r b (some (.d (.int i))) (some (.d (.int way))) (some (.d m.d)) (some (.d dd)) (some (.d d2))) σ') (QL := True) H hA F R8 (fun _ _ _ t => t) i8 i9 hM hw hsw hD hE ?_ (fun dd d2 σ' h6 tk6 q R9 => ?_) fun _ h6 tk6 R9 => ?_)
  · have hl : r.length < 900 := by have := ok.len; omega
    refine (c_due S _ 3 way m r hl wok.lo wok.hi wok.more fun t h => (ok.tok t h).1).to ?_
    refine (c_met S { pool := some p } 0 way m r b hl wok.lo wok.hi wok.more wok.word ok.tok).mono ?_ fun hd => ⟨by rw [hd]; rfl, True.intro⟩
    rintro a g ⟨d, q, hd, rfl, rfl⟩
    have dk := due_keeps hd
    rw [hd]
    exact ⟨r, b, p, way, m, d, q, rfl, rfl, ok, ⟨fun t ht => (dk.mem t ht).elim (ok.tok t) (wok.tok t), by have := ok.len; have := dk.len; omega, ok.pool⟩, dk⟩
  · exact hS.ex (s := { s with heap := h6, toks := tk6 }) H hA (fun _ _ _ t => t) R9 (hSw i _ _ q hi) (fun fr σ h7 tk7 R10 q => next fr σ h7 tk7 R10 q) fun v a fr σ h7 tk7 R10 q => q.elim
  · refine hS.ex (s := { s with heap := h6, toks := tk6 }) (d := Dy.lost (S.lv 8) d) ⟨H.kind, H.names, H.loc, H.glob, H.blt, H.cells, H.nd, H.dbg⟩ hA (fun _ _ _ t => t) R9 hSl (fun fr σ h7 tk7 R10 q => q.elim) fun v a fr σ h7 tk7 R10 q => ?_
    subst q
    obtain rfl := R10.bool
    exact lost h7 tk7 R10.keep
/-- the law's loop -/
theorem law_loop {D : PyData} {iM iR : Nat} {fr : Fr'} {σ : Sto} {eN eD : Expr} {g1 g2 g3 g4 : Stmt} {suf : List Stmt} {es : List Expr} {xN : X} {slP slS : SL} {q1 q2 q3 q4 q5 q6 q7 q8 q9 q10 q11 : Pos} {k1 k2 : Nat} (H : EnvOk ks d env) (hA : Rm A 8) (F : RF S.hb [] A env d)
    (i5 : ks[5]? = some (("turn" : Str), NameKind.local)) (i8 : ks[8]? = some (("due" : Str), NameKind.local)) (i9 : ks[9]? = some (("found" : Str), NameKind.local)) (hM : ks[iM]? = some (("_law_met" : Str), NameKind.globalImplicit)) (hR : ks[iR]? = some (("range" : Str), NameKind.globalImplicit))
    (R : Rl (S.lv 8) ks d Tm.nil fr σ s.heap) (hN : SE (S.lv 8) ks eN xN) (hNw : xN fr σ fun a σ => ∃ N : Nat, a = .d (.int N) ∧ N ≤ 15 ∧ LawSt D 0 fr σ)
    (hP : SSs (S.lv 8) ks [g1, g2, g3, g4] slP) (hPw : ∀ i fr σ, LawSt D i fr σ → i < 15 → slP (fr.set 5 (some (.d (.int i)))) σ (LawMid D i) fun _ _ _ => False)
    (hD : SE (S.lv 8) ks eD (.call (S.lv 8) 556 (.cons (.loc 6) (.cons (.loc 2) (.cons (.loc 7) .nil))))) (hE : SEL (S.lv 8) ks es (.cons (.loc 6) (.cons (.loc 3) (.cons (.loc 7) .nil))))
    (hsw : ∀ l env, swapsWithSole [.Tuple [.Name "due" q1, .Name "found" q2] k1 q3] (.Tuple [eD, .Call (.Name "_law_met" q4) es [] q5] k2 q6) l env = pure false)
    (hw : ∀ env : Env, env.scope.kind = .function → (∀ x ∈ [("due" : Str), "found"], env.kindOf x = some .local) → swappedStores [.Tuple [.Name "due" q1, .Name "found" q2] k1 q3] (.Tuple [eD, .Call (.Name "_law_met" q4) es [] q5] k2 q6) env = pure (some [("due" : Str), ("found" : Str)]))
    (hS : SSL (S.lv 8) ks suf slS) (hSw : ∀ i fr σ, LawDue D i fr σ → i < 15 → slS fr σ (LawSt D (i + 1)) fun _ _ _ => False) (hSl : slS lostFr' {} (fun _ _ => False) fun a _ _ => a = .d (.bool true))
    (next : ∀ fr' σ' h' tk', Rl (S.lv 8) ks d Tm.nil fr' σ' h' → QQ .next { s with heap := h', toks := tk' })
    (lost : ∀ h' tk', S.hb.StaysIn h' → QQ (.ret (.bool true)) { s with heap := h', toks := tk' }) :
    wpAny (model PG S.w) A (exec (.For (.Name "turn" q8) (.Call (.Name "range" q9) [eN] [] q10) (g1 :: g2 :: g3 :: g4 :: .Assign [.Tuple [.Name "due" q1, .Name "found" q2] k1 q3] (.Tuple [eD, .Call (.Name "_law_met" q4) es [] q5] k2 q6) q7 :: suf) [] q11) env) QQ E s := by
  refine wpAny_For (eval_call (ev_b (S := S.lv 8) 3 H R hR rfl (PyProof.Rows.callWith_type1 (spliced_more (hN.ev H hA R hNw fun v a σ' h' tk' R' q => spliced_none ?_) (hN.star _ _)) (hN.star _ _))))
  obtain ⟨N, rfl, hN15, q⟩ := q
  obtain ⟨tt, rfl⟩ := R'.int
  refine call_range_1 (wpAny_pyIter_range (IsRange.new ..) (small_one (by omega) (by omega) (by omega) (by omega)) ?_)
  rw [rangeSize_nat]
  have R1 := R'.drop.keeps (push_keeps h' { cls := .type "range", data := .fields #[.int 0 tk', .int N tt, .int 1 (tk' + 1)] })
  obtain ⟨R2, hI⟩ := R1.newEx (o := { cls := .type "range_iterator", data := .fields #[rawInt 0, rawInt N, rawInt 1] }) (Heap.get?_push_size _ rfl) (Nat.le_refl _) (push_keeps _ _)
  generalize h'.push { cls := .type "range", data := .fields #[.int 0 tk', .int N tt, .int 1 (tk' + 1)] } = hp at R1 R2 hI ⊢
  refine codeAny_forLoop (St (S.lv 8) ks d hp.objs.size Tm.nil s N fun i fr σ h => IsRangeIter h hp.objs.size (i : Nat) ((N : Int) - (i : Nat)) 1 ∧ i ≤ N ∧ LawSt D i fr σ) (fun j s' q => q.go fun i o fr2 σ2 h2 tk2 ej R3 p => ?_) N ⟨rfl, rfl, R2, by simpa using R2.getEx, Nat.zero_le _, q⟩
  obtain ⟨hit, hi, p⟩ := p
  by_cases hlt : i < N
  · refine wpAny_pyNext_range_item (s := { s with heap := h2, toks := tk2 }) hit (by omega) fun h3 hit3 hs3 => ?_
    refine wpAny_assign_Name (st_sound (S := S.lv 8) (s := { s with heap := h3, toks := tk2 + 1 }) (H.ex _) i5 ((R3.updEx hs3 hit3).val (v := .int (i : Nat) tk2) (x := .int (i : Nat)) fun c => .int _ _) fun h4 tk4 R7 => ?_)
    refine law_body (s := { s with heap := h4, toks := tk4 }) (H.ex _) hA (F.ex _) i8 i9 hM R7 p (by omega) hP hPw hD hE hsw hw hS hSw hSl (fun fr5 σ5 h5 tk5 R8 q => ⟨_, ej ▸ Nat.sub_lt_sub_left hlt (Nat.lt_succ_self i), rfl, rfl, R8, ?_, hlt, q⟩) lost
    rw [show (N : Int) - ((i + 1 : Nat) : Int) = (N : Int) - (i : Int) - 1 by omega]
    exact R8.getEx
  · obtain rfl : i = N := by omega
    exact wpAny_pyNext_range_end (s := { s with heap := h2, toks := tk2 }) hA.handled hit (by omega) fun h3 he => wpAny_execs_nil (next _ _ h3 tk2 (R3.endEx hI he))
end
end Mine
/-! ## TN -/
namespace Mine
open PySem PySem.W PySem.Calls PyProof.Rows
/-- the law's frame, entered -/
theorem c_lawOf {S : Stat} {sg : Sig} (hs : sigAt 72 none = some sg) (hc : scOk sg.scope = true) (hbind : Binds "law" sg 1 ["script"]) (hns : sg.scope.names.take 1 = (["script"] : List Str).map fun n => (n, NameKind.local))
    {A : Around} {s : Shared} {c : CM} {v : Value} {D : PyData} (hA : Rm A (S.k + 1)) (hfr : A.frames = some []) (Hp : Hp S.hb c [] s.heap) (hv : Rd c v D) {QQ E : Value → Shared → Prop}
    (hx : ∀ (d : Dy) (env : Env) (A' : Around) (h₁ : Heap) (tk : Nat), EnvOk sg.scope.names d env → Rm A' S.k → RF S.hb [] A' env d → Rl S sg.scope.names d Tm.nil [some (.d D), none, none, none, none, none, none, none, none, none] {} h₁ →
      ∀ E', wpAny (model PG S.w) A' (execs sg.body env) (fun f s' => QQ (match f with | .ret v => v | _ => .none) s') E' { s with heap := h₁, toks := tk }) :
    wpAny (model PG S.w) A (call (.ref 575) [v]) QQ E s := by
  cases FnAt.of (S.fn 41 rfl hs) with | @mk oc od osl nm dV kV doc pm an cdv ct ho hcd hdv =>
  obtain rfl := noDef_none rfl hdv
  cases ScOk.of hc with | mk nd nm' co gen kd =>
  have hh : ∀ b o, S.hb.get? b = some o → s.heap.get? b = some o := fun b o e => Hp.sub _ _ (Hp.base _ _ e)
  refine wpAny_call (codeAny_call_def (binds := (["script"] : List Str).zip [v]) (Nat.lt_of_le_of_lt (Nat.le_add_right _ _) hA.depth) (hh _ _ (S.G.K _ _ ho)) rfl (S.G.nl.keeps hh) (codeRec_of (S.G.K.keeps hh) hcd) rfl (hbind nm kV doc pm an cdv ct s [v] rfl) (fun x hx => (nm' x hx).2) (fun y hy => ?_) (fun h₁ hns₁ hk₁ => ?_) co gen kd)
  · obtain rfl := List.mem_singleton.mp hy
    exact lookup_of_nodup (i := 0) nd (by rw [← List.getElem?_take_of_lt (Nat.zero_lt_one), hns]; rfl)
  have X := Mine.Sx.enter Hp (Nat.le_refl _) hns₁ hk₁
  exact hx ⟨s.heap, c, [], s.heap.objs.size, [], []⟩ _ _ h₁ _ ⟨kd, rfl, rfl, rfl, rfl, rfl, nd, fun p hp => (nm' p hp).1⟩ hA.deeper ⟨by show A.frames.map _ = _; rw [hfr]; rfl, rfl, hh, nofun, trivial, nofun⟩
    ⟨c, _, [], [], 0, X, ⟨[], [], rfl, .none, .none⟩, .none, entry_fr (ns := ["script"]) (as := [.d D]) (pad := 9) nd hns rfl (.cons hv .nil), True.intro⟩ _
noncomputable abbrev plusM : More := .word #[112, 108, 117, 115]
theorem plus_ok (way : Int) (h0 : 0 ≤ way) (h9 : way ≤ 9) (h6 : way ≠ 6) (hn : way ≠ 9) : WayOk way plusM :=
  ⟨h0, h9, ⟨h6, hn, by decide⟩, ⟨show ∀ m ∈ [112, 108, 117, 115], 97 ≤ m ∧ m ≤ 122 by decide, nofun⟩, nofun⟩
theorem tops_at {y : Int} (h0 : 0 ≤ y) (h1 : y < 6) : ∃ top : Int, top ≤ 2147483647 ∧ ([.int 0, .int 1, .int 15, .int 255, .int 32767, .int 2147483647] : List PyData)[y.toNat]? = some (.int top) := by
  have : y = 0 ∨ y = 1 ∨ y = 2 ∨ y = 3 ∨ y = 4 ∨ y = 5 := by omega
  rcases this with rfl | rfl | rfl | rfl | rfl | rfl <;> exact ⟨_, by decide, rfl⟩
theorem sl_cut {s : SX} {r : SL} {fr : Fr'} {σ : Sto} {N : Fr' → Sto → Prop} {R : AV → Fr' → Sto → Prop} (P : Fr' → Sto → Prop) (k : ∀ N', (∀ fr σ, P fr σ → N' fr σ) → s fr σ N' R) (h : ∀ fr σ, P fr σ → r fr σ N R) : SL.cons s r fr σ N R := k _ h
/-- a turn's choice, so far -/
inductive LawWay (D : PyData) (i : Nat) (r : List Tk) (b : Int) (fr : Fr') (σ : Sto) : Prop
  | mk (way p x7 x8 x9) : fr = lawFr D r b (some (.d (.int i))) (some (.d (.int way))) x7 x8 x9 → σ = lawG p r b → 0 ≤ way → way ≤ 9 → POk p → LawWay D i r b fr σ
inductive LawMore (D : PyData) (i : Nat) (r : List Tk) (b : Int) (fr : Fr') (σ : Sto) : Prop
  | mk (way p m x8 x9) : fr = lawFr D r b (some (.d (.int i))) (some (.d (.int way))) (some (.d (More.d m))) x8 x9 → σ = lawG p r b → WayOk way m → POk p → LawMore D i r b fr σ
section
variable {fr : Fr'} {σ : Sto} {x y : X} {p : PyData} {z : Int}
theorem val_ne (hx : Val x fr σ (.d p) σ) (hy : Val y fr σ (.d p) σ) (hs : SeqAt.shaped p = true) (hd : ∀ K : Bool → Prop, (SeqAt.shaped p = true ∧ SeqAt.shaped p = true) ∧ K (PyData.eqv p p) → eqD p p K) : Val (.cmp .NotEq x y) fr σ (.d (.bool false)) σ :=
  fun K h => hx _ (hy _ (hd (fun r => K (.d (.bool (!r))) σ) ⟨⟨hs, hs⟩, by rw [SeqAt.eqv_refl _ (SeqAt.canLay_of_shaped hs)]; exact h⟩))
theorem val_nei (hx : Val x fr σ (.d (.int z)) σ) (hy : Val y fr σ (.d (.int z)) σ) : Val (.cmp .NotEq x y) fr σ (.d (.bool false)) σ :=
  fun K h => hx _ (hy _ (show K (.d (.bool (!decide (z = z)))) _ by rw [decide_eq_true rfl]; exact h))
end
theorem tl_brace : TokL (1, 123) := by refine ⟨?_, ?_, ?_⟩ <;> simp [TokOk, TokQ, TokB]
theorem tl_one : TokL (12, 49) := by refine ⟨?_, ?_, ?_⟩ <;> simp [TokOk, TokQ, TokB]
set_option maxHeartbeats 8000000 in
/-- the law -/
theorem c_law (S : Stat) {l : List Int} (hl : l.length ≤ 1000) {A : Around} {s : Shared} {c : CM} {v : Value} (hA : Rm A 9) (hfr : A.frames = some []) (Hp : Hp S.hb c [] s.heap) (hv : Rd c v (.list (l.map .int))) {QQ E : Value → Shared → Prop}
    (ret : ∀ h' tk', S.hb.StaysIn h' → QQ (.bool true) { s with heap := h', toks := tk' }) : wpAny (model PG S.w) A (call (.ref 575) [v]) QQ E s := by
  refine c_lawOf (S := S.lv 8) rfl (by decide +kernel) (fun _ _ _ _ _ _ _ _ => fa1 fun a => BindsTo.of_eq rfl) rfl hA hfr Hp hv fun d env A' h₁ tk He hA' F R E' => ?_
  refine wpAny_execs_cons (law_pool (S := S.lv 8) (iP := 10) (s := { s with heap := h₁, toks := tk }) hl He hA' (show 1 ≤ 8 by decide) rfl rfl rfl R fun I p h2 tk2 hp R2 => ?_)
  refine wpAny_execs_cons (SS.ex (S := { S.lv 8 with ad := { S.ad with lp := I } }) (s := { s with heap := h2, toks := tk2 }) (N := fun fr σ => ∃ r p', fr = [some (.d (.list (l.map .int))), some .pool, some (.d (.list (r.map tkd))), none, none, none, none, none, none, none] ∧ σ = ⟨{ pool := some p' }, none⟩ ∧ LawOk 42 r p') (Rt := fun _ _ _ => False) (SS.asg 2 rfl (SE.bin (SE.lst (.cons (SE.tup (.cons SE.int (.cons SE.int .nil))) (.cons (SE.tup (.cons SE.int (.cons SE.int .nil))) .nil))) (SE.call 11 21 rfl rfl (.cons (SE.loc 1 rfl) .nil)))) He hA' (fun _ _ _ t => t) R2 ?w1 (fun fr σ h3 tk3 R3 q => ?_) fun v a fr σ h3 tk3 R3 q => q.elim)
  case w1 =>
    refine (c_row { S with ad := { S.ad with lp := I } } {} 6 p hp).mono (Nat.le_refl _) ?_
    rintro v g' ⟨row, p', rfl, tok, len, hp', rfl⟩
    refine ⟨by rw [List.length_map]; show 2 + _ ≤ _; omega, (12, 112) :: (11, 76) :: row, p', rfl, rfl, fun t ht => ?_, by simp only [List.length_cons]; omega, hp'⟩
    rcases List.mem_cons.mp ht with rfl | ht
    · exact letter_ok 12 112 0 (.inr (.inl rfl)) (by decide) (.inl rfl)
    · rcases List.mem_cons.mp ht with rfl | ht
      · exact letter_ok 11 108 1 (.inl rfl) (by decide) (.inr rfl)
      · exact tok t ht
  obtain ⟨r, p1, rfl, rfl, ok⟩ := q
  refine wpAny_execs_cons (law_source (S := { S.lv 8 with ad := { S.ad with lp := I } }) (iG := 12) (s := { s with heap := h3, toks := tk3 }) (by have := ok.len; omega) (fun t h => (ok.tok t h).1) He hA' (show 5 ≤ 8 by decide) rfl rfl rfl rfl R3 (.tup (.cons .int (.cons .int .nil))) (.tup (.cons .int (.cons .int .nil))) (fun _ _ => ⟨rfl, rfl⟩) (fun _ _ => ⟨rfl, rfl⟩) (fun _ _ => rfl) (fun env hk h => sws2 hk h rfl rfl rfl rfl rfl) fun x dx lr di sz h4 tk4 R4 => ?_)
  refine wpAny_execs_cons (law_loop (S := { S with ad := { lp := I, x := x, dx := dx, lr := lr, di := di, sz := sz } }) (iM := 20) (iR := 13) (D := .list (l.map .int)) (s := { s with heap := h4, toks := tk4 }) He hA' F rfl rfl rfl rfl rfl R4
    (SE.bin SE.int (SE.ife (SE.cmp (SE.bi 14 0 rfl rfl (.cons (SE.loc 0 rfl) .nil)) SE.int) (SE.call 15 20 rfl rfl (.cons (SE.loc 1 rfl) (.cons SE.int .nil))) SE.int)) ?wN
    (.cons (SS.asg 6 rfl (SE.ife (SE.cmp (SE.loc 5 rfl) SE.int) SE.int (SE.call 15 20 rfl rfl (.cons (SE.loc 1 rfl) (.cons SE.int .nil)))))
 (.cons (SS.asg 7 rfl SE.str)
 (.cons (SS.ifs (SE.and (SE.cmp (SE.loc 6 rfl) SE.int) (SE.one (SE.cmp (SE.loc 5 rfl) SE.int))) (.cons (SS.asg 7 rfl (SE.ix (SE.call 16 18 rfl rfl .nil) (SE.call 15 20 rfl rfl (.cons (SE.loc 1 rfl) (.cons SE.int .nil)))))
 .nil) (.cons (SS.ifs (SE.cmp (SE.loc 6 rfl) SE.int) (.cons (SS.asg 7 rfl (SE.ix (SE.lst (.cons SE.int (.cons SE.int (.cons SE.int (.cons SE.int (.cons SE.int (.cons SE.int .nil))))))) (SE.call 15 20 rfl rfl (.cons (SE.loc 1 rfl) (.cons SE.int .nil)))))
 .nil) (.cons (SS.ifs (SE.cmp (SE.loc 6 rfl) SE.int) (.cons (SS.asg 7 rfl (SE.ix (SE.call 17 17 rfl rfl .nil) (SE.call 15 20 rfl rfl (.cons (SE.loc 1 rfl) (.cons SE.int .nil)))))
 .nil) .nil)
 .nil))
 .nil))
 (.cons (SS.ifs (SE.and (SE.or (SE.cmp (SE.loc 6 rfl) SE.int) (SE.one (SE.cmp (SE.loc 6 rfl) SE.int))) (SE.one (SE.cmp (SE.call 15 20 rfl rfl (.cons (SE.loc 1 rfl) (.cons SE.int .nil))) SE.int))) (.cons (SS.exp (SE.meth 2 rfl (SE.loc 3 rfl) (.cons (SE.ix (SE.lst (.cons (SE.tup (.cons SE.int (.cons SE.int .nil))) (.cons (SE.tup (.cons SE.int (.cons SE.int .nil))) .nil))) (SE.bin (SE.loc 6 rfl) SE.int)) .nil) (fun _ => rfl)))
 (.cons (SS.asgS (NmL.cons (i := 4) rfl (NmL.cons (i := 2) rfl .nil)) (SE.tup (.cons (SE.bin (SE.loc 4 rfl) (SE.int_ 18 rfl (SE.cmp (SE.loc 6 rfl) SE.int))) (.cons (SE.bin (SE.lst (.cons (SE.ix (SE.lst (.cons (SE.tup (.cons SE.int (.cons SE.int .nil))) (.cons (SE.tup (.cons SE.int (.cons SE.int .nil))) .nil))) (SE.bin (SE.loc 6 rfl) SE.int)) .nil)) (SE.loc 2 rfl)) .nil))) (hw := fun env hk h => sws2 hk h rfl rfl rfl rfl rfl))
 .nil)) .nil)
 .nil)))) ?wP
    (SE.call 19 27 rfl rfl (.cons (SE.loc 6 rfl) (.cons (SE.loc 2 rfl) (.cons (SE.loc 7 rfl) .nil)))) (.cons (SE.loc 6 rfl) (.cons (SE.loc 3 rfl) (.cons (SE.loc 7 rfl) .nil))) (fun _ _ => rfl) (fun env hk h => sws2 hk h rfl rfl rfl rfl rfl)
    (.cons (SS.ifs (SE.or (SE.cmp (SE.loc 8 rfl) SE.nul) (SE.one (SE.cmp (SE.loc 9 rfl) SE.nul))) (.cons (SS.ret (SE.and (SE.cmp (SE.loc 8 rfl) SE.nul) (SE.one (SE.cmp (SE.loc 9 rfl) SE.nul))))
 .nil) .nil)
 (.cons (SS.asg 4 rfl (SE.bin (SE.bin (SE.loc 4 rfl) (SE.call 21 29 rfl rfl (.cons (SE.loc 2 rfl) .nil))) (SE.call 21 29 rfl rfl (.cons (SE.ix (SE.loc 8 rfl) SE.int) .nil))))
 (.cons (SS.asg 2 rfl (SE.ix (SE.loc 8 rfl) SE.int))
 (.cons (SS.ifs (SE.or (SE.cmp (SE.loc 9 rfl) (SE.tup (.cons (SE.ix (SE.loc 8 rfl) SE.int) .nil))) (SE.or (SE.cmp (SE.meth 3 rfl (SE.loc 3 rfl) .nil (fun _ => rfl)) (SE.loc 2 rfl)) (SE.one (SE.cmp (SE.bal (SE.loc 3 rfl) (fun _ => rfl)) (SE.loc 4 rfl))))) (.cons (SS.ret SE.bool)
 .nil) .nil)
 (.cons (SS.ifs (SE.and (SE.cmp (SE.loc 6 rfl) SE.int) (SE.one (SE.not (SE.isb 22 23 rfl rfl (SE.ix (SE.loc 9 rfl) SE.int))))) (.cons (SS.ret SE.bool)
 .nil) .nil)
 .nil))))) ?wS ?wL (fun fr σ h5 tk5 R5 => ?_) fun h' tk' hs => ret h' tk' hs)
  case wN =>
    refine grd_lt (by rw [List.length_map]; omega) (brd (fun _ => (c_take { S with ad := { lp := I, x := x, dx := dx, lr := lr, di := di, sz := sz } } { src := some (r, 0) } 7 11 (by decide) p1 ok.pool).mono (Nat.le_refl _) ?_) fun _ => ⟨5, rfl, by decide, ⟨r, 0, p1, _, _, _, _, _, rfl, rfl, ok⟩⟩)
    rintro v g' ⟨y, p', hy0, hy1, hp', rfl, rfl⟩
    obtain ⟨k, rfl⟩ := Int.eq_ofNat_of_zero_le hy0
    exact ⟨5 + k, by push_cast; rfl, by omega, ⟨r, 0, p', _, _, _, _, _, rfl, rfl, ⟨ok.tok, ok.len, hp'⟩⟩⟩
  case wP =>
    rintro i _ _ ⟨r, b, p, x5, x6, x7, x8, x9, rfl, rfl, ok⟩ hi
    have okr : ∀ {p}, POk p → LawOk (42 + 2 * i + 1) r p := fun hp => ⟨ok.tok, Nat.le_succ_of_le ok.len, hp⟩
    have okc : ∀ {p} t, TokL t → POk p → LawOk (42 + 2 * i + 1) (t :: r) p := fun t ht hp => ⟨fun u hu => (List.mem_cons.mp hu).elim (fun e => e ▸ ht) (ok.tok u), Nat.succ_le_succ ok.len, hp⟩
    have hlr : r.length < 100000 := by have := ok.len; omega
    refine sl_cut (LawWay (.list (l.map .int)) i r b) (fun N' h => ?_) ?_
    · refine brd (fun _ => h _ _ ⟨0, p, _, _, _, rfl, rfl, by decide, by decide, ok.pool⟩) fun _ => (c_take { S with ad := { lp := I, x := x, dx := dx, lr := lr, di := di, sz := sz } } { src := some (r, b) } 7 10 (by decide) p ok.pool).mono (Nat.le_refl _) ?_
      rintro v g' ⟨y, p', hy0, hy1, hp', rfl, rfl⟩
      exact h _ _ ⟨y, p', _, _, _, rfl, rfl, hy0, by omega, hp'⟩
    rintro _ _ ⟨way, p1, x7, x8, x9, rfl, rfl, h0, h9, hp1⟩
    refine ifs_cut (LawMore (.list (l.map .int)) i r b) (fun N' h => ?_) ?_
    · refine ifs_v _ (val_and (fun K h => h) fun _ K h => h) (fun hw => ?_) fun _ => ifs_d (fun K h => h) (fun hw => ?_) fun n6 => ifs_d (fun K h => h) (fun hw => ?_) fun n9 => ?_
      · have hw : way = 0 := of_decide_eq_true (and2 hw).1
        refine (c_words _ _ 7).to ((c_take { S with ad := { lp := I, x := x, dx := dx, lr := lr, di := di, sz := sz } } { src := some (r, b) } 7 7 (by decide) p1 hp1).mono (Nat.le_refl _) ?_)
        rintro v g' ⟨y, p2, hy0, hy1, hp2, rfl, rfl⟩
        obtain ⟨w, hwd, hat⟩ := words_at y hy0 hy1
        obtain ⟨w1, w2, w3⟩ := words_ok w hwd
        exact ixL_of hy0 (by omega) hat (h _ _ ⟨way, p2, .word w.cps, _, _, rfl, rfl, ⟨h0, h9, ⟨by omega, by omega, by omega⟩, ⟨w1, w2⟩, nofun⟩, hp2⟩)
      · refine (c_take { S with ad := { lp := I, x := x, dx := dx, lr := lr, di := di, sz := sz } } { src := some (r, b) } 7 6 (by decide) p1 hp1).mono (Nat.le_refl _) ?_
        rintro v g' ⟨y, p2, hy0, hy1, hp2, rfl, rfl⟩
        obtain ⟨top, ht, hat⟩ := tops_at hy0 hy1
        exact ixL_of hy0 (by omega) hat (h _ _ ⟨way, p2, .num top, _, _, rfl, rfl, ⟨h0, h9, ⟨hw, ht⟩, True.intro, nofun⟩, hp2⟩)
      · refine (c_stock _ _ 7).to ((c_take { S with ad := { lp := I, x := x, dx := dx, lr := lr, di := di, sz := sz } } { src := some (r, b) } 7 22 (by decide) p1 hp1).mono (Nat.le_refl _) ?_)
        rintro v g' ⟨y, p2, hy0, hy1, hp2, rfl, rfl⟩
        obtain ⟨t, hts, hat⟩ := stock_at y hy0 hy1
        have tl := stock_ok t hts
        exact ixL_of hy0 (by omega) hat (h _ _ ⟨way, p2, .tok t, _, _, rfl, rfl, ⟨h0, h9, ⟨hw, tl.1⟩, True.intro, fun u e => by cases e; exact tl⟩, hp2⟩)
      · exact h _ _ ⟨way, p1, plusM, _, _, rfl, rfl, plus_ok way h0 h9 n6 n9, hp1⟩
    rintro _ _ ⟨way, p2, m, x8, x9, rfl, rfl, wok, hp2⟩
    refine ifs_go (val_or (σ' := lawG p2 r b) (fun K h => h) (fun _ K h => h) _ (br_of (fun h56 => (c_take { S with ad := { lp := I, x := x, dx := dx, lr := lr, di := di, sz := sz } } { src := some (r, b) } 7 4 (by decide) p2 hp2).mono (Nat.le_refl _) ?_) fun _ => ⟨r, b, p2, way, m, _, _, rfl, rfl, okr hp2, wok⟩))
    rintro v g' ⟨z, p3, hz0, hz1, hp3, rfl, rfl⟩
    refine brd (fun _ => ?_) fun _ => ⟨r, b, p3, way, m, _, _, rfl, rfl, okr hp3, wok⟩
    have h56 : way = 5 ∨ way = 6 := by simpa using h56
    rcases h56 with rfl | rfl
    · exact (c_back { S with ad := { lp := I, x := x, dx := dx, lr := lr, di := di, sz := sz } } { pool := some p3 } 5 (1, 123) tl_brace.1 r b hlr).to ⟨by show 1 + (r.map tkd).length ≤ _; rw [List.length_map]; omega, ⟨(1, 123) :: r, _, p3, 5, m, _, _, rfl, rfl, okc _ tl_brace hp3, wok⟩⟩
    · exact (c_back { S with ad := { lp := I, x := x, dx := dx, lr := lr, di := di, sz := sz } } { pool := some p3 } 5 (12, 49) tl_one.1 r b hlr).to ⟨by show 1 + (r.map tkd).length ≤ _; rw [List.length_map]; omega, ⟨(12, 49) :: r, _, p3, 6, m, _, _, rfl, rfl, okc _ tl_one hp3, wok⟩⟩
  case wS =>
    rintro i _ _ ⟨r, b, p, way, m, dd, q, rfl, rfl, ok, okq, dk⟩ hi
    have hl1 : r.length < 100000 := by have := ok.len; omega
    have hl2 : q.length < 100000 := by have := okq.len; omega
    refine ifs_f (fun K h => h) ((c_braces { S with ad := { lp := I, x := x, dx := dx, lr := lr, di := di, sz := sz } } _ 7 r hl1).to ((c_braces { S with ad := { lp := I, x := x, dx := dx, lr := lr, di := di, sz := sz } } _ 7 q hl2).to ?_))
    refine ifs_f (val_or (u := false) (v := false) (val_ne (fun K h => h) (fun K h => h) dk.sh fun K h => h) fun _ => val_or (u := false) (v := false) (val_ne (fun K h => (c_left { S with ad := { lp := I, x := x, dx := dx, lr := lr, di := di, sz := sz } } { pool := some p } 7 q _ (Nat.le_of_lt hl2)).to h) (fun K h => h) (shaped_tks q) fun K h => h) fun _ => val_nei (fun K h => h) (fun K h => h)) ?_
    refine ifs_v _ (val_and (v := false) (fun K h => h) fun h => ?_) (fun h => nomatch (Bool.and_false _).symm.trans h) fun _ => ⟨q, _, p, _, _, _, _, _, rfl, rfl, okq⟩
    obtain ⟨bb, rfl⟩ := dk.b (of_decide_eq_true h)
    exact fun K h => h
  case wL => exact ifs_t (fun K h => h) rfl
  refine wpAny_execs_cons (SS.ex (S := { S.lv 8 with ad := { lp := I, x := x, dx := dx, lr := lr, di := di, sz := sz } }) (s := { s with heap := h5, toks := tk5 }) (N := fun _ _ => False) (Rt := fun a _ _ => a = .d (.bool true)) (SS.ret SE.bool) He hA' (fun _ _ _ t => t) R5 rfl (fun fr σ h6 tk6 R6 q => q.elim) fun v a fr σ h6 tk6 R6 q => ?_)
  subst q
  obtain rfl := R6.bool
  exact ret h6 tk6 R6.keep
end Mine
/-! ## H4 -/
namespace Mine
open PySem PySem.W PySem.Calls PyProof.Rows PySem.W.BT
noncomputable def fN (i : Nat) (j : Option Nat) (n q : Str) (g : Addr) (cl : List (Str × Addr)) (d kd doc md : Value) (an : Option Addr) (cd ct : Value) (b : Addr) : FuncData := match sigAt i j with
  | some s => ⟨n, q, s.params, .stmts s.body, s.scope, g, cl, d, kd, doc, md, an, cd, ct, b⟩
  | none => ⟨n, q, ⟨[], [], none, [], [], none, []⟩, .stmts [], PG.main.scope, g, cl, d, kd, doc, md, an, cd, ct, b⟩
noncomputable def o43 : Obj := ⟨(.type "tuple"), none, (.seq #[] 0), #[]⟩
noncomputable def o45 : Obj := ⟨(.type "code"), none, (.fields #[(.str "<module>" 182), (.str "<module>" 183), (.str "/claim/cut.py" 184), (.int 1 0), (.int 0 0), (.int 0 0), (.int 0 0), (.int 0 0), (.ref 11), (.bool false), (.int 181 0), (.ref 12), .none, .none, .none, .none, (.int 185 0), (.int 1 0), (.str "/claim/cut.py" 186)]), #[]⟩
noncomputable def o46 : Obj := ⟨(.type "frame"), none, .plain, #[(some (.ref 13)), (some (.ref 3)), (some (.ref 3)), none, (some (.str "__main__" 164)), none, (some (.ref 0))]⟩
noncomputable def o51 : Obj := ⟨(.type "tuple"), none, (.seq #[] 0), #[]⟩
noncomputable def o52 : Obj := ⟨.none, none, (.fields #[]), #[]⟩
noncomputable def o53 : Obj := ⟨(.type "tuple"), none, (.seq #[(.str "k" 190)] 0), #[]⟩
noncomputable def o54 : Obj := ⟨(.type "tuple"), none, (.seq #[] 0), #[]⟩
noncomputable def o55 : Obj := ⟨.none, none, (.func (fN 0 none "_wall" "_wall" 0 [] .none .none .none .none none .none .none 0)), #[]⟩
noncomputable def o56 : Obj := ⟨(.type "code"), none, (.fields #[(.str "_wall" 187), (.str "_wall" 188), (.str "/claim/cut.py" 189), (.int 1 0), (.int 1 0), (.int 0 0), (.int 0 0), (.int 3 0), (.ref 15), (.bool true), (.int 181 0), (.ref 16), .none, (.ref 17), (.ref 18), (.ref 19), (.int 191 0), (.int 1 0), (.str "/claim/cut.py" 192)]), #[]⟩
noncomputable def o57 : Obj := ⟨(.type "function"), none, (.func (fN 0 none "_wall" "_wall" 3 [] .none .none .none (.str "__main__" 164) none (.ref 20) .none 0)), #[]⟩
noncomputable def o58 : Obj := ⟨(.type "tuple"), none, (.seq #[(.int 0 194), (.int 1 195), (.int 2 196), (.int 3 197), (.int 4 198), (.int 5 199), (.int 6 200)] 0), #[]⟩
noncomputable def o59 : Obj := ⟨(.type "tuple_iterator"), none, (.fields #[.none, (.int 7 0)]), #[]⟩
noncomputable def o60 : Obj := ⟨(.type "tuple"), none, (.seq #[] 0), #[]⟩
noncomputable def o61 : Obj := ⟨(.type "StopIteration"), none, (.fields #[(.ref 24), .none, .none, .none, (.bool false), .none]), #[]⟩
noncomputable def o62 : Obj := ⟨(.type "tuple"), none, (.seq #[(.int 7 208), (.int 8 209), (.int 9 210), (.int 10 211), (.int 11 212), (.int 12 213)] 0), #[]⟩
noncomputable def o63 : Obj := ⟨(.type "tuple_iterator"), none, (.fields #[.none, (.int 6 0)]), #[]⟩
noncomputable def o64 : Obj := ⟨(.type "tuple"), none, (.seq #[] 0), #[]⟩
noncomputable def o65 : Obj := ⟨(.type "StopIteration"), none, (.fields #[(.ref 28), .none, .none, .none, (.bool false), .none]), #[]⟩
noncomputable def o69 : Obj := ⟨(.type "tuple"), none, (.seq #[(.int 77 220), (.int 78 221), (.int 79 222), (.int 80 223), (.int 81 224), (.int 82 225), (.int 83 226), (.int 84 227)] 0), #[]⟩
noncomputable def o70 : Obj := ⟨(.type "tuple_iterator"), none, (.fields #[.none, (.int 8 0)]), #[]⟩
noncomputable def o71 : Obj := ⟨(.type "tuple"), none, (.seq #[] 0), #[]⟩
noncomputable def o72 : Obj := ⟨(.type "StopIteration"), none, (.fields #[(.ref 32), .none, .none, .none, (.bool false), .none]), #[]⟩
noncomputable def o73 : Obj := ⟨(.type "tuple"), none, (.seq #[(.int 92 236), (.int 93 237), (.int 94 238), (.int 95 239), (.int 96 240), (.int 97 241), (.int 98 242), (.int 99 243)] 0), #[]⟩
noncomputable def o74 : Obj := ⟨(.type "tuple_iterator"), none, (.fields #[.none, (.int 8 0)]), #[]⟩
noncomputable def o75 : Obj := ⟨(.type "tuple"), none, (.seq #[] 0), #[]⟩
noncomputable def o76 : Obj := ⟨(.type "StopIteration"), none, (.fields #[(.ref 36), .none, .none, .none, (.bool false), .none]), #[]⟩
noncomputable def o79 (P : Params) : Obj := ⟨(.type "dict"), none, (.dict #[⟨(PyData.keyHash P "__name__"), (.str "__name__" 165), (.str "gluepage.errors" 262)⟩, ⟨(PyData.keyHash P "__doc__"), (.str "__doc__" 166), .none⟩, ⟨(PyData.keyHash P "__package__"), (.str "__package__" 167), .none⟩, ⟨(PyData.keyHash P "__loader__"), (.str "__loader__" 168), (.builtin "__main__.__loader__#opaque")⟩, ⟨(PyData.keyHash P "__spec__"), (.str "__spec__" 169), .none⟩, ⟨(PyData.keyHash P "__annotations__"), (.str "__annotations__" 170), (.ref 6)⟩, ⟨(PyData.keyHash P "__builtins__"), (.str "__builtins__" 171), (.ref 4)⟩, ⟨(PyData.keyHash P "__file__"), (.str "__file__" 173), (.str "/claim/cut.py" 172)⟩, ⟨(PyData.keyHash P "__cached__"), (.str "__cached__" 174), .none⟩, ⟨(PyData.keyHash P "_wall"), (.str "_wall" 193), (.ref 21)⟩, ⟨(PyData.keyHash P "RELAX"), (.str "RELAX" 201), (.int 0 194)⟩, ⟨(PyData.keyHash P "LEFT_BRACE"), (.str "LEFT_BRACE" 202), (.int 1 195)⟩, ⟨(PyData.keyHash P "RIGHT_BRACE"), (.str "RIGHT_BRACE" 203), (.int 2 196)⟩, ⟨(PyData.keyHash P "MATH_SHIFT"), (.str "MATH_SHIFT" 204), (.int 3 197)⟩, ⟨(PyData.keyHash P "TAB_MARK"), (.str "TAB_MARK" 205), (.int 4 198)⟩, ⟨(PyData.keyHash P "ROW_END"), (.str "ROW_END" 206), (.int 5 199)⟩, ⟨(PyData.keyHash P "PARAMETER_MARK"), (.str "PARAMETER_MARK" 207), (.int 6 200)⟩, ⟨(PyData.keyHash P "SUP_MARK"), (.str "SUP_MARK" 214), (.int 7 208)⟩, ⟨(PyData.keyHash P "SUB_MARK"), (.str "SUB_MARK" 215), (.int 8 209)⟩, ⟨(PyData.keyHash P "END_MARK"), (.str "END_MARK" 216), (.int 9 210)⟩, ⟨(PyData.keyHash P "SPACER"), (.str "SPACER" 217), (.int 10 211)⟩, ⟨(PyData.keyHash P "LETTER_commands"), (.str "LETTER_commands" 218), (.int 11 212)⟩, ⟨(PyData.keyHash P "OTHER_CHAR"), (.str "OTHER_CHAR" 219), (.int 12 213)⟩, ⟨(PyData.keyHash P "NAMED_REGISTER"), (.str "NAMED_REGISTER" 228), (.int 77 220)⟩, ⟨(PyData.keyHash P "ARITHMETIC"), (.str "ARITHMETIC" 229), (.int 78 221)⟩, ⟨(PyData.keyHash P "PREFIX"), (.str "PREFIX" 230), (.int 79 222)⟩, ⟨(PyData.keyHash P "LET"), (.str "LET" 231), (.int 80 223)⟩, ⟨(PyData.keyHash P "SHORTHAND"), (.str "SHORTHAND" 232), (.int 81 224)⟩, ⟨(PyData.keyHash P "DEFINE"), (.str "DEFINE" 233), (.int 82 225)⟩, ⟨(PyData.keyHash P "SET_BOX"), (.str "SET_BOX" 234), (.int 83 226)⟩, ⟨(PyData.keyHash P "HYPHEN_DATA"), (.str "HYPHEN_DATA" 235), (.int 84 227)⟩, ⟨(PyData.keyHash P "SPACE_FACTOR"), (.str "SPACE_FACTOR" 244), (.int 92 236)⟩, ⟨(PyData.keyHash P "PREV_DEPTH"), (.str "PREV_DEPTH" 245), (.int 93 237)⟩, ⟨(PyData.keyHash P "PREV_GRAF"), (.str "PREV_GRAF" 246), (.int 94 238)⟩, ⟨(PyData.keyHash P "PAGE_DIMEN"), (.str "PAGE_DIMEN" 247), (.int 95 239)⟩, ⟨(PyData.keyHash P "PAGE_INT"), (.str "PAGE_INT" 248), (.int 96 240)⟩, ⟨(PyData.keyHash P "THE_FONT"), (.str "THE_FONT" 249), (.int 97 241)⟩, ⟨(PyData.keyHash P "READ_TO"), (.str "READ_TO" 250), (.int 98 242)⟩, ⟨(PyData.keyHash P "END_OF_INPUT"), (.str "END_OF_INPUT" 251), (.int 99 243)⟩, ⟨(PyData.keyHash P "RELAX_VALUE"), (.str "RELAX_VALUE" 257), (.int 256 252)⟩, ⟨(PyData.keyHash P "GUARDED"), (.str "GUARDED" 258), (.int 257 253)⟩, ⟨(PyData.keyHash P "SPAN_CODE"), (.str "SPAN_CODE" 259), (.int 256 254)⟩, ⟨(PyData.keyHash P "CR_CODE"), (.str "CR_CODE" 260), (.int 257 255)⟩, ⟨(PyData.keyHash P "CRCR_CODE"), (.str "CRCR_CODE" 261), (.int 258 256)⟩, ⟨(PyData.keyHash P "PageError"), (.str "PageError" 291), (.ref 59)⟩] 45), #[]⟩
noncomputable def o80 : Obj := ⟨.none, none, (.fields #[(.int 1 0), (.int 0 0), (.ref 20), (.int 10 0), (.int 0 0), (.ref 47)]), #[]⟩
noncomputable def o81 : Obj := ⟨(.type "tuple"), none, (.seq #[(.int 256 252), (.int 257 253), (.int 256 254), (.int 257 255), (.int 258 256)] 0), #[]⟩
noncomputable def o82 : Obj := ⟨(.type "tuple_iterator"), none, (.fields #[.none, (.int 5 0)]), #[]⟩
noncomputable def o83 : Obj := ⟨(.type "tuple"), none, (.seq #[] 0), #[]⟩
noncomputable def o84 : Obj := ⟨(.type "StopIteration"), none, (.fields #[(.ref 40), .none, .none, .none, (.bool false), .none]), #[]⟩
noncomputable def o85 : Obj := ⟨(.type "tuple"), none, (.seq #[(.type "ValueError")] 0), #[]⟩
noncomputable def o86 : Obj := ⟨(.type "builtin_function_or_method"), none, (.fields #[(.builtin "type.__prepare__"), (.type "type")]), #[]⟩
noncomputable def o87 (P : Params) : Obj := ⟨(.type "dict"), none, (.dict #[⟨(PyData.keyHash P "__module__"), (.str "__module__" 271), (.str "gluepage.errors" 262)⟩, ⟨(PyData.keyHash P "__qualname__"), (.str "__qualname__" 273), (.str "PageError" 272)⟩, ⟨(PyData.keyHash P "__firstlineno__"), (.str "__firstlineno__" 275), (.int 10 274)⟩, ⟨(PyData.keyHash P "__init__"), (.str "__init__" 284), (.ref 56)⟩, ⟨(PyData.keyHash P "__static_attributes__"), (.str "__static_attributes__" 286), (.ref 57)⟩] 5), #[]⟩
noncomputable def o88 : Obj := ⟨(.type "tuple"), none, (.seq #[] 0), #[]⟩
noncomputable def o89 : Obj := ⟨.none, none, (.fields #[(.int 12 0), (.int 4 0), (.ref 55)]), #[]⟩
noncomputable def o90 : Obj := ⟨(.type "code"), none, (.fields #[(.str "PageError" 266), (.str "PageError" 267), (.str "/claim/cut.py" 268), (.int 10 0), (.int 0 0), (.int 0 0), (.int 0 0), (.int 0 0), (.ref 45), (.bool false), (.int 181 0), (.ref 46), .none, .none, .none, .none, (.int 269 0), (.int 10 0), (.str "/claim/cut.py" 270)]), #[]⟩
noncomputable def o91 : Obj := ⟨(.type "frame"), none, .plain, #[(some (.ref 47)), (some (.ref 3)), (some (.ref 44)), none, (some (.str "gluepage.errors" 262)), none, (some (.ref 0))]⟩
noncomputable def o92 : Obj := ⟨(.type "tuple"), none, (.seq #[(.str "" 276)] 0), #[]⟩
noncomputable def o93 : Obj := ⟨(.type "tuple"), none, (.seq #[] 0), #[]⟩
noncomputable def o94 : Obj := ⟨.none, none, (.fields #[]), #[]⟩
noncomputable def o95 : Obj := ⟨(.type "tuple"), none, (.seq #[(.str "self" 280), (.str "reason" 281)] 0), #[]⟩
noncomputable def o96 : Obj := ⟨(.type "tuple"), none, (.seq #[] 0), #[]⟩
noncomputable def o97 : Obj := ⟨.none, none, (.func (fN 7 (some 0) "__init__" "PageError.__init__" 0 [] .none .none .none .none none .none .none 0)), #[]⟩
noncomputable def o98 : Obj := ⟨(.type "code"), none, (.fields #[(.str "__init__" 277), (.str "PageError.__init__" 278), (.str "/claim/cut.py" 279), (.int 12 0), (.int 2 0), (.int 0 0), (.int 0 0), (.int 3 0), (.ref 50), (.bool true), (.int 181 0), (.ref 51), .none, (.ref 52), (.ref 53), (.ref 54), (.int 282 0), (.int 12 0), (.str "/claim/cut.py" 283)]), #[]⟩
noncomputable def o99 : Obj := ⟨(.type "function"), none, (.func (fN 7 (some 0) "__init__" "PageError.__init__" 3 [] (.ref 49) .none .none (.str "gluepage.errors" 262) none (.ref 55) .none 0)), #[]⟩
noncomputable def o100 : Obj := ⟨(.type "tuple"), none, (.seq #[(.str "reason" 285)] 0), #[]⟩
noncomputable def o101 (P : Params) : Obj := ⟨(.type "dict"), none, (.dict #[⟨(PyData.keyHash P "__module__"), (.str "__module__" 271), (.str "gluepage.errors" 262)⟩, ⟨(PyData.keyHash P "__firstlineno__"), (.str "__firstlineno__" 275), (.int 10 274)⟩, ⟨(PyData.keyHash P "__init__"), (.str "__init__" 284), (.ref 56)⟩, ⟨(PyData.keyHash P "__static_attributes__"), (.str "__static_attributes__" 286), (.ref 57)⟩, ⟨(PyData.keyHash P "__weakref__"), (.str "__weakref__" 288), (.ref 60)⟩, ⟨(PyData.keyHash P "__doc__"), (.str "__doc__" 289), .none⟩] 3), #[]⟩
noncomputable def o102 : Obj := ⟨(.type "type"), none, (.cls ⟨"PageError", [(.type "ValueError")], [(.ref 59), (.type "ValueError"), (.type "Exception"), (.type "BaseException"), (.type "object")], 58, "PageError", true, [], [], false, none, false⟩), #[(some (.ref 42)), none, (some (.str "PageError" 264)), (some (.str "PageError" 272)), (some (.builtin "ValueError.__new__")), (some (.bool true))]⟩
noncomputable def o103 : Obj := ⟨(.type "getset_descriptor"), none, (.fields #[(.str "__weakref__" 287), (.ref 59), (.builtin "ExceptionGroup.__weakref__"), .none]), #[]⟩
noncomputable def o104 : Obj := ⟨(.type "super"), none, (.fields #[(.ref 59), (.ref 59), (.ref 59)]), #[]⟩
noncomputable def o105 : Obj := ⟨(.type "builtin_function_or_method"), none, (.fields #[(.builtin "object.__init_subclass__"), (.ref 59)]), #[]⟩
noncomputable def o111 : Obj := ⟨(.type "tuple"), none, (.seq #[(.ref 59)] 0), #[]⟩
noncomputable def o112 : Obj := ⟨(.type "builtin_function_or_method"), none, (.fields #[(.builtin "type.__prepare__"), (.type "type")]), #[]⟩
noncomputable def o113 (P : Params) : Obj := ⟨(.type "dict"), none, (.dict #[⟨(PyData.keyHash P "__module__"), (.str "__module__" 299), (.str "gluepage.errors" 262)⟩, ⟨(PyData.keyHash P "__qualname__"), (.str "__qualname__" 301), (.str "BadArgument" 300)⟩, ⟨(PyData.keyHash P "__firstlineno__"), (.str "__firstlineno__" 303), (.int 14 302)⟩, ⟨(PyData.keyHash P "__static_attributes__"), (.str "__static_attributes__" 304), (.ref 70)⟩] 4), #[]⟩
noncomputable def o114 : Obj := ⟨(.type "tuple"), none, (.seq #[] 0), #[]⟩
noncomputable def o115 : Obj := ⟨.none, none, (.fields #[]), #[]⟩
noncomputable def o116 : Obj := ⟨(.type "code"), none, (.fields #[(.str "BadArgument" 294), (.str "BadArgument" 295), (.str "/claim/cut.py" 296), (.int 14 0), (.int 0 0), (.int 0 0), (.int 0 0), (.int 0 0), (.ref 66), (.bool false), (.int 181 0), (.ref 67), .none, .none, .none, .none, (.int 297 0), (.int 14 0), (.str "/claim/cut.py" 298)]), #[]⟩
noncomputable def o117 : Obj := ⟨(.type "frame"), none, .plain, #[(some (.ref 68)), (some (.ref 3)), (some (.ref 65)), none, (some (.str "gluepage.errors" 262)), none, (some (.ref 0))]⟩
noncomputable def o118 : Obj := ⟨(.type "tuple"), none, (.seq #[] 0), #[]⟩
noncomputable def o119 (P : Params) : Obj := ⟨(.type "dict"), none, (.dict #[⟨(PyData.keyHash P "__module__"), (.str "__module__" 299), (.str "gluepage.errors" 262)⟩, ⟨(PyData.keyHash P "__firstlineno__"), (.str "__firstlineno__" 303), (.int 14 302)⟩, ⟨(PyData.keyHash P "__static_attributes__"), (.str "__static_attributes__" 304), (.ref 70)⟩, ⟨(PyData.keyHash P "__doc__"), (.str "__doc__" 305), .none⟩] 2), #[]⟩
noncomputable def o120 : Obj := ⟨(.type "type"), none, (.cls ⟨"BadArgument", [(.ref 59)], [(.ref 72), (.ref 59), (.type "ValueError"), (.type "Exception"), (.type "BaseException"), (.type "object")], 71, "BadArgument", true, [], [], false, none, false⟩), #[(some (.ref 63)), none, (some (.str "BadArgument" 292)), (some (.str "BadArgument" 300)), (some (.builtin "ValueError.__new__")), (some (.bool true))]⟩
noncomputable def o121 : Obj := ⟨(.type "super"), none, (.fields #[(.ref 72), (.ref 72), (.ref 72)]), #[]⟩
noncomputable def o122 : Obj := ⟨(.type "builtin_function_or_method"), none, (.fields #[(.builtin "object.__init_subclass__"), (.ref 72)]), #[]⟩
noncomputable def o126 : Obj := ⟨(.type "tuple"), none, (.seq #[(.ref 59)] 0), #[]⟩
noncomputable def o127 : Obj := ⟨(.type "builtin_function_or_method"), none, (.fields #[(.builtin "type.__prepare__"), (.type "type")]), #[]⟩
noncomputable def o128 (P : Params) : Obj := ⟨(.type "dict"), none, (.dict #[⟨(PyData.keyHash P "__module__"), (.str "__module__" 315), (.str "gluepage.errors" 262)⟩, ⟨(PyData.keyHash P "__qualname__"), (.str "__qualname__" 317), (.str "BadNumber" 316)⟩, ⟨(PyData.keyHash P "__firstlineno__"), (.str "__firstlineno__" 319), (.int 16 318)⟩, ⟨(PyData.keyHash P "__static_attributes__"), (.str "__static_attributes__" 320), (.ref 82)⟩] 4), #[]⟩
noncomputable def o129 : Obj := ⟨(.type "tuple"), none, (.seq #[] 0), #[]⟩
noncomputable def o130 : Obj := ⟨.none, none, (.fields #[]), #[]⟩
noncomputable def o131 : Obj := ⟨(.type "code"), none, (.fields #[(.str "BadNumber" 310), (.str "BadNumber" 311), (.str "/claim/cut.py" 312), (.int 16 0), (.int 0 0), (.int 0 0), (.int 0 0), (.int 0 0), (.ref 78), (.bool false), (.int 181 0), (.ref 79), .none, .none, .none, .none, (.int 313 0), (.int 16 0), (.str "/claim/cut.py" 314)]), #[]⟩
noncomputable def o132 : Obj := ⟨(.type "frame"), none, .plain, #[(some (.ref 80)), (some (.ref 3)), (some (.ref 77)), none, (some (.str "gluepage.errors" 262)), none, (some (.ref 0))]⟩
noncomputable def o133 : Obj := ⟨(.type "tuple"), none, (.seq #[] 0), #[]⟩
noncomputable def o134 (P : Params) : Obj := ⟨(.type "dict"), none, (.dict #[⟨(PyData.keyHash P "__module__"), (.str "__module__" 315), (.str "gluepage.errors" 262)⟩, ⟨(PyData.keyHash P "__firstlineno__"), (.str "__firstlineno__" 319), (.int 16 318)⟩, ⟨(PyData.keyHash P "__static_attributes__"), (.str "__static_attributes__" 320), (.ref 82)⟩, ⟨(PyData.keyHash P "__doc__"), (.str "__doc__" 321), .none⟩] 2), #[]⟩
noncomputable def o135 : Obj := ⟨(.type "type"), none, (.cls ⟨"BadNumber", [(.ref 59)], [(.ref 84), (.ref 59), (.type "ValueError"), (.type "Exception"), (.type "BaseException"), (.type "object")], 83, "BadNumber", true, [], [], false, none, false⟩), #[(some (.ref 75)), none, (some (.str "BadNumber" 308)), (some (.str "BadNumber" 316)), (some (.builtin "ValueError.__new__")), (some (.bool true))]⟩
noncomputable def o136 : Obj := ⟨(.type "super"), none, (.fields #[(.ref 84), (.ref 84), (.ref 84)]), #[]⟩
noncomputable def o137 : Obj := ⟨(.type "builtin_function_or_method"), none, (.fields #[(.builtin "object.__init_subclass__"), (.ref 84)]), #[]⟩
noncomputable def o141 : Obj := ⟨(.type "tuple"), none, (.seq #[(.ref 59)] 0), #[]⟩
noncomputable def o142 : Obj := ⟨(.type "builtin_function_or_method"), none, (.fields #[(.builtin "type.__prepare__"), (.type "type")]), #[]⟩
noncomputable def o143 (P : Params) : Obj := ⟨(.type "dict"), none, (.dict #[⟨(PyData.keyHash P "__module__"), (.str "__module__" 331), (.str "gluepage.errors" 262)⟩, ⟨(PyData.keyHash P "__qualname__"), (.str "__qualname__" 333), (.str "BadUnit" 332)⟩, ⟨(PyData.keyHash P "__firstlineno__"), (.str "__firstlineno__" 335), (.int 18 334)⟩, ⟨(PyData.keyHash P "__static_attributes__"), (.str "__static_attributes__" 336), (.ref 94)⟩] 4), #[]⟩
noncomputable def o144 : Obj := ⟨(.type "tuple"), none, (.seq #[] 0), #[]⟩
noncomputable def o145 : Obj := ⟨.none, none, (.fields #[]), #[]⟩
noncomputable def o146 : Obj := ⟨(.type "code"), none, (.fields #[(.str "BadUnit" 326), (.str "BadUnit" 327), (.str "/claim/cut.py" 328), (.int 18 0), (.int 0 0), (.int 0 0), (.int 0 0), (.int 0 0), (.ref 90), (.bool false), (.int 181 0), (.ref 91), .none, .none, .none, .none, (.int 329 0), (.int 18 0), (.str "/claim/cut.py" 330)]), #[]⟩
noncomputable def o147 : Obj := ⟨(.type "frame"), none, .plain, #[(some (.ref 92)), (some (.ref 3)), (some (.ref 89)), none, (some (.str "gluepage.errors" 262)), none, (some (.ref 0))]⟩
noncomputable def o148 : Obj := ⟨(.type "tuple"), none, (.seq #[] 0), #[]⟩
noncomputable def o149 (P : Params) : Obj := ⟨(.type "dict"), none, (.dict #[⟨(PyData.keyHash P "__module__"), (.str "__module__" 331), (.str "gluepage.errors" 262)⟩, ⟨(PyData.keyHash P "__firstlineno__"), (.str "__firstlineno__" 335), (.int 18 334)⟩, ⟨(PyData.keyHash P "__static_attributes__"), (.str "__static_attributes__" 336), (.ref 94)⟩, ⟨(PyData.keyHash P "__doc__"), (.str "__doc__" 337), .none⟩] 2), #[]⟩
noncomputable def o150 : Obj := ⟨(.type "type"), none, (.cls ⟨"BadUnit", [(.ref 59)], [(.ref 96), (.ref 59), (.type "ValueError"), (.type "Exception"), (.type "BaseException"), (.type "object")], 95, "BadUnit", true, [], [], false, none, false⟩), #[(some (.ref 87)), none, (some (.str "BadUnit" 324)), (some (.str "BadUnit" 332)), (some (.builtin "ValueError.__new__")), (some (.bool true))]⟩
noncomputable def o151 : Obj := ⟨(.type "super"), none, (.fields #[(.ref 96), (.ref 96), (.ref 96)]), #[]⟩
noncomputable def o152 : Obj := ⟨(.type "builtin_function_or_method"), none, (.fields #[(.builtin "object.__init_subclass__"), (.ref 96)]), #[]⟩
noncomputable def o153 (P : Params) : Obj := ⟨(.type "dict"), none, (.dict #[⟨(PyData.keyHash P "__name__"), (.str "__name__" 165), (.str "gluepage.errors" 262)⟩, ⟨(PyData.keyHash P "__doc__"), (.str "__doc__" 166), .none⟩, ⟨(PyData.keyHash P "__package__"), (.str "__package__" 167), .none⟩, ⟨(PyData.keyHash P "__loader__"), (.str "__loader__" 168), (.builtin "__main__.__loader__#opaque")⟩, ⟨(PyData.keyHash P "__spec__"), (.str "__spec__" 169), .none⟩, ⟨(PyData.keyHash P "__annotations__"), (.str "__annotations__" 170), (.ref 6)⟩, ⟨(PyData.keyHash P "__builtins__"), (.str "__builtins__" 171), (.ref 4)⟩, ⟨(PyData.keyHash P "__file__"), (.str "__file__" 173), (.str "/claim/cut.py" 172)⟩, ⟨(PyData.keyHash P "__cached__"), (.str "__cached__" 174), .none⟩, ⟨(PyData.keyHash P "_wall"), (.str "_wall" 193), (.ref 21)⟩, ⟨(PyData.keyHash P "RELAX"), (.str "RELAX" 201), (.int 0 194)⟩, ⟨(PyData.keyHash P "LEFT_BRACE"), (.str "LEFT_BRACE" 202), (.int 1 195)⟩, ⟨(PyData.keyHash P "RIGHT_BRACE"), (.str "RIGHT_BRACE" 203), (.int 2 196)⟩, ⟨(PyData.keyHash P "MATH_SHIFT"), (.str "MATH_SHIFT" 204), (.int 3 197)⟩, ⟨(PyData.keyHash P "TAB_MARK"), (.str "TAB_MARK" 205), (.int 4 198)⟩, ⟨(PyData.keyHash P "ROW_END"), (.str "ROW_END" 206), (.int 5 199)⟩, ⟨(PyData.keyHash P "PARAMETER_MARK"), (.str "PARAMETER_MARK" 207), (.int 6 200)⟩, ⟨(PyData.keyHash P "SUP_MARK"), (.str "SUP_MARK" 214), (.int 7 208)⟩, ⟨(PyData.keyHash P "SUB_MARK"), (.str "SUB_MARK" 215), (.int 8 209)⟩, ⟨(PyData.keyHash P "END_MARK"), (.str "END_MARK" 216), (.int 9 210)⟩, ⟨(PyData.keyHash P "SPACER"), (.str "SPACER" 217), (.int 10 211)⟩, ⟨(PyData.keyHash P "LETTER_commands"), (.str "LETTER_commands" 218), (.int 11 212)⟩, ⟨(PyData.keyHash P "OTHER_CHAR"), (.str "OTHER_CHAR" 219), (.int 12 213)⟩, ⟨(PyData.keyHash P "NAMED_REGISTER"), (.str "NAMED_REGISTER" 228), (.int 77 220)⟩, ⟨(PyData.keyHash P "ARITHMETIC"), (.str "ARITHMETIC" 229), (.int 78 221)⟩, ⟨(PyData.keyHash P "PREFIX"), (.str "PREFIX" 230), (.int 79 222)⟩, ⟨(PyData.keyHash P "LET"), (.str "LET" 231), (.int 80 223)⟩, ⟨(PyData.keyHash P "SHORTHAND"), (.str "SHORTHAND" 232), (.int 81 224)⟩, ⟨(PyData.keyHash P "DEFINE"), (.str "DEFINE" 233), (.int 82 225)⟩, ⟨(PyData.keyHash P "SET_BOX"), (.str "SET_BOX" 234), (.int 83 226)⟩, ⟨(PyData.keyHash P "HYPHEN_DATA"), (.str "HYPHEN_DATA" 235), (.int 84 227)⟩, ⟨(PyData.keyHash P "SPACE_FACTOR"), (.str "SPACE_FACTOR" 244), (.int 92 236)⟩, ⟨(PyData.keyHash P "PREV_DEPTH"), (.str "PREV_DEPTH" 245), (.int 93 237)⟩, ⟨(PyData.keyHash P "PREV_GRAF"), (.str "PREV_GRAF" 246), (.int 94 238)⟩, ⟨(PyData.keyHash P "PAGE_DIMEN"), (.str "PAGE_DIMEN" 247), (.int 95 239)⟩, ⟨(PyData.keyHash P "PAGE_INT"), (.str "PAGE_INT" 248), (.int 96 240)⟩, ⟨(PyData.keyHash P "THE_FONT"), (.str "THE_FONT" 249), (.int 97 241)⟩, ⟨(PyData.keyHash P "READ_TO"), (.str "READ_TO" 250), (.int 98 242)⟩, ⟨(PyData.keyHash P "END_OF_INPUT"), (.str "END_OF_INPUT" 251), (.int 99 243)⟩, ⟨(PyData.keyHash P "RELAX_VALUE"), (.str "RELAX_VALUE" 257), (.int 256 252)⟩, ⟨(PyData.keyHash P "GUARDED"), (.str "GUARDED" 258), (.int 257 253)⟩, ⟨(PyData.keyHash P "SPAN_CODE"), (.str "SPAN_CODE" 259), (.int 256 254)⟩, ⟨(PyData.keyHash P "CR_CODE"), (.str "CR_CODE" 260), (.int 257 255)⟩, ⟨(PyData.keyHash P "CRCR_CODE"), (.str "CRCR_CODE" 261), (.int 258 256)⟩, ⟨(PyData.keyHash P "PageError"), (.str "PageError" 291), (.ref 59)⟩, ⟨(PyData.keyHash P "BadArgument"), (.str "BadArgument" 307), (.ref 72)⟩, ⟨(PyData.keyHash P "BadNumber"), (.str "BadNumber" 323), (.ref 84)⟩, ⟨(PyData.keyHash P "BadUnit"), (.str "BadUnit" 339), (.ref 96)⟩, ⟨(PyData.keyHash P "Overflow"), (.str "Overflow" 355), (.ref 108)⟩] 49), #[]⟩
noncomputable def o154 : Obj := ⟨.none, none, (.fields #[(.int 1 0), (.int 0 0), (.ref 20), (.int 10 0), (.int 0 0), (.ref 47), (.int 14 0), (.int 0 0), (.ref 68), (.int 16 0), (.int 0 0), (.ref 80), (.int 18 0), (.int 0 0), (.ref 92), (.int 20 0), (.int 0 0), (.ref 104)]), #[]⟩
noncomputable def o155 : Obj := ⟨(.type "type"), none, (.cls ⟨"PageError", [(.type "ValueError")], [(.ref 59), (.type "ValueError"), (.type "Exception"), (.type "BaseException"), (.type "object")], 58, "PageError", true, [], [(.ref 72), (.ref 84), (.ref 96), (.ref 108)], false, none, false⟩), #[(some (.ref 42)), none, (some (.str "PageError" 264)), (some (.str "PageError" 272)), (some (.builtin "ValueError.__new__")), (some (.bool true))]⟩
noncomputable def o156 : Obj := ⟨(.type "tuple"), none, (.seq #[(.ref 59)] 0), #[]⟩
noncomputable def o157 : Obj := ⟨(.type "builtin_function_or_method"), none, (.fields #[(.builtin "type.__prepare__"), (.type "type")]), #[]⟩
noncomputable def o158 (P : Params) : Obj := ⟨(.type "dict"), none, (.dict #[⟨(PyData.keyHash P "__module__"), (.str "__module__" 347), (.str "gluepage.errors" 262)⟩, ⟨(PyData.keyHash P "__qualname__"), (.str "__qualname__" 349), (.str "Overflow" 348)⟩, ⟨(PyData.keyHash P "__firstlineno__"), (.str "__firstlineno__" 351), (.int 20 350)⟩, ⟨(PyData.keyHash P "__static_attributes__"), (.str "__static_attributes__" 352), (.ref 106)⟩] 4), #[]⟩
noncomputable def o159 : Obj := ⟨(.type "tuple"), none, (.seq #[] 0), #[]⟩
noncomputable def o160 : Obj := ⟨.none, none, (.fields #[]), #[]⟩
noncomputable def o161 : Obj := ⟨(.type "code"), none, (.fields #[(.str "Overflow" 342), (.str "Overflow" 343), (.str "/claim/cut.py" 344), (.int 20 0), (.int 0 0), (.int 0 0), (.int 0 0), (.int 0 0), (.ref 102), (.bool false), (.int 181 0), (.ref 103), .none, .none, .none, .none, (.int 345 0), (.int 20 0), (.str "/claim/cut.py" 346)]), #[]⟩
noncomputable def o162 : Obj := ⟨(.type "frame"), none, .plain, #[(some (.ref 104)), (some (.ref 3)), (some (.ref 101)), none, (some (.str "gluepage.errors" 262)), none, (some (.ref 0))]⟩
noncomputable def o163 : Obj := ⟨(.type "tuple"), none, (.seq #[] 0), #[]⟩
noncomputable def o164 (P : Params) : Obj := ⟨(.type "dict"), none, (.dict #[⟨(PyData.keyHash P "__module__"), (.str "__module__" 347), (.str "gluepage.errors" 262)⟩, ⟨(PyData.keyHash P "__firstlineno__"), (.str "__firstlineno__" 351), (.int 20 350)⟩, ⟨(PyData.keyHash P "__static_attributes__"), (.str "__static_attributes__" 352), (.ref 106)⟩, ⟨(PyData.keyHash P "__doc__"), (.str "__doc__" 353), .none⟩] 2), #[]⟩
noncomputable def o165 : Obj := ⟨(.type "type"), none, (.cls ⟨"Overflow", [(.ref 59)], [(.ref 108), (.ref 59), (.type "ValueError"), (.type "Exception"), (.type "BaseException"), (.type "object")], 107, "Overflow", true, [], [], false, none, false⟩), #[(some (.ref 99)), none, (some (.str "Overflow" 340)), (some (.str "Overflow" 348)), (some (.builtin "ValueError.__new__")), (some (.bool true))]⟩
noncomputable def o166 : Obj := ⟨(.type "super"), none, (.fields #[(.ref 108), (.ref 108), (.ref 108)]), #[]⟩
noncomputable def o167 : Obj := ⟨(.type "builtin_function_or_method"), none, (.fields #[(.builtin "object.__init_subclass__"), (.ref 108)]), #[]⟩
noncomputable def o168 (P : Params) : Obj := ⟨(.type "dict"), none, (.dict #[⟨(PyData.keyHash P "__name__"), (.str "__name__" 165), (.str "gluepage.scaled" 372)⟩, ⟨(PyData.keyHash P "__doc__"), (.str "__doc__" 166), .none⟩, ⟨(PyData.keyHash P "__package__"), (.str "__package__" 167), .none⟩, ⟨(PyData.keyHash P "__loader__"), (.str "__loader__" 168), (.builtin "__main__.__loader__#opaque")⟩, ⟨(PyData.keyHash P "__spec__"), (.str "__spec__" 169), .none⟩, ⟨(PyData.keyHash P "__annotations__"), (.str "__annotations__" 170), (.ref 6)⟩, ⟨(PyData.keyHash P "__builtins__"), (.str "__builtins__" 171), (.ref 4)⟩, ⟨(PyData.keyHash P "__file__"), (.str "__file__" 173), (.str "/claim/cut.py" 172)⟩, ⟨(PyData.keyHash P "__cached__"), (.str "__cached__" 174), .none⟩, ⟨(PyData.keyHash P "_wall"), (.str "_wall" 193), (.ref 21)⟩, ⟨(PyData.keyHash P "RELAX"), (.str "RELAX" 201), (.int 0 194)⟩, ⟨(PyData.keyHash P "LEFT_BRACE"), (.str "LEFT_BRACE" 202), (.int 1 195)⟩, ⟨(PyData.keyHash P "RIGHT_BRACE"), (.str "RIGHT_BRACE" 203), (.int 2 196)⟩, ⟨(PyData.keyHash P "MATH_SHIFT"), (.str "MATH_SHIFT" 204), (.int 3 197)⟩, ⟨(PyData.keyHash P "TAB_MARK"), (.str "TAB_MARK" 205), (.int 4 198)⟩, ⟨(PyData.keyHash P "ROW_END"), (.str "ROW_END" 206), (.int 5 199)⟩, ⟨(PyData.keyHash P "PARAMETER_MARK"), (.str "PARAMETER_MARK" 207), (.int 6 200)⟩, ⟨(PyData.keyHash P "SUP_MARK"), (.str "SUP_MARK" 214), (.int 7 208)⟩, ⟨(PyData.keyHash P "SUB_MARK"), (.str "SUB_MARK" 215), (.int 8 209)⟩, ⟨(PyData.keyHash P "END_MARK"), (.str "END_MARK" 216), (.int 9 210)⟩, ⟨(PyData.keyHash P "SPACER"), (.str "SPACER" 217), (.int 10 211)⟩, ⟨(PyData.keyHash P "LETTER_commands"), (.str "LETTER_commands" 218), (.int 11 212)⟩, ⟨(PyData.keyHash P "OTHER_CHAR"), (.str "OTHER_CHAR" 219), (.int 12 213)⟩, ⟨(PyData.keyHash P "NAMED_REGISTER"), (.str "NAMED_REGISTER" 228), (.int 77 220)⟩, ⟨(PyData.keyHash P "ARITHMETIC"), (.str "ARITHMETIC" 229), (.int 78 221)⟩, ⟨(PyData.keyHash P "PREFIX"), (.str "PREFIX" 230), (.int 79 222)⟩, ⟨(PyData.keyHash P "LET"), (.str "LET" 231), (.int 80 223)⟩, ⟨(PyData.keyHash P "SHORTHAND"), (.str "SHORTHAND" 232), (.int 81 224)⟩, ⟨(PyData.keyHash P "DEFINE"), (.str "DEFINE" 233), (.int 82 225)⟩, ⟨(PyData.keyHash P "SET_BOX"), (.str "SET_BOX" 234), (.int 83 226)⟩, ⟨(PyData.keyHash P "HYPHEN_DATA"), (.str "HYPHEN_DATA" 235), (.int 84 227)⟩, ⟨(PyData.keyHash P "SPACE_FACTOR"), (.str "SPACE_FACTOR" 244), (.int 92 236)⟩, ⟨(PyData.keyHash P "PREV_DEPTH"), (.str "PREV_DEPTH" 245), (.int 93 237)⟩, ⟨(PyData.keyHash P "PREV_GRAF"), (.str "PREV_GRAF" 246), (.int 94 238)⟩, ⟨(PyData.keyHash P "PAGE_DIMEN"), (.str "PAGE_DIMEN" 247), (.int 95 239)⟩, ⟨(PyData.keyHash P "PAGE_INT"), (.str "PAGE_INT" 248), (.int 96 240)⟩, ⟨(PyData.keyHash P "THE_FONT"), (.str "THE_FONT" 249), (.int 97 241)⟩, ⟨(PyData.keyHash P "READ_TO"), (.str "READ_TO" 250), (.int 98 242)⟩, ⟨(PyData.keyHash P "END_OF_INPUT"), (.str "END_OF_INPUT" 251), (.int 99 243)⟩, ⟨(PyData.keyHash P "RELAX_VALUE"), (.str "RELAX_VALUE" 257), (.int 256 252)⟩, ⟨(PyData.keyHash P "GUARDED"), (.str "GUARDED" 258), (.int 257 253)⟩, ⟨(PyData.keyHash P "SPAN_CODE"), (.str "SPAN_CODE" 259), (.int 256 254)⟩, ⟨(PyData.keyHash P "CR_CODE"), (.str "CR_CODE" 260), (.int 257 255)⟩, ⟨(PyData.keyHash P "CRCR_CODE"), (.str "CRCR_CODE" 261), (.int 258 256)⟩, ⟨(PyData.keyHash P "PageError"), (.str "PageError" 291), (.ref 59)⟩, ⟨(PyData.keyHash P "BadArgument"), (.str "BadArgument" 307), (.ref 72)⟩, ⟨(PyData.keyHash P "BadNumber"), (.str "BadNumber" 323), (.ref 84)⟩, ⟨(PyData.keyHash P "BadUnit"), (.str "BadUnit" 339), (.ref 96)⟩, ⟨(PyData.keyHash P "Overflow"), (.str "Overflow" 355), (.ref 108)⟩, ⟨(PyData.keyHash P "BadGroup"), (.str "BadGroup" 371), (.ref 120)⟩, ⟨(PyData.keyHash P "UNITY"), (.str "UNITY" 375), (.int 65536 374)⟩, ⟨(PyData.keyHash P "MAX_DIMEN"), (.str "MAX_DIMEN" 381), (.int 1073741823 380)⟩, ⟨(PyData.keyHash P "MAX_NUMBER"), (.str "MAX_NUMBER" 387), (.int 2147483647 386)⟩, ⟨(PyData.keyHash P "NORMAL"), (.str "NORMAL" 392), (.int 0 388)⟩, ⟨(PyData.keyHash P "FIL"), (.str "FIL" 393), (.int 1 389)⟩, ⟨(PyData.keyHash P "FILL"), (.str "FILL" 394), (.int 2 390)⟩, ⟨(PyData.keyHash P "FILLL"), (.str "FILLL" 395), (.int 3 391)⟩] 57), #[]⟩
noncomputable def o169 : Obj := ⟨.none, none, (.fields #[(.int 1 0), (.int 0 0), (.ref 20), (.int 10 0), (.int 0 0), (.ref 47), (.int 14 0), (.int 0 0), (.ref 68), (.int 16 0), (.int 0 0), (.ref 80), (.int 18 0), (.int 0 0), (.ref 92), (.int 20 0), (.int 0 0), (.ref 104), (.int 22 0), (.int 0 0), (.ref 116)]), #[]⟩
noncomputable def o170 : Obj := ⟨(.type "type"), none, (.cls ⟨"PageError", [(.type "ValueError")], [(.ref 59), (.type "ValueError"), (.type "Exception"), (.type "BaseException"), (.type "object")], 58, "PageError", true, [], [(.ref 72), (.ref 84), (.ref 96), (.ref 108), (.ref 120)], false, none, false⟩), #[(some (.ref 42)), none, (some (.str "PageError" 264)), (some (.str "PageError" 272)), (some (.builtin "ValueError.__new__")), (some (.bool true))]⟩
noncomputable def o171 : Obj := ⟨(.type "tuple"), none, (.seq #[(.ref 59)] 0), #[]⟩
noncomputable def o172 : Obj := ⟨(.type "builtin_function_or_method"), none, (.fields #[(.builtin "type.__prepare__"), (.type "type")]), #[]⟩
noncomputable def o173 (P : Params) : Obj := ⟨(.type "dict"), none, (.dict #[⟨(PyData.keyHash P "__module__"), (.str "__module__" 363), (.str "gluepage.errors" 262)⟩, ⟨(PyData.keyHash P "__qualname__"), (.str "__qualname__" 365), (.str "BadGroup" 364)⟩, ⟨(PyData.keyHash P "__firstlineno__"), (.str "__firstlineno__" 367), (.int 22 366)⟩, ⟨(PyData.keyHash P "__static_attributes__"), (.str "__static_attributes__" 368), (.ref 118)⟩] 4), #[]⟩
noncomputable def o174 : Obj := ⟨(.type "tuple"), none, (.seq #[] 0), #[]⟩
noncomputable def o175 : Obj := ⟨.none, none, (.fields #[]), #[]⟩
noncomputable def o176 : Obj := ⟨(.type "code"), none, (.fields #[(.str "BadGroup" 358), (.str "BadGroup" 359), (.str "/claim/cut.py" 360), (.int 22 0), (.int 0 0), (.int 0 0), (.int 0 0), (.int 0 0), (.ref 114), (.bool false), (.int 181 0), (.ref 115), .none, .none, .none, .none, (.int 361 0), (.int 22 0), (.str "/claim/cut.py" 362)]), #[]⟩
noncomputable def o177 : Obj := ⟨(.type "frame"), none, .plain, #[(some (.ref 116)), (some (.ref 3)), (some (.ref 113)), none, (some (.str "gluepage.errors" 262)), none, (some (.ref 0))]⟩
noncomputable def o178 : Obj := ⟨(.type "tuple"), none, (.seq #[] 0), #[]⟩
noncomputable def o179 (P : Params) : Obj := ⟨(.type "dict"), none, (.dict #[⟨(PyData.keyHash P "__module__"), (.str "__module__" 363), (.str "gluepage.errors" 262)⟩, ⟨(PyData.keyHash P "__firstlineno__"), (.str "__firstlineno__" 367), (.int 22 366)⟩, ⟨(PyData.keyHash P "__static_attributes__"), (.str "__static_attributes__" 368), (.ref 118)⟩, ⟨(PyData.keyHash P "__doc__"), (.str "__doc__" 369), .none⟩] 2), #[]⟩
noncomputable def o180 : Obj := ⟨(.type "type"), none, (.cls ⟨"BadGroup", [(.ref 59)], [(.ref 120), (.ref 59), (.type "ValueError"), (.type "Exception"), (.type "BaseException"), (.type "object")], 119, "BadGroup", true, [], [], false, none, false⟩), #[(some (.ref 111)), none, (some (.str "BadGroup" 356)), (some (.str "BadGroup" 364)), (some (.builtin "ValueError.__new__")), (some (.bool true))]⟩
noncomputable def o181 : Obj := ⟨(.type "super"), none, (.fields #[(.ref 120), (.ref 120), (.ref 120)]), #[]⟩
noncomputable def o182 : Obj := ⟨(.type "builtin_function_or_method"), none, (.fields #[(.builtin "object.__init_subclass__"), (.ref 120)]), #[]⟩
noncomputable def o183 : Obj := ⟨(.type "tuple"), none, (.seq #[(.int 0 388), (.int 1 389), (.int 2 390), (.int 3 391)] 0), #[]⟩
noncomputable def o184 : Obj := ⟨(.type "tuple_iterator"), none, (.fields #[.none, (.int 4 0)]), #[]⟩
noncomputable def o185 : Obj := ⟨(.type "tuple"), none, (.seq #[] 0), #[]⟩
noncomputable def o186 : Obj := ⟨(.type "StopIteration"), none, (.fields #[(.ref 125), .none, .none, .none, (.bool false), .none]), #[]⟩
noncomputable def o191 : Obj := ⟨(.type "tuple"), none, (.seq #[] 0), #[]⟩
noncomputable def o192 : Obj := ⟨.none, none, (.fields #[]), #[]⟩
noncomputable def o193 : Obj := ⟨(.type "tuple"), none, (.seq #[(.str "value" 399), (.str "low" 400), (.str "high" 401)] 0), #[]⟩
noncomputable def o194 : Obj := ⟨(.type "tuple"), none, (.seq #[] 0), #[]⟩
noncomputable def o195 : Obj := ⟨.none, none, (.func (fN 18 none "is_whole" "is_whole" 0 [] .none .none .none .none none .none .none 0)), #[]⟩
noncomputable def o196 : Obj := ⟨(.type "code"), none, (.fields #[(.str "is_whole" 396), (.str "is_whole" 397), (.str "/claim/cut.py" 398), (.int 29 0), (.int 3 0), (.int 0 0), (.int 0 0), (.int 3 0), (.ref 127), (.bool true), (.int 181 0), (.ref 128), .none, (.ref 129), (.ref 130), (.ref 131), (.int 402 0), (.int 29 0), (.str "/claim/cut.py" 403)]), #[]⟩
noncomputable def o197 : Obj := ⟨(.type "function"), none, (.func (fN 18 none "is_whole" "is_whole" 3 [] .none .none .none (.str "gluepage.scaled" 372) none (.ref 132) .none 0)), #[]⟩
noncomputable def o198 : Obj := ⟨(.type "tuple"), none, (.seq #[] 0), #[]⟩
noncomputable def o199 : Obj := ⟨.none, none, (.fields #[]), #[]⟩
noncomputable def o200 : Obj := ⟨(.type "tuple"), none, (.seq #[(.str "value" 408)] 0), #[]⟩
noncomputable def o201 : Obj := ⟨(.type "tuple"), none, (.seq #[] 0), #[]⟩
noncomputable def o202 : Obj := ⟨.none, none, (.func (fN 19 none "check_whole" "check_whole" 0 [] .none .none .none .none none .none .none 0)), #[]⟩
noncomputable def o203 : Obj := ⟨(.type "code"), none, (.fields #[(.str "check_whole" 405), (.str "check_whole" 406), (.str "/claim/cut.py" 407), (.int 31 0), (.int 1 0), (.int 0 0), (.int 0 0), (.int 3 0), (.ref 134), (.bool true), (.int 181 0), (.ref 135), .none, (.ref 136), (.ref 137), (.ref 138), (.int 409 0), (.int 31 0), (.str "/claim/cut.py" 410)]), #[]⟩
noncomputable def o204 : Obj := ⟨(.type "function"), none, (.func (fN 19 none "check_whole" "check_whole" 3 [] .none .none .none (.str "gluepage.scaled" 372) none (.ref 139) .none 0)), #[]⟩
noncomputable def o205 : Obj := ⟨(.type "tuple"), none, (.seq #[] 0), #[]⟩
noncomputable def o206 : Obj := ⟨.none, none, (.fields #[]), #[]⟩
noncomputable def o207 : Obj := ⟨(.type "tuple"), none, (.seq #[(.str "value" 415)] 0), #[]⟩
noncomputable def o208 : Obj := ⟨(.type "tuple"), none, (.seq #[] 0), #[]⟩
noncomputable def o209 : Obj := ⟨.none, none, (.func (fN 20 none "check_number" "check_number" 0 [] .none .none .none .none none .none .none 0)), #[]⟩
noncomputable def o210 : Obj := ⟨(.type "code"), none, (.fields #[(.str "check_number" 412), (.str "check_number" 413), (.str "/claim/cut.py" 414), (.int 35 0), (.int 1 0), (.int 0 0), (.int 0 0), (.int 3 0), (.ref 141), (.bool true), (.int 181 0), (.ref 142), .none, (.ref 143), (.ref 144), (.ref 145), (.int 416 0), (.int 35 0), (.str "/claim/cut.py" 417)]), #[]⟩
noncomputable def o211 : Obj := ⟨(.type "function"), none, (.func (fN 20 none "check_number" "check_number" 3 [] .none .none .none (.str "gluepage.scaled" 372) none (.ref 146) .none 0)), #[]⟩
noncomputable def o212 : Obj := ⟨(.type "tuple"), none, (.seq #[] 0), #[]⟩
noncomputable def o213 : Obj := ⟨.none, none, (.fields #[]), #[]⟩
noncomputable def o214 : Obj := ⟨(.type "tuple"), none, (.seq #[(.str "value" 422)] 0), #[]⟩
noncomputable def o215 : Obj := ⟨(.type "tuple"), none, (.seq #[] 0), #[]⟩
noncomputable def o216 : Obj := ⟨.none, none, (.func (fN 21 none "check_dimen" "check_dimen" 0 [] .none .none .none .none none .none .none 0)), #[]⟩
noncomputable def o217 : Obj := ⟨(.type "code"), none, (.fields #[(.str "check_dimen" 419), (.str "check_dimen" 420), (.str "/claim/cut.py" 421), (.int 39 0), (.int 1 0), (.int 0 0), (.int 0 0), (.int 3 0), (.ref 148), (.bool true), (.int 181 0), (.ref 149), .none, (.ref 150), (.ref 151), (.ref 152), (.int 423 0), (.int 39 0), (.str "/claim/cut.py" 424)]), #[]⟩
noncomputable def o218 : Obj := ⟨(.type "function"), none, (.func (fN 21 none "check_dimen" "check_dimen" 3 [] .none .none .none (.str "gluepage.scaled" 372) none (.ref 153) .none 0)), #[]⟩
noncomputable def o219 : Obj := ⟨(.type "tuple"), none, (.seq #[] 0), #[]⟩
noncomputable def o220 : Obj := ⟨.none, none, (.fields #[]), #[]⟩
noncomputable def o221 : Obj := ⟨(.type "tuple"), none, (.seq #[(.str "number" 429), (.str "by" 430)] 0), #[]⟩
noncomputable def o222 : Obj := ⟨(.type "tuple"), none, (.seq #[] 0), #[]⟩
noncomputable def o223 : Obj := ⟨.none, none, (.func (fN 22 none "rounded" "rounded" 0 [] .none .none .none .none none .none .none 0)), #[]⟩
noncomputable def o224 : Obj := ⟨(.type "code"), none, (.fields #[(.str "rounded" 426), (.str "rounded" 427), (.str "/claim/cut.py" 428), (.int 43 0), (.int 2 0), (.int 0 0), (.int 0 0), (.int 3 0), (.ref 155), (.bool true), (.int 181 0), (.ref 156), .none, (.ref 157), (.ref 158), (.ref 159), (.int 431 0), (.int 43 0), (.str "/claim/cut.py" 432)]), #[]⟩
noncomputable def o225 : Obj := ⟨(.type "function"), none, (.func (fN 22 none "rounded" "rounded" 3 [] .none .none .none (.str "gluepage.scaled" 372) none (.ref 160) .none 0)), #[]⟩
noncomputable def o226 : Obj := ⟨(.type "tuple"), none, (.seq #[] 0), #[]⟩
noncomputable def o227 : Obj := ⟨.none, none, (.fields #[]), #[]⟩
noncomputable def o228 : Obj := ⟨(.type "tuple"), none, (.seq #[(.str "whole" 437), (.str "scale" 438)] 0), #[]⟩
noncomputable def o229 : Obj := ⟨(.type "tuple"), none, (.seq #[] 0), #[]⟩
noncomputable def o230 : Obj := ⟨.none, none, (.func (fN 23 none "reading" "reading" 0 [] .none .none .none .none none .none .none 0)), #[]⟩
noncomputable def o231 : Obj := ⟨(.type "code"), none, (.fields #[(.str "reading" 434), (.str "reading" 435), (.str "/claim/cut.py" 436), (.int 49 0), (.int 2 0), (.int 0 0), (.int 0 0), (.int 3 0), (.ref 162), (.bool true), (.int 181 0), (.ref 163), .none, (.ref 164), (.ref 165), (.ref 166), (.int 439 0), (.int 49 0), (.str "/claim/cut.py" 440)]), #[]⟩
noncomputable def o232 : Obj := ⟨(.type "function"), none, (.func (fN 23 none "reading" "reading" 3 [] .none .none .none (.str "gluepage.scaled" 372) none (.ref 167) .none 0)), #[]⟩
noncomputable def o233 : Obj := ⟨(.type "tuple"), none, (.seq #[] 0), #[]⟩
noncomputable def o234 : Obj := ⟨.none, none, (.fields #[]), #[]⟩
noncomputable def o235 : Obj := ⟨(.type "tuple"), none, (.seq #[(.str "value" 445), (.str "sign" 446), (.str "points" 447), (.str "part" 448), (.str "scale" 449), (.str "near" 450), (.str "places" 451)] 0), #[]⟩
noncomputable def o236 : Obj := ⟨(.type "tuple"), none, (.seq #[] 0), #[]⟩
noncomputable def o237 : Obj := ⟨.none, none, (.func (fN 24 none "decimal_text" "decimal_text" 0 [] .none .none .none .none none .none .none 0)), #[]⟩
noncomputable def o238 : Obj := ⟨(.type "code"), none, (.fields #[(.str "decimal_text" 442), (.str "decimal_text" 443), (.str "/claim/cut.py" 444), (.int 51 0), (.int 1 0), (.int 0 0), (.int 0 0), (.int 3 0), (.ref 169), (.bool true), (.int 181 0), (.ref 170), .none, (.ref 171), (.ref 172), (.ref 173), (.int 452 0), (.int 51 0), (.str "/claim/cut.py" 453)]), #[]⟩
noncomputable def o239 : Obj := ⟨(.type "function"), none, (.func (fN 24 none "decimal_text" "decimal_text" 3 [] .none .none .none (.str "gluepage.scaled" 372) none (.ref 174) .none 0)), #[]⟩
noncomputable def o240 : Obj := ⟨(.type "tuple"), none, (.seq #[] 0), #[]⟩
noncomputable def o241 : Obj := ⟨.none, none, (.fields #[]), #[]⟩
noncomputable def o242 : Obj := ⟨(.type "tuple"), none, (.seq #[(.str "order" 458)] 0), #[]⟩
noncomputable def o243 : Obj := ⟨(.type "tuple"), none, (.seq #[] 0), #[]⟩
noncomputable def o244 : Obj := ⟨.none, none, (.func (fN 25 none "order_text" "order_text" 0 [] .none .none .none .none none .none .none 0)), #[]⟩
noncomputable def o245 : Obj := ⟨(.type "code"), none, (.fields #[(.str "order_text" 455), (.str "order_text" 456), (.str "/claim/cut.py" 457), (.int 62 0), (.int 1 0), (.int 0 0), (.int 0 0), (.int 3 0), (.ref 176), (.bool true), (.int 181 0), (.ref 177), .none, (.ref 178), (.ref 179), (.ref 180), (.int 459 0), (.int 62 0), (.str "/claim/cut.py" 460)]), #[]⟩
noncomputable def o246 : Obj := ⟨(.type "function"), none, (.func (fN 25 none "order_text" "order_text" 3 [] .none .none .none (.str "gluepage.scaled" 372) none (.ref 181) .none 0)), #[]⟩
noncomputable def o247 : Obj := ⟨(.type "tuple"), none, (.seq #[] 0), #[]⟩
noncomputable def o248 : Obj := ⟨.none, none, (.fields #[]), #[]⟩
noncomputable def o249 : Obj := ⟨(.type "tuple"), none, (.seq #[(.str "value" 465), (.str "order" 466), (.str "unit" 467)] 0), #[]⟩
noncomputable def o250 : Obj := ⟨(.type "tuple"), none, (.seq #[] 0), #[]⟩
noncomputable def o251 : Obj := ⟨.none, none, (.func (fN 26 none "part_text" "part_text" 0 [] .none .none .none .none none .none .none 0)), #[]⟩
noncomputable def o252 : Obj := ⟨(.type "code"), none, (.fields #[(.str "part_text" 462), (.str "part_text" 463), (.str "/claim/cut.py" 464), (.int 64 0), (.int 3 0), (.int 0 0), (.int 0 0), (.int 3 0), (.ref 183), (.bool true), (.int 181 0), (.ref 184), .none, (.ref 185), (.ref 186), (.ref 187), (.int 468 0), (.int 64 0), (.str "/claim/cut.py" 469)]), #[]⟩
noncomputable def o253 : Obj := ⟨(.type "function"), none, (.func (fN 26 none "part_text" "part_text" 3 [] .none .none .none (.str "gluepage.scaled" 372) none (.ref 188) .none 0)), #[]⟩
noncomputable def o254 (P : Params) : Obj := ⟨(.type "dict"), none, (.dict #[⟨(PyData.keyHash P "__name__"), (.str "__name__" 165), (.str "gluepage.scaled" 372)⟩, ⟨(PyData.keyHash P "__doc__"), (.str "__doc__" 166), .none⟩, ⟨(PyData.keyHash P "__package__"), (.str "__package__" 167), .none⟩, ⟨(PyData.keyHash P "__loader__"), (.str "__loader__" 168), (.builtin "__main__.__loader__#opaque")⟩, ⟨(PyData.keyHash P "__spec__"), (.str "__spec__" 169), .none⟩, ⟨(PyData.keyHash P "__annotations__"), (.str "__annotations__" 170), (.ref 6)⟩, ⟨(PyData.keyHash P "__builtins__"), (.str "__builtins__" 171), (.ref 4)⟩, ⟨(PyData.keyHash P "__file__"), (.str "__file__" 173), (.str "/claim/cut.py" 172)⟩, ⟨(PyData.keyHash P "__cached__"), (.str "__cached__" 174), .none⟩, ⟨(PyData.keyHash P "_wall"), (.str "_wall" 193), (.ref 21)⟩, ⟨(PyData.keyHash P "RELAX"), (.str "RELAX" 201), (.int 0 194)⟩, ⟨(PyData.keyHash P "LEFT_BRACE"), (.str "LEFT_BRACE" 202), (.int 1 195)⟩, ⟨(PyData.keyHash P "RIGHT_BRACE"), (.str "RIGHT_BRACE" 203), (.int 2 196)⟩, ⟨(PyData.keyHash P "MATH_SHIFT"), (.str "MATH_SHIFT" 204), (.int 3 197)⟩, ⟨(PyData.keyHash P "TAB_MARK"), (.str "TAB_MARK" 205), (.int 4 198)⟩, ⟨(PyData.keyHash P "ROW_END"), (.str "ROW_END" 206), (.int 5 199)⟩, ⟨(PyData.keyHash P "PARAMETER_MARK"), (.str "PARAMETER_MARK" 207), (.int 6 200)⟩, ⟨(PyData.keyHash P "SUP_MARK"), (.str "SUP_MARK" 214), (.int 7 208)⟩, ⟨(PyData.keyHash P "SUB_MARK"), (.str "SUB_MARK" 215), (.int 8 209)⟩, ⟨(PyData.keyHash P "END_MARK"), (.str "END_MARK" 216), (.int 9 210)⟩, ⟨(PyData.keyHash P "SPACER"), (.str "SPACER" 217), (.int 10 211)⟩, ⟨(PyData.keyHash P "LETTER_commands"), (.str "LETTER_commands" 218), (.int 11 212)⟩, ⟨(PyData.keyHash P "OTHER_CHAR"), (.str "OTHER_CHAR" 219), (.int 12 213)⟩, ⟨(PyData.keyHash P "NAMED_REGISTER"), (.str "NAMED_REGISTER" 228), (.int 77 220)⟩, ⟨(PyData.keyHash P "ARITHMETIC"), (.str "ARITHMETIC" 229), (.int 78 221)⟩, ⟨(PyData.keyHash P "PREFIX"), (.str "PREFIX" 230), (.int 79 222)⟩, ⟨(PyData.keyHash P "LET"), (.str "LET" 231), (.int 80 223)⟩, ⟨(PyData.keyHash P "SHORTHAND"), (.str "SHORTHAND" 232), (.int 81 224)⟩, ⟨(PyData.keyHash P "DEFINE"), (.str "DEFINE" 233), (.int 82 225)⟩, ⟨(PyData.keyHash P "SET_BOX"), (.str "SET_BOX" 234), (.int 83 226)⟩, ⟨(PyData.keyHash P "HYPHEN_DATA"), (.str "HYPHEN_DATA" 235), (.int 84 227)⟩, ⟨(PyData.keyHash P "SPACE_FACTOR"), (.str "SPACE_FACTOR" 244), (.int 92 236)⟩, ⟨(PyData.keyHash P "PREV_DEPTH"), (.str "PREV_DEPTH" 245), (.int 93 237)⟩, ⟨(PyData.keyHash P "PREV_GRAF"), (.str "PREV_GRAF" 246), (.int 94 238)⟩, ⟨(PyData.keyHash P "PAGE_DIMEN"), (.str "PAGE_DIMEN" 247), (.int 95 239)⟩, ⟨(PyData.keyHash P "PAGE_INT"), (.str "PAGE_INT" 248), (.int 96 240)⟩, ⟨(PyData.keyHash P "THE_FONT"), (.str "THE_FONT" 249), (.int 97 241)⟩, ⟨(PyData.keyHash P "READ_TO"), (.str "READ_TO" 250), (.int 98 242)⟩, ⟨(PyData.keyHash P "END_OF_INPUT"), (.str "END_OF_INPUT" 251), (.int 99 243)⟩, ⟨(PyData.keyHash P "RELAX_VALUE"), (.str "RELAX_VALUE" 257), (.int 256 252)⟩, ⟨(PyData.keyHash P "GUARDED"), (.str "GUARDED" 258), (.int 257 253)⟩, ⟨(PyData.keyHash P "SPAN_CODE"), (.str "SPAN_CODE" 259), (.int 256 254)⟩, ⟨(PyData.keyHash P "CR_CODE"), (.str "CR_CODE" 260), (.int 257 255)⟩, ⟨(PyData.keyHash P "CRCR_CODE"), (.str "CRCR_CODE" 261), (.int 258 256)⟩, ⟨(PyData.keyHash P "PageError"), (.str "PageError" 291), (.ref 59)⟩, ⟨(PyData.keyHash P "BadArgument"), (.str "BadArgument" 307), (.ref 72)⟩, ⟨(PyData.keyHash P "BadNumber"), (.str "BadNumber" 323), (.ref 84)⟩, ⟨(PyData.keyHash P "BadUnit"), (.str "BadUnit" 339), (.ref 96)⟩, ⟨(PyData.keyHash P "Overflow"), (.str "Overflow" 355), (.ref 108)⟩, ⟨(PyData.keyHash P "BadGroup"), (.str "BadGroup" 371), (.ref 120)⟩, ⟨(PyData.keyHash P "UNITY"), (.str "UNITY" 375), (.int 65536 374)⟩, ⟨(PyData.keyHash P "MAX_DIMEN"), (.str "MAX_DIMEN" 381), (.int 1073741823 380)⟩, ⟨(PyData.keyHash P "MAX_NUMBER"), (.str "MAX_NUMBER" 387), (.int 2147483647 386)⟩, ⟨(PyData.keyHash P "NORMAL"), (.str "NORMAL" 392), (.int 0 388)⟩, ⟨(PyData.keyHash P "FIL"), (.str "FIL" 393), (.int 1 389)⟩, ⟨(PyData.keyHash P "FILL"), (.str "FILL" 394), (.int 2 390)⟩, ⟨(PyData.keyHash P "FILLL"), (.str "FILLL" 395), (.int 3 391)⟩, ⟨(PyData.keyHash P "is_whole"), (.str "is_whole" 404), (.ref 133)⟩, ⟨(PyData.keyHash P "check_whole"), (.str "check_whole" 411), (.ref 140)⟩, ⟨(PyData.keyHash P "check_number"), (.str "check_number" 418), (.ref 147)⟩, ⟨(PyData.keyHash P "check_dimen"), (.str "check_dimen" 425), (.ref 154)⟩, ⟨(PyData.keyHash P "rounded"), (.str "rounded" 433), (.ref 161)⟩, ⟨(PyData.keyHash P "reading"), (.str "reading" 441), (.ref 168)⟩, ⟨(PyData.keyHash P "decimal_text"), (.str "decimal_text" 454), (.ref 175)⟩, ⟨(PyData.keyHash P "order_text"), (.str "order_text" 461), (.ref 182)⟩, ⟨(PyData.keyHash P "part_text"), (.str "part_text" 470), (.ref 189)⟩, ⟨(PyData.keyHash P "Glue"), (.str "Glue" 568), (.ref 257)⟩] 67), #[]⟩
noncomputable def o255 : Obj := ⟨.none, none, (.fields #[(.int 1 0), (.int 0 0), (.ref 20), (.int 10 0), (.int 0 0), (.ref 47), (.int 14 0), (.int 0 0), (.ref 68), (.int 16 0), (.int 0 0), (.ref 80), (.int 18 0), (.int 0 0), (.ref 92), (.int 20 0), (.int 0 0), (.ref 104), (.int 22 0), (.int 0 0), (.ref 116), (.int 29 0), (.int 0 0), (.ref 132), (.int 31 0), (.int 0 0), (.ref 139), (.int 35 0), (.int 0 0), (.ref 146), (.int 39 0), (.int 0 0), (.ref 153), (.int 43 0), (.int 0 0), (.ref 160), (.int 49 0), (.int 0 0), (.ref 167), (.int 51 0), (.int 0 0), (.ref 174), (.int 62 0), (.int 0 0), (.ref 181), (.int 64 0), (.int 0 0), (.ref 188), (.int 66 0), (.int 0 0), (.ref 195)]), #[]⟩
noncomputable def o256 : Obj := ⟨(.type "tuple"), none, (.seq #[] 0), #[]⟩
noncomputable def o257 : Obj := ⟨(.type "builtin_function_or_method"), none, (.fields #[(.builtin "type.__prepare__"), (.type "type")]), #[]⟩
noncomputable def o258 (P : Params) : Obj := ⟨(.type "dict"), none, (.dict #[⟨(PyData.keyHash P "__module__"), (.str "__module__" 478), (.str "gluepage.scaled" 372)⟩, ⟨(PyData.keyHash P "__qualname__"), (.str "__qualname__" 480), (.str "Glue" 479)⟩, ⟨(PyData.keyHash P "__firstlineno__"), (.str "__firstlineno__" 482), (.int 66 481)⟩, ⟨(PyData.keyHash P "__init__"), (.str "__init__" 499), (.ref 204)⟩, ⟨(PyData.keyHash P "parts"), (.str "parts" 506), (.ref 211)⟩, ⟨(PyData.keyHash P "same"), (.str "same" 514), (.ref 218)⟩, ⟨(PyData.keyHash P "added"), (.str "added" 522), (.ref 225)⟩, ⟨(PyData.keyHash P "times"), (.str "times" 530), (.ref 232)⟩, ⟨(PyData.keyHash P "over"), (.str "over" 538), (.ref 239)⟩, ⟨(PyData.keyHash P "negated"), (.str "negated" 545), (.ref 246)⟩, ⟨(PyData.keyHash P "text"), (.str "text" 555), (.ref 254)⟩, ⟨(PyData.keyHash P "__static_attributes__"), (.str "__static_attributes__" 561), (.ref 255)⟩] 12), #[]⟩
noncomputable def o259 : Obj := ⟨(.type "tuple"), none, (.seq #[] 0), #[]⟩
noncomputable def o260 : Obj := ⟨.none, none, (.fields #[(.int 68 0), (.int 4 0), (.ref 203), (.int 77 0), (.int 4 0), (.ref 210), (.int 80 0), (.int 4 0), (.ref 217), (.int 83 0), (.int 4 0), (.ref 224), (.int 86 0), (.int 4 0), (.ref 231), (.int 89 0), (.int 4 0), (.ref 238), (.int 92 0), (.int 4 0), (.ref 245), (.int 95 0), (.int 4 0), (.ref 253)]), #[]⟩
noncomputable def o261 : Obj := ⟨(.type "code"), none, (.fields #[(.str "Glue" 473), (.str "Glue" 474), (.str "/claim/cut.py" 475), (.int 66 0), (.int 0 0), (.int 0 0), (.int 0 0), (.int 0 0), (.ref 193), (.bool false), (.int 181 0), (.ref 194), .none, .none, .none, .none, (.int 476 0), (.int 66 0), (.str "/claim/cut.py" 477)]), #[]⟩
noncomputable def o262 : Obj := ⟨(.type "frame"), none, .plain, #[(some (.ref 195)), (some (.ref 3)), (some (.ref 192)), none, (some (.str "gluepage.scaled" 372)), none, (some (.ref 0))]⟩
noncomputable def o263 : Obj := ⟨(.type "tuple"), none, (.seq #[(.int 0 483), (.int 0 484), (.int 0 485), (.int 0 486), (.int 0 487)] 0), #[]⟩
noncomputable def o264 : Obj := ⟨(.type "tuple"), none, (.seq #[] 0), #[]⟩
noncomputable def o265 : Obj := ⟨.none, none, (.fields #[]), #[]⟩
noncomputable def o266 : Obj := ⟨(.type "tuple"), none, (.seq #[(.str "self" 491), (.str "width" 492), (.str "stretch" 493), (.str "stretch_order" 494), (.str "shrink" 495), (.str "shrink_order" 496)] 0), #[]⟩
noncomputable def o267 : Obj := ⟨(.type "tuple"), none, (.seq #[] 0), #[]⟩
noncomputable def o268 : Obj := ⟨.none, none, (.func (fN 27 (some 0) "__init__" "Glue.__init__" 0 [] .none .none .none .none none .none .none 0)), #[]⟩
noncomputable def o269 : Obj := ⟨(.type "code"), none, (.fields #[(.str "__init__" 488), (.str "Glue.__init__" 489), (.str "/claim/cut.py" 490), (.int 68 0), (.int 6 0), (.int 0 0), (.int 0 0), (.int 3 0), (.ref 198), (.bool true), (.int 181 0), (.ref 199), .none, (.ref 200), (.ref 201), (.ref 202), (.int 497 0), (.int 68 0), (.str "/claim/cut.py" 498)]), #[]⟩
noncomputable def o270 : Obj := ⟨(.type "function"), none, (.func (fN 27 (some 0) "__init__" "Glue.__init__" 3 [] (.ref 197) .none .none (.str "gluepage.scaled" 372) none (.ref 203) .none 0)), #[]⟩
noncomputable def o271 : Obj := ⟨(.type "tuple"), none, (.seq #[] 0), #[]⟩
noncomputable def o272 : Obj := ⟨.none, none, (.fields #[]), #[]⟩
noncomputable def o273 : Obj := ⟨(.type "tuple"), none, (.seq #[(.str "self" 503)] 0), #[]⟩
noncomputable def o274 : Obj := ⟨(.type "tuple"), none, (.seq #[] 0), #[]⟩
noncomputable def o275 : Obj := ⟨.none, none, (.func (fN 27 (some 1) "parts" "Glue.parts" 0 [] .none .none .none .none none .none .none 0)), #[]⟩
noncomputable def o276 : Obj := ⟨(.type "code"), none, (.fields #[(.str "parts" 500), (.str "Glue.parts" 501), (.str "/claim/cut.py" 502), (.int 77 0), (.int 1 0), (.int 0 0), (.int 0 0), (.int 3 0), (.ref 205), (.bool true), (.int 181 0), (.ref 206), .none, (.ref 207), (.ref 208), (.ref 209), (.int 504 0), (.int 77 0), (.str "/claim/cut.py" 505)]), #[]⟩
noncomputable def o277 : Obj := ⟨(.type "function"), none, (.func (fN 27 (some 1) "parts" "Glue.parts" 3 [] .none .none .none (.str "gluepage.scaled" 372) none (.ref 210) .none 0)), #[]⟩
noncomputable def o278 : Obj := ⟨(.type "tuple"), none, (.seq #[] 0), #[]⟩
noncomputable def o279 : Obj := ⟨.none, none, (.fields #[]), #[]⟩
noncomputable def o280 : Obj := ⟨(.type "tuple"), none, (.seq #[(.str "self" 510), (.str "other" 511)] 0), #[]⟩
noncomputable def o281 : Obj := ⟨(.type "tuple"), none, (.seq #[] 0), #[]⟩
noncomputable def o282 : Obj := ⟨.none, none, (.func (fN 27 (some 2) "same" "Glue.same" 0 [] .none .none .none .none none .none .none 0)), #[]⟩
noncomputable def o283 : Obj := ⟨(.type "code"), none, (.fields #[(.str "same" 507), (.str "Glue.same" 508), (.str "/claim/cut.py" 509), (.int 80 0), (.int 2 0), (.int 0 0), (.int 0 0), (.int 3 0), (.ref 212), (.bool true), (.int 181 0), (.ref 213), .none, (.ref 214), (.ref 215), (.ref 216), (.int 512 0), (.int 80 0), (.str "/claim/cut.py" 513)]), #[]⟩
noncomputable def o284 : Obj := ⟨(.type "function"), none, (.func (fN 27 (some 2) "same" "Glue.same" 3 [] .none .none .none (.str "gluepage.scaled" 372) none (.ref 217) .none 0)), #[]⟩
noncomputable def o285 : Obj := ⟨(.type "tuple"), none, (.seq #[] 0), #[]⟩
noncomputable def o286 : Obj := ⟨.none, none, (.fields #[]), #[]⟩
noncomputable def o287 : Obj := ⟨(.type "tuple"), none, (.seq #[(.str "self" 518), (.str "other" 519)] 0), #[]⟩
noncomputable def o288 : Obj := ⟨(.type "tuple"), none, (.seq #[] 0), #[]⟩
noncomputable def o289 : Obj := ⟨.none, none, (.func (fN 27 (some 3) "added" "Glue.added" 0 [] .none .none .none .none none .none .none 0)), #[]⟩
noncomputable def o290 : Obj := ⟨(.type "code"), none, (.fields #[(.str "added" 515), (.str "Glue.added" 516), (.str "/claim/cut.py" 517), (.int 83 0), (.int 2 0), (.int 0 0), (.int 0 0), (.int 3 0), (.ref 219), (.bool true), (.int 181 0), (.ref 220), .none, (.ref 221), (.ref 222), (.ref 223), (.int 520 0), (.int 83 0), (.str "/claim/cut.py" 521)]), #[]⟩
noncomputable def o291 : Obj := ⟨(.type "function"), none, (.func (fN 27 (some 3) "added" "Glue.added" 3 [] .none .none .none (.str "gluepage.scaled" 372) none (.ref 224) .none 0)), #[]⟩
noncomputable def o292 : Obj := ⟨(.type "tuple"), none, (.seq #[] 0), #[]⟩
noncomputable def o293 : Obj := ⟨.none, none, (.fields #[]), #[]⟩
noncomputable def o294 : Obj := ⟨(.type "tuple"), none, (.seq #[(.str "self" 526), (.str "count" 527)] 0), #[]⟩
noncomputable def o295 : Obj := ⟨(.type "tuple"), none, (.seq #[] 0), #[]⟩
noncomputable def o296 : Obj := ⟨.none, none, (.func (fN 27 (some 4) "times" "Glue.times" 0 [] .none .none .none .none none .none .none 0)), #[]⟩
noncomputable def o297 : Obj := ⟨(.type "code"), none, (.fields #[(.str "times" 523), (.str "Glue.times" 524), (.str "/claim/cut.py" 525), (.int 86 0), (.int 2 0), (.int 0 0), (.int 0 0), (.int 3 0), (.ref 226), (.bool true), (.int 181 0), (.ref 227), .none, (.ref 228), (.ref 229), (.ref 230), (.int 528 0), (.int 86 0), (.str "/claim/cut.py" 529)]), #[]⟩
noncomputable def o298 : Obj := ⟨(.type "function"), none, (.func (fN 27 (some 4) "times" "Glue.times" 3 [] .none .none .none (.str "gluepage.scaled" 372) none (.ref 231) .none 0)), #[]⟩
noncomputable def o299 : Obj := ⟨(.type "tuple"), none, (.seq #[] 0), #[]⟩
noncomputable def o300 : Obj := ⟨.none, none, (.fields #[]), #[]⟩
noncomputable def o301 : Obj := ⟨(.type "tuple"), none, (.seq #[(.str "self" 534), (.str "by" 535)] 0), #[]⟩
noncomputable def o302 : Obj := ⟨(.type "tuple"), none, (.seq #[] 0), #[]⟩
noncomputable def o303 : Obj := ⟨.none, none, (.func (fN 27 (some 5) "over" "Glue.over" 0 [] .none .none .none .none none .none .none 0)), #[]⟩
noncomputable def o304 : Obj := ⟨(.type "code"), none, (.fields #[(.str "over" 531), (.str "Glue.over" 532), (.str "/claim/cut.py" 533), (.int 89 0), (.int 2 0), (.int 0 0), (.int 0 0), (.int 3 0), (.ref 233), (.bool true), (.int 181 0), (.ref 234), .none, (.ref 235), (.ref 236), (.ref 237), (.int 536 0), (.int 89 0), (.str "/claim/cut.py" 537)]), #[]⟩
noncomputable def o305 : Obj := ⟨(.type "function"), none, (.func (fN 27 (some 5) "over" "Glue.over" 3 [] .none .none .none (.str "gluepage.scaled" 372) none (.ref 238) .none 0)), #[]⟩
noncomputable def o306 : Obj := ⟨(.type "tuple"), none, (.seq #[] 0), #[]⟩
noncomputable def o307 : Obj := ⟨.none, none, (.fields #[]), #[]⟩
noncomputable def o308 : Obj := ⟨(.type "tuple"), none, (.seq #[(.str "self" 542)] 0), #[]⟩
noncomputable def o309 : Obj := ⟨(.type "tuple"), none, (.seq #[] 0), #[]⟩
noncomputable def o310 : Obj := ⟨.none, none, (.func (fN 27 (some 6) "negated" "Glue.negated" 0 [] .none .none .none .none none .none .none 0)), #[]⟩
noncomputable def o311 : Obj := ⟨(.type "code"), none, (.fields #[(.str "negated" 539), (.str "Glue.negated" 540), (.str "/claim/cut.py" 541), (.int 92 0), (.int 1 0), (.int 0 0), (.int 0 0), (.int 3 0), (.ref 240), (.bool true), (.int 181 0), (.ref 241), .none, (.ref 242), (.ref 243), (.ref 244), (.int 543 0), (.int 92 0), (.str "/claim/cut.py" 544)]), #[]⟩
noncomputable def o312 : Obj := ⟨(.type "function"), none, (.func (fN 27 (some 6) "negated" "Glue.negated" 3 [] .none .none .none (.str "gluepage.scaled" 372) none (.ref 245) .none 0)), #[]⟩
noncomputable def o313 : Obj := ⟨(.type "tuple"), none, (.seq #[(.str "pt" 546)] 0), #[]⟩
noncomputable def o314 : Obj := ⟨(.type "tuple"), none, (.seq #[] 0), #[]⟩
noncomputable def o315 : Obj := ⟨.none, none, (.fields #[]), #[]⟩
noncomputable def o316 : Obj := ⟨(.type "tuple"), none, (.seq #[(.str "self" 550), (.str "unit" 551), (.str "found" 552)] 0), #[]⟩
noncomputable def o317 : Obj := ⟨(.type "tuple"), none, (.seq #[] 0), #[]⟩
noncomputable def o318 : Obj := ⟨.none, none, (.func (fN 27 (some 7) "text" "Glue.text" 0 [] .none .none .none .none none .none .none 0)), #[]⟩
noncomputable def o319 : Obj := ⟨(.type "code"), none, (.fields #[(.str "text" 547), (.str "Glue.text" 548), (.str "/claim/cut.py" 549), (.int 95 0), (.int 2 0), (.int 0 0), (.int 0 0), (.int 3 0), (.ref 248), (.bool true), (.int 181 0), (.ref 249), .none, (.ref 250), (.ref 251), (.ref 252), (.int 553 0), (.int 95 0), (.str "/claim/cut.py" 554)]), #[]⟩
noncomputable def o320 : Obj := ⟨(.type "function"), none, (.func (fN 27 (some 7) "text" "Glue.text" 3 [] (.ref 247) .none .none (.str "gluepage.scaled" 372) none (.ref 253) .none 0)), #[]⟩
noncomputable def o321 : Obj := ⟨(.type "tuple"), none, (.seq #[(.str "shrink" 556), (.str "shrink_order" 557), (.str "stretch" 558), (.str "stretch_order" 559), (.str "width" 560)] 0), #[]⟩
noncomputable def o322 (P : Params) : Obj := ⟨(.type "dict"), none, (.dict #[⟨(PyData.keyHash P "__module__"), (.str "__module__" 478), (.str "gluepage.scaled" 372)⟩, ⟨(PyData.keyHash P "__firstlineno__"), (.str "__firstlineno__" 482), (.int 66 481)⟩, ⟨(PyData.keyHash P "__init__"), (.str "__init__" 499), (.ref 204)⟩, ⟨(PyData.keyHash P "parts"), (.str "parts" 506), (.ref 211)⟩, ⟨(PyData.keyHash P "same"), (.str "same" 514), (.ref 218)⟩, ⟨(PyData.keyHash P "added"), (.str "added" 522), (.ref 225)⟩, ⟨(PyData.keyHash P "times"), (.str "times" 530), (.ref 232)⟩, ⟨(PyData.keyHash P "over"), (.str "over" 538), (.ref 239)⟩, ⟨(PyData.keyHash P "negated"), (.str "negated" 545), (.ref 246)⟩, ⟨(PyData.keyHash P "text"), (.str "text" 555), (.ref 254)⟩, ⟨(PyData.keyHash P "__static_attributes__"), (.str "__static_attributes__" 561), (.ref 255)⟩, ⟨(PyData.keyHash P "__dict__"), (.str "__dict__" 563), (.ref 258)⟩, ⟨(PyData.keyHash P "__weakref__"), (.str "__weakref__" 565), (.ref 259)⟩, ⟨(PyData.keyHash P "__doc__"), (.str "__doc__" 566), .none⟩] 4), #[]⟩
noncomputable def o323 : Obj := ⟨(.type "type"), none, (.cls ⟨"Glue", [(.type "object")], [(.ref 257), (.type "object")], 256, "Glue", true, [], [], false, none, false⟩), #[none, none, (some (.str "Glue" 471)), (some (.str "Glue" 479)), (some (.builtin "object.__new__")), (some (.bool true))]⟩
noncomputable def o324 : Obj := ⟨(.type "getset_descriptor"), none, (.fields #[(.str "__dict__" 562), (.ref 257), (.builtin "function.__dict__"), (.builtin "function.__dict__#set")]), #[]⟩
noncomputable def o325 : Obj := ⟨(.type "getset_descriptor"), none, (.fields #[(.str "__weakref__" 564), (.ref 257), (.builtin "ExceptionGroup.__weakref__"), .none]), #[]⟩
noncomputable def o326 : Obj := ⟨(.type "super"), none, (.fields #[(.ref 257), (.ref 257), (.ref 257)]), #[]⟩
noncomputable def o327 : Obj := ⟨(.type "builtin_function_or_method"), none, (.fields #[(.builtin "object.__init_subclass__"), (.ref 257)]), #[]⟩
noncomputable def o329 : Obj := ⟨(.type "tuple"), none, (.seq #[(.int 0 571), (.int 1 572), (.int 2 573), (.int 3 574), (.int 4 575), (.int 5 576), (.int 6 577), (.int 7 578)] 0), #[]⟩
noncomputable def o330 : Obj := ⟨(.type "tuple_iterator"), none, (.fields #[.none, (.int 8 0)]), #[]⟩
noncomputable def o331 : Obj := ⟨(.type "tuple"), none, (.seq #[] 0), #[]⟩
noncomputable def o332 : Obj := ⟨(.type "StopIteration"), none, (.fields #[(.ref 264), .none, .none, .none, (.bool false), .none]), #[]⟩
noncomputable def o333 : Obj := ⟨(.type "tuple"), none, (.seq #[(.int 8 587), (.int 9 588), (.int 10 589), (.int 11 590), (.int 12 591), (.int 13 592), (.int 14 593), (.int 15 594)] 0), #[]⟩
noncomputable def o334 : Obj := ⟨(.type "tuple_iterator"), none, (.fields #[.none, (.int 8 0)]), #[]⟩
noncomputable def o335 : Obj := ⟨(.type "tuple"), none, (.seq #[] 0), #[]⟩
noncomputable def o336 : Obj := ⟨(.type "StopIteration"), none, (.fields #[(.ref 268), .none, .none, .none, (.bool false), .none]), #[]⟩
noncomputable def o341 : Obj := ⟨(.type "tuple"), none, (.seq #[(.int 0 603), (.int 5 604), (.int 9 605), (.int 14 606), (.int 15 607)] 0), #[]⟩
noncomputable def o342 : Obj := ⟨(.type "tuple_iterator"), none, (.fields #[.none, (.int 5 0)]), #[]⟩
noncomputable def o343 : Obj := ⟨(.type "tuple"), none, (.seq #[] 0), #[]⟩
noncomputable def o344 : Obj := ⟨(.type "StopIteration"), none, (.fields #[(.ref 272), .none, .none, .none, (.bool false), .none]), #[]⟩
noncomputable def o345 : Obj := ⟨(.type "tuple"), none, (.seq #[(.int 0 617), (.int 0 618), (.int 0 619), (.int 0 620), (.int 0 621), (.int 1 622), (.int 0 623), (.int 0 624), (.int 0 625), (.int 1 626), (.int 0 627), (.int 0 628), (.int 0 629), (.int 0 630), (.int 0 631), (.int 0 632)] 0), #[]⟩
noncomputable def o346 : Obj := ⟨(.type "tuple"), none, (.seq #[(.int 1048575 635), (.int 255 636), (.int 255 637), (.int 255 638), (.int 255 639), (.int 9 640), (.int 255 641), (.int 255 642), (.int 255 643), (.int 9 644), (.int 255 645), (.int 255 646), (.int 255 647), (.int 255 648), (.int 255 649), (.int 0 650)] 0), #[]⟩
noncomputable def o347 : Obj := ⟨(.type "tuple"), none, (.seq #[] 0), #[]⟩
noncomputable def o348 : Obj := ⟨.none, none, (.fields #[]), #[]⟩
noncomputable def o349 : Obj := ⟨(.type "tuple"), none, (.seq #[(.str "token" 655)] 0), #[]⟩
noncomputable def o350 : Obj := ⟨(.type "tuple"), none, (.seq #[] 0), #[]⟩
noncomputable def o351 : Obj := ⟨.none, none, (.func (fN 35 none "is_token" "is_token" 0 [] .none .none .none .none none .none .none 0)), #[]⟩
noncomputable def o352 : Obj := ⟨(.type "code"), none, (.fields #[(.str "is_token" 652), (.str "is_token" 653), (.str "/claim/cut.py" 654), (.int 109 0), (.int 1 0), (.int 0 0), (.int 0 0), (.int 3 0), (.ref 276), (.bool true), (.int 181 0), (.ref 277), .none, (.ref 278), (.ref 279), (.ref 280), (.int 656 0), (.int 109 0), (.str "/claim/cut.py" 657)]), #[]⟩
noncomputable def o353 : Obj := ⟨(.type "function"), none, (.func (fN 35 none "is_token" "is_token" 3 [] .none .none .none (.str "gluepage.tokens" 569) none (.ref 281) .none 0)), #[]⟩
noncomputable def o354 : Obj := ⟨(.type "tuple"), none, (.seq #[(.int 0 661), (.int 1 662), (.int 2 663), (.int 3 664), (.int 4 665), (.int 5 666)] 0), #[]⟩
noncomputable def o355 : Obj := ⟨(.type "tuple_iterator"), none, (.fields #[.none, (.int 6 0)]), #[]⟩
noncomputable def o356 : Obj := ⟨(.type "tuple"), none, (.seq #[] 0), #[]⟩
noncomputable def o357 : Obj := ⟨(.type "StopIteration"), none, (.fields #[(.ref 285), .none, .none, .none, (.bool false), .none]), #[]⟩
noncomputable def o360 (P : Params) : Obj := ⟨(.type "dict"), none, (.dict #[⟨(PyData.keyHash P "__name__"), (.str "__name__" 165), (.str "gluepage.scan" 659)⟩, ⟨(PyData.keyHash P "__doc__"), (.str "__doc__" 166), .none⟩, ⟨(PyData.keyHash P "__package__"), (.str "__package__" 167), .none⟩, ⟨(PyData.keyHash P "__loader__"), (.str "__loader__" 168), (.builtin "__main__.__loader__#opaque")⟩, ⟨(PyData.keyHash P "__spec__"), (.str "__spec__" 169), .none⟩, ⟨(PyData.keyHash P "__annotations__"), (.str "__annotations__" 170), (.ref 6)⟩, ⟨(PyData.keyHash P "__builtins__"), (.str "__builtins__" 171), (.ref 4)⟩, ⟨(PyData.keyHash P "__file__"), (.str "__file__" 173), (.str "/claim/cut.py" 172)⟩, ⟨(PyData.keyHash P "__cached__"), (.str "__cached__" 174), .none⟩, ⟨(PyData.keyHash P "_wall"), (.str "_wall" 193), (.ref 21)⟩, ⟨(PyData.keyHash P "RELAX"), (.str "RELAX" 201), (.int 0 194)⟩, ⟨(PyData.keyHash P "LEFT_BRACE"), (.str "LEFT_BRACE" 202), (.int 1 195)⟩, ⟨(PyData.keyHash P "RIGHT_BRACE"), (.str "RIGHT_BRACE" 203), (.int 2 196)⟩, ⟨(PyData.keyHash P "MATH_SHIFT"), (.str "MATH_SHIFT" 204), (.int 3 197)⟩, ⟨(PyData.keyHash P "TAB_MARK"), (.str "TAB_MARK" 205), (.int 4 198)⟩, ⟨(PyData.keyHash P "ROW_END"), (.str "ROW_END" 206), (.int 5 199)⟩, ⟨(PyData.keyHash P "PARAMETER_MARK"), (.str "PARAMETER_MARK" 207), (.int 6 200)⟩, ⟨(PyData.keyHash P "SUP_MARK"), (.str "SUP_MARK" 214), (.int 7 208)⟩, ⟨(PyData.keyHash P "SUB_MARK"), (.str "SUB_MARK" 215), (.int 8 209)⟩, ⟨(PyData.keyHash P "END_MARK"), (.str "END_MARK" 216), (.int 9 210)⟩, ⟨(PyData.keyHash P "SPACER"), (.str "SPACER" 217), (.int 10 211)⟩, ⟨(PyData.keyHash P "LETTER_commands"), (.str "LETTER_commands" 218), (.int 11 212)⟩, ⟨(PyData.keyHash P "OTHER_CHAR"), (.str "OTHER_CHAR" 219), (.int 12 213)⟩, ⟨(PyData.keyHash P "NAMED_REGISTER"), (.str "NAMED_REGISTER" 228), (.int 77 220)⟩, ⟨(PyData.keyHash P "ARITHMETIC"), (.str "ARITHMETIC" 229), (.int 78 221)⟩, ⟨(PyData.keyHash P "PREFIX"), (.str "PREFIX" 230), (.int 79 222)⟩, ⟨(PyData.keyHash P "LET"), (.str "LET" 231), (.int 80 223)⟩, ⟨(PyData.keyHash P "SHORTHAND"), (.str "SHORTHAND" 232), (.int 81 224)⟩, ⟨(PyData.keyHash P "DEFINE"), (.str "DEFINE" 233), (.int 82 225)⟩, ⟨(PyData.keyHash P "SET_BOX"), (.str "SET_BOX" 234), (.int 83 226)⟩, ⟨(PyData.keyHash P "HYPHEN_DATA"), (.str "HYPHEN_DATA" 235), (.int 84 227)⟩, ⟨(PyData.keyHash P "SPACE_FACTOR"), (.str "SPACE_FACTOR" 244), (.int 92 236)⟩, ⟨(PyData.keyHash P "PREV_DEPTH"), (.str "PREV_DEPTH" 245), (.int 93 237)⟩, ⟨(PyData.keyHash P "PREV_GRAF"), (.str "PREV_GRAF" 246), (.int 94 238)⟩, ⟨(PyData.keyHash P "PAGE_DIMEN"), (.str "PAGE_DIMEN" 247), (.int 95 239)⟩, ⟨(PyData.keyHash P "PAGE_INT"), (.str "PAGE_INT" 248), (.int 96 240)⟩, ⟨(PyData.keyHash P "THE_FONT"), (.str "THE_FONT" 249), (.int 97 241)⟩, ⟨(PyData.keyHash P "READ_TO"), (.str "READ_TO" 250), (.int 98 242)⟩, ⟨(PyData.keyHash P "END_OF_INPUT"), (.str "END_OF_INPUT" 251), (.int 99 243)⟩, ⟨(PyData.keyHash P "RELAX_VALUE"), (.str "RELAX_VALUE" 257), (.int 256 252)⟩, ⟨(PyData.keyHash P "GUARDED"), (.str "GUARDED" 258), (.int 257 253)⟩, ⟨(PyData.keyHash P "SPAN_CODE"), (.str "SPAN_CODE" 259), (.int 256 254)⟩, ⟨(PyData.keyHash P "CR_CODE"), (.str "CR_CODE" 260), (.int 257 255)⟩, ⟨(PyData.keyHash P "CRCR_CODE"), (.str "CRCR_CODE" 261), (.int 258 256)⟩, ⟨(PyData.keyHash P "PageError"), (.str "PageError" 291), (.ref 59)⟩, ⟨(PyData.keyHash P "BadArgument"), (.str "BadArgument" 307), (.ref 72)⟩, ⟨(PyData.keyHash P "BadNumber"), (.str "BadNumber" 323), (.ref 84)⟩, ⟨(PyData.keyHash P "BadUnit"), (.str "BadUnit" 339), (.ref 96)⟩, ⟨(PyData.keyHash P "Overflow"), (.str "Overflow" 355), (.ref 108)⟩, ⟨(PyData.keyHash P "BadGroup"), (.str "BadGroup" 371), (.ref 120)⟩, ⟨(PyData.keyHash P "UNITY"), (.str "UNITY" 375), (.int 65536 374)⟩, ⟨(PyData.keyHash P "MAX_DIMEN"), (.str "MAX_DIMEN" 381), (.int 1073741823 380)⟩, ⟨(PyData.keyHash P "MAX_NUMBER"), (.str "MAX_NUMBER" 387), (.int 2147483647 386)⟩, ⟨(PyData.keyHash P "NORMAL"), (.str "NORMAL" 392), (.int 0 388)⟩, ⟨(PyData.keyHash P "FIL"), (.str "FIL" 393), (.int 1 389)⟩, ⟨(PyData.keyHash P "FILL"), (.str "FILL" 394), (.int 2 390)⟩, ⟨(PyData.keyHash P "FILLL"), (.str "FILLL" 395), (.int 3 391)⟩, ⟨(PyData.keyHash P "is_whole"), (.str "is_whole" 404), (.ref 133)⟩, ⟨(PyData.keyHash P "check_whole"), (.str "check_whole" 411), (.ref 140)⟩, ⟨(PyData.keyHash P "check_number"), (.str "check_number" 418), (.ref 147)⟩, ⟨(PyData.keyHash P "check_dimen"), (.str "check_dimen" 425), (.ref 154)⟩, ⟨(PyData.keyHash P "rounded"), (.str "rounded" 433), (.ref 161)⟩, ⟨(PyData.keyHash P "reading"), (.str "reading" 441), (.ref 168)⟩, ⟨(PyData.keyHash P "decimal_text"), (.str "decimal_text" 454), (.ref 175)⟩, ⟨(PyData.keyHash P "order_text"), (.str "order_text" 461), (.ref 182)⟩, ⟨(PyData.keyHash P "part_text"), (.str "part_text" 470), (.ref 189)⟩, ⟨(PyData.keyHash P "Glue"), (.str "Glue" 568), (.ref 257)⟩, ⟨(PyData.keyHash P "ESCAPE"), (.str "ESCAPE" 579), (.int 0 571)⟩, ⟨(PyData.keyHash P "BEGIN"), (.str "BEGIN" 580), (.int 1 572)⟩, ⟨(PyData.keyHash P "END"), (.str "END" 581), (.int 2 573)⟩, ⟨(PyData.keyHash P "MATH"), (.str "MATH" 582), (.int 3 574)⟩, ⟨(PyData.keyHash P "TAB"), (.str "TAB" 583), (.int 4 575)⟩, ⟨(PyData.keyHash P "RETURN"), (.str "RETURN" 584), (.int 5 576)⟩, ⟨(PyData.keyHash P "PARAMETER"), (.str "PARAMETER" 585), (.int 6 577)⟩, ⟨(PyData.keyHash P "UP"), (.str "UP" 586), (.int 7 578)⟩, ⟨(PyData.keyHash P "DOWN"), (.str "DOWN" 595), (.int 8 587)⟩, ⟨(PyData.keyHash P "IGNORED"), (.str "IGNORED" 596), (.int 9 588)⟩, ⟨(PyData.keyHash P "SPACE"), (.str "SPACE" 597), (.int 10 589)⟩, ⟨(PyData.keyHash P "LETTER_tokens"), (.str "LETTER_tokens" 598), (.int 11 590)⟩, ⟨(PyData.keyHash P "OTHER"), (.str "OTHER" 599), (.int 12 591)⟩, ⟨(PyData.keyHash P "ACTIVE"), (.str "ACTIVE" 600), (.int 13 592)⟩, ⟨(PyData.keyHash P "COMMENT"), (.str "COMMENT" 601), (.int 14 593)⟩, ⟨(PyData.keyHash P "INVALID"), (.str "INVALID" 602), (.int 15 594)⟩, ⟨(PyData.keyHash P "CONTROL"), (.str "CONTROL" 608), (.int 0 603)⟩, ⟨(PyData.keyHash P "OUT"), (.str "OUT" 609), (.int 5 604)⟩, ⟨(PyData.keyHash P "MATCH"), (.str "MATCH" 610), (.int 9 605)⟩, ⟨(PyData.keyHash P "FROZEN"), (.str "FROZEN" 611), (.int 14 606)⟩, ⟨(PyData.keyHash P "NOT_EXPANDED"), (.str "NOT_EXPANDED" 612), (.int 15 607)⟩, ⟨(PyData.keyHash P "MOST_NAMES"), (.str "MOST_NAMES" 616), (.int 1048576 615)⟩, ⟨(PyData.keyHash P "LEAST_CODES"), (.str "LEAST_CODES" 633), (.ref 274)⟩, ⟨(PyData.keyHash P "GREATEST_CODES"), (.str "GREATEST_CODES" 651), (.ref 275)⟩, ⟨(PyData.keyHash P "is_token"), (.str "is_token" 658), (.ref 282)⟩, ⟨(PyData.keyHash P "NUMBER_SORT"), (.str "NUMBER_SORT" 667), (.int 0 661)⟩, ⟨(PyData.keyHash P "DIMEN_SORT"), (.str "DIMEN_SORT" 668), (.int 1 662)⟩, ⟨(PyData.keyHash P "GLUE_SORT"), (.str "GLUE_SORT" 669), (.int 2 663)⟩, ⟨(PyData.keyHash P "MUGLUE_SORT"), (.str "MUGLUE_SORT" 670), (.int 3 664)⟩, ⟨(PyData.keyHash P "TOKENS_SORT"), (.str "TOKENS_SORT" 671), (.int 4 665)⟩, ⟨(PyData.keyHash P "FONT_SORT"), (.str "FONT_SORT" 672), (.int 5 666)⟩, ⟨(PyData.keyHash P "PLUS"), (.str "PLUS" 678), (.ref 287)⟩, ⟨(PyData.keyHash P "MINUS"), (.str "MINUS" 679), (.ref 288)⟩, ⟨(PyData.keyHash P "EQUALS"), (.str "EQUALS" 680), (.ref 289)⟩, ⟨(PyData.keyHash P "POINT"), (.str "POINT" 681), (.ref 290)⟩, ⟨(PyData.keyHash P "COMMA"), (.str "COMMA" 682), (.ref 291)⟩, ⟨(PyData.keyHash P "BACK_QUOTE"), (.str "BACK_QUOTE" 686), (.ref 296)⟩, ⟨(PyData.keyHash P "OCTAL_MARK"), (.str "OCTAL_MARK" 687), (.ref 297)⟩, ⟨(PyData.keyHash P "HEXADECIMAL_MARK"), (.str "HEXADECIMAL_MARK" 688), (.ref 298)⟩, ⟨(PyData.keyHash P "unread"), (.str "unread" 696), (.ref 309)⟩, ⟨(PyData.keyHash P "skip_blanks"), (.str "skip_blanks" 704), (.ref 316)⟩, ⟨(PyData.keyHash P "skip_filler"), (.str "skip_filler" 712), (.ref 323)⟩, ⟨(PyData.keyHash P "optional_blank"), (.str "optional_blank" 720), (.ref 330)⟩, ⟨(PyData.keyHash P "optional_equals"), (.str "optional_equals" 728), (.ref 337)⟩] 111), #[]⟩
noncomputable def o361 : Obj := ⟨.none, none, (.fields #[(.int 1 0), (.int 0 0), (.ref 20), (.int 10 0), (.int 0 0), (.ref 47), (.int 14 0), (.int 0 0), (.ref 68), (.int 16 0), (.int 0 0), (.ref 80), (.int 18 0), (.int 0 0), (.ref 92), (.int 20 0), (.int 0 0), (.ref 104), (.int 22 0), (.int 0 0), (.ref 116), (.int 29 0), (.int 0 0), (.ref 132), (.int 31 0), (.int 0 0), (.ref 139), (.int 35 0), (.int 0 0), (.ref 146), (.int 39 0), (.int 0 0), (.ref 153), (.int 43 0), (.int 0 0), (.ref 160), (.int 49 0), (.int 0 0), (.ref 167), (.int 51 0), (.int 0 0), (.ref 174), (.int 62 0), (.int 0 0), (.ref 181), (.int 64 0), (.int 0 0), (.ref 188), (.int 66 0), (.int 0 0), (.ref 195), (.int 109 0), (.int 0 0), (.ref 281), (.int 117 0), (.int 0 0), (.ref 308), (.int 120 0), (.int 0 0), (.ref 315), (.int 125 0), (.int 0 0), (.ref 322), (.int 130 0), (.int 0 0), (.ref 329), (.int 134 0), (.int 0 0), (.ref 336)]), #[]⟩
noncomputable def o362 : Obj := ⟨(.type "tuple"), none, (.seq #[(.int 12 591), (.int 43 673)] 0), #[]⟩
noncomputable def o363 : Obj := ⟨(.type "tuple"), none, (.seq #[(.int 12 591), (.int 45 674)] 0), #[]⟩
noncomputable def o364 : Obj := ⟨(.type "tuple"), none, (.seq #[(.int 12 591), (.int 61 675)] 0), #[]⟩
noncomputable def o365 : Obj := ⟨(.type "tuple"), none, (.seq #[(.int 12 591), (.int 46 676)] 0), #[]⟩
noncomputable def o366 : Obj := ⟨(.type "tuple"), none, (.seq #[(.int 12 591), (.int 44 677)] 0), #[]⟩
noncomputable def o367 : Obj := ⟨(.type "tuple"), none, (.seq #[(.ref 287), (.ref 288), (.ref 289), (.ref 290), (.ref 291)] 0), #[]⟩
noncomputable def o368 : Obj := ⟨(.type "tuple_iterator"), none, (.fields #[.none, (.int 5 0)]), #[]⟩
noncomputable def o369 : Obj := ⟨(.type "tuple"), none, (.seq #[] 0), #[]⟩
noncomputable def o370 : Obj := ⟨(.type "StopIteration"), none, (.fields #[(.ref 294), .none, .none, .none, (.bool false), .none]), #[]⟩
noncomputable def o371 : Obj := ⟨(.type "tuple"), none, (.seq #[(.int 12 591), (.int 96 683)] 0), #[]⟩
noncomputable def o372 : Obj := ⟨(.type "tuple"), none, (.seq #[(.int 12 591), (.int 39 684)] 0), #[]⟩
noncomputable def o373 : Obj := ⟨(.type "tuple"), none, (.seq #[(.int 12 591), (.int 34 685)] 0), #[]⟩
noncomputable def o374 : Obj := ⟨(.type "tuple"), none, (.seq #[(.ref 296), (.ref 297), (.ref 298)] 0), #[]⟩
noncomputable def o375 : Obj := ⟨(.type "tuple_iterator"), none, (.fields #[.none, (.int 3 0)]), #[]⟩
noncomputable def o376 : Obj := ⟨(.type "tuple"), none, (.seq #[] 0), #[]⟩
noncomputable def o377 : Obj := ⟨(.type "StopIteration"), none, (.fields #[(.ref 301), .none, .none, .none, (.bool false), .none]), #[]⟩
noncomputable def o378 : Obj := ⟨(.type "tuple"), none, (.seq #[] 0), #[]⟩
noncomputable def o379 : Obj := ⟨.none, none, (.fields #[]), #[]⟩
noncomputable def o380 : Obj := ⟨(.type "tuple"), none, (.seq #[(.str "source" 692), (.str "found" 693)] 0), #[]⟩
noncomputable def o381 : Obj := ⟨(.type "tuple"), none, (.seq #[] 0), #[]⟩
noncomputable def o382 : Obj := ⟨.none, none, (.func (fN 40 none "unread" "unread" 0 [] .none .none .none .none none .none .none 0)), #[]⟩
noncomputable def o383 : Obj := ⟨(.type "code"), none, (.fields #[(.str "unread" 689), (.str "unread" 690), (.str "/claim/cut.py" 691), (.int 117 0), (.int 2 0), (.int 0 0), (.int 0 0), (.int 3 0), (.ref 303), (.bool true), (.int 181 0), (.ref 304), .none, (.ref 305), (.ref 306), (.ref 307), (.int 694 0), (.int 117 0), (.str "/claim/cut.py" 695)]), #[]⟩
noncomputable def o384 : Obj := ⟨(.type "function"), none, (.func (fN 40 none "unread" "unread" 3 [] .none .none .none (.str "gluepage.scan" 659) none (.ref 308) .none 0)), #[]⟩
noncomputable def o385 : Obj := ⟨(.type "tuple"), none, (.seq #[] 0), #[]⟩
noncomputable def o386 : Obj := ⟨.none, none, (.fields #[]), #[]⟩
noncomputable def o387 : Obj := ⟨(.type "tuple"), none, (.seq #[(.str "source" 700), (.str "found" 701)] 0), #[]⟩
noncomputable def o388 : Obj := ⟨(.type "tuple"), none, (.seq #[] 0), #[]⟩
noncomputable def o389 : Obj := ⟨.none, none, (.func (fN 41 none "skip_blanks" "skip_blanks" 0 [] .none .none .none .none none .none .none 0)), #[]⟩
noncomputable def o390 : Obj := ⟨(.type "code"), none, (.fields #[(.str "skip_blanks" 697), (.str "skip_blanks" 698), (.str "/claim/cut.py" 699), (.int 120 0), (.int 1 0), (.int 0 0), (.int 0 0), (.int 3 0), (.ref 310), (.bool true), (.int 181 0), (.ref 311), .none, (.ref 312), (.ref 313), (.ref 314), (.int 702 0), (.int 120 0), (.str "/claim/cut.py" 703)]), #[]⟩
noncomputable def o391 : Obj := ⟨(.type "function"), none, (.func (fN 41 none "skip_blanks" "skip_blanks" 3 [] .none .none .none (.str "gluepage.scan" 659) none (.ref 315) .none 0)), #[]⟩
noncomputable def o392 : Obj := ⟨(.type "tuple"), none, (.seq #[] 0), #[]⟩
noncomputable def o393 : Obj := ⟨.none, none, (.fields #[]), #[]⟩
noncomputable def o394 : Obj := ⟨(.type "tuple"), none, (.seq #[(.str "source" 708), (.str "found" 709)] 0), #[]⟩
noncomputable def o395 : Obj := ⟨(.type "tuple"), none, (.seq #[] 0), #[]⟩
noncomputable def o396 : Obj := ⟨.none, none, (.func (fN 42 none "skip_filler" "skip_filler" 0 [] .none .none .none .none none .none .none 0)), #[]⟩
noncomputable def o397 : Obj := ⟨(.type "code"), none, (.fields #[(.str "skip_filler" 705), (.str "skip_filler" 706), (.str "/claim/cut.py" 707), (.int 125 0), (.int 1 0), (.int 0 0), (.int 0 0), (.int 3 0), (.ref 317), (.bool true), (.int 181 0), (.ref 318), .none, (.ref 319), (.ref 320), (.ref 321), (.int 710 0), (.int 125 0), (.str "/claim/cut.py" 711)]), #[]⟩
noncomputable def o398 : Obj := ⟨(.type "function"), none, (.func (fN 42 none "skip_filler" "skip_filler" 3 [] .none .none .none (.str "gluepage.scan" 659) none (.ref 322) .none 0)), #[]⟩
noncomputable def o399 : Obj := ⟨(.type "tuple"), none, (.seq #[] 0), #[]⟩
noncomputable def o400 : Obj := ⟨.none, none, (.fields #[]), #[]⟩
noncomputable def o401 : Obj := ⟨(.type "tuple"), none, (.seq #[(.str "source" 716), (.str "found" 717)] 0), #[]⟩
noncomputable def o402 : Obj := ⟨(.type "tuple"), none, (.seq #[] 0), #[]⟩
noncomputable def o403 : Obj := ⟨.none, none, (.func (fN 43 none "optional_blank" "optional_blank" 0 [] .none .none .none .none none .none .none 0)), #[]⟩
noncomputable def o404 : Obj := ⟨(.type "code"), none, (.fields #[(.str "optional_blank" 713), (.str "optional_blank" 714), (.str "/claim/cut.py" 715), (.int 130 0), (.int 1 0), (.int 0 0), (.int 0 0), (.int 3 0), (.ref 324), (.bool true), (.int 181 0), (.ref 325), .none, (.ref 326), (.ref 327), (.ref 328), (.int 718 0), (.int 130 0), (.str "/claim/cut.py" 719)]), #[]⟩
noncomputable def o405 : Obj := ⟨(.type "function"), none, (.func (fN 43 none "optional_blank" "optional_blank" 3 [] .none .none .none (.str "gluepage.scan" 659) none (.ref 329) .none 0)), #[]⟩
noncomputable def o406 : Obj := ⟨(.type "tuple"), none, (.seq #[] 0), #[]⟩
noncomputable def o407 : Obj := ⟨.none, none, (.fields #[]), #[]⟩
noncomputable def o408 : Obj := ⟨(.type "tuple"), none, (.seq #[(.str "source" 724), (.str "found" 725)] 0), #[]⟩
noncomputable def o409 : Obj := ⟨(.type "tuple"), none, (.seq #[] 0), #[]⟩
noncomputable def o410 : Obj := ⟨.none, none, (.func (fN 44 none "optional_equals" "optional_equals" 0 [] .none .none .none .none none .none .none 0)), #[]⟩
noncomputable def o411 : Obj := ⟨(.type "code"), none, (.fields #[(.str "optional_equals" 721), (.str "optional_equals" 722), (.str "/claim/cut.py" 723), (.int 134 0), (.int 1 0), (.int 0 0), (.int 0 0), (.int 3 0), (.ref 331), (.bool true), (.int 181 0), (.ref 332), .none, (.ref 333), (.ref 334), (.ref 335), (.int 726 0), (.int 134 0), (.str "/claim/cut.py" 727)]), #[]⟩
noncomputable def o412 : Obj := ⟨(.type "function"), none, (.func (fN 44 none "optional_equals" "optional_equals" 3 [] .none .none .none (.str "gluepage.scan" 659) none (.ref 336) .none 0)), #[]⟩
noncomputable def o417 : Obj := ⟨(.type "tuple"), none, (.seq #[] 0), #[]⟩
noncomputable def o418 : Obj := ⟨.none, none, (.fields #[]), #[]⟩
noncomputable def o419 : Obj := ⟨(.type "tuple"), none, (.seq #[(.str "source" 732), (.str "found" 733)] 0), #[]⟩
noncomputable def o420 : Obj := ⟨(.type "tuple"), none, (.seq #[] 0), #[]⟩
noncomputable def o421 : Obj := ⟨.none, none, (.func (fN 45 none "left_brace" "left_brace" 0 [] .none .none .none .none none .none .none 0)), #[]⟩
noncomputable def o422 : Obj := ⟨(.type "code"), none, (.fields #[(.str "left_brace" 729), (.str "left_brace" 730), (.str "/claim/cut.py" 731), (.int 138 0), (.int 1 0), (.int 0 0), (.int 0 0), (.int 3 0), (.ref 338), (.bool true), (.int 181 0), (.ref 339), .none, (.ref 340), (.ref 341), (.ref 342), (.int 734 0), (.int 138 0), (.str "/claim/cut.py" 735)]), #[]⟩
noncomputable def o423 : Obj := ⟨(.type "function"), none, (.func (fN 45 none "left_brace" "left_brace" 3 [] .none .none .none (.str "gluepage.scan" 659) none (.ref 343) .none 0)), #[]⟩
noncomputable def o424 : Obj := ⟨(.type "tuple"), none, (.seq #[] 0), #[]⟩
noncomputable def o425 : Obj := ⟨.none, none, (.fields #[]), #[]⟩
noncomputable def o426 : Obj := ⟨(.type "tuple"), none, (.seq #[(.str "token" 740), (.str "mark" 741)] 0), #[]⟩
noncomputable def o427 : Obj := ⟨(.type "tuple"), none, (.seq #[] 0), #[]⟩
noncomputable def o428 : Obj := ⟨.none, none, (.func (fN 46 none "spells" "spells" 0 [] .none .none .none .none none .none .none 0)), #[]⟩
noncomputable def o429 : Obj := ⟨(.type "code"), none, (.fields #[(.str "spells" 737), (.str "spells" 738), (.str "/claim/cut.py" 739), (.int 143 0), (.int 2 0), (.int 0 0), (.int 0 0), (.int 3 0), (.ref 345), (.bool true), (.int 181 0), (.ref 346), .none, (.ref 347), (.ref 348), (.ref 349), (.int 742 0), (.int 143 0), (.str "/claim/cut.py" 743)]), #[]⟩
noncomputable def o430 : Obj := ⟨(.type "function"), none, (.func (fN 46 none "spells" "spells" 3 [] .none .none .none (.str "gluepage.scan" 659) none (.ref 350) .none 0)), #[]⟩
noncomputable def o431 : Obj := ⟨(.type "tuple"), none, (.seq #[] 0), #[]⟩
noncomputable def o432 : Obj := ⟨.none, none, (.fields #[]), #[]⟩
noncomputable def o433 : Obj := ⟨(.type "tuple"), none, (.seq #[(.str "source" 748), (.str "word" 749), (.str "held" 750), (.str "found" 751), (.str "token" 752)] 0), #[]⟩
noncomputable def o434 : Obj := ⟨(.type "tuple"), none, (.seq #[] 0), #[]⟩
noncomputable def o435 : Obj := ⟨.none, none, (.func (fN 47 none "keyword" "keyword" 0 [] .none .none .none .none none .none .none 0)), #[]⟩
noncomputable def o436 : Obj := ⟨(.type "code"), none, (.fields #[(.str "keyword" 745), (.str "keyword" 746), (.str "/claim/cut.py" 747), (.int 145 0), (.int 2 0), (.int 0 0), (.int 0 0), (.int 3 0), (.ref 352), (.bool true), (.int 181 0), (.ref 353), .none, (.ref 354), (.ref 355), (.ref 356), (.int 753 0), (.int 145 0), (.str "/claim/cut.py" 754)]), #[]⟩
noncomputable def o437 : Obj := ⟨(.type "function"), none, (.func (fN 47 none "keyword" "keyword" 3 [] .none .none .none (.str "gluepage.scan" 659) none (.ref 357) .none 0)), #[]⟩
noncomputable def o438 : Obj := ⟨(.type "tuple"), none, (.seq #[] 0), #[]⟩
noncomputable def o439 : Obj := ⟨.none, none, (.fields #[]), #[]⟩
noncomputable def o440 : Obj := ⟨(.type "tuple"), none, (.seq #[(.str "source" 759), (.str "is_negative" 760), (.str "found" 761)] 0), #[]⟩
noncomputable def o441 : Obj := ⟨(.type "tuple"), none, (.seq #[] 0), #[]⟩
noncomputable def o442 : Obj := ⟨.none, none, (.func (fN 48 none "signs" "signs" 0 [] .none .none .none .none none .none .none 0)), #[]⟩
noncomputable def o443 : Obj := ⟨(.type "code"), none, (.fields #[(.str "signs" 756), (.str "signs" 757), (.str "/claim/cut.py" 758), (.int 157 0), (.int 1 0), (.int 0 0), (.int 0 0), (.int 3 0), (.ref 359), (.bool true), (.int 181 0), (.ref 360), .none, (.ref 361), (.ref 362), (.ref 363), (.int 762 0), (.int 157 0), (.str "/claim/cut.py" 763)]), #[]⟩
noncomputable def o444 : Obj := ⟨(.type "function"), none, (.func (fN 48 none "signs" "signs" 3 [] .none .none .none (.str "gluepage.scan" 659) none (.ref 364) .none 0)), #[]⟩
noncomputable def o445 : Obj := ⟨(.type "tuple"), none, (.seq #[] 0), #[]⟩
noncomputable def o446 : Obj := ⟨.none, none, (.fields #[]), #[]⟩
noncomputable def o447 : Obj := ⟨(.type "tuple"), none, (.seq #[(.str "sort" 768), (.str "value" 769), (.str "wanted" 770)] 0), #[]⟩
noncomputable def o448 : Obj := ⟨(.type "tuple"), none, (.seq #[] 0), #[]⟩
noncomputable def o449 : Obj := ⟨.none, none, (.func (fN 49 none "lowered" "lowered" 0 [] .none .none .none .none none .none .none 0)), #[]⟩
noncomputable def o450 : Obj := ⟨(.type "code"), none, (.fields #[(.str "lowered" 765), (.str "lowered" 766), (.str "/claim/cut.py" 767), (.int 165 0), (.int 3 0), (.int 0 0), (.int 0 0), (.int 3 0), (.ref 366), (.bool true), (.int 181 0), (.ref 367), .none, (.ref 368), (.ref 369), (.ref 370), (.int 771 0), (.int 165 0), (.str "/claim/cut.py" 772)]), #[]⟩
noncomputable def o451 : Obj := ⟨(.type "function"), none, (.func (fN 49 none "lowered" "lowered" 3 [] .none .none .none (.str "gluepage.scan" 659) none (.ref 371) .none 0)), #[]⟩
noncomputable def o452 : Obj := ⟨(.type "tuple"), none, (.seq #[] 0), #[]⟩
noncomputable def o453 : Obj := ⟨.none, none, (.fields #[]), #[]⟩
noncomputable def o454 : Obj := ⟨(.type "tuple"), none, (.seq #[(.str "token" 777), (.str "base" 778), (.str "category" 779), (.str "code" 780)] 0), #[]⟩
noncomputable def o455 : Obj := ⟨(.type "tuple"), none, (.seq #[] 0), #[]⟩
noncomputable def o456 : Obj := ⟨.none, none, (.func (fN 50 none "digit_of" "digit_of" 0 [] .none .none .none .none none .none .none 0)), #[]⟩
noncomputable def o457 : Obj := ⟨(.type "code"), none, (.fields #[(.str "digit_of" 774), (.str "digit_of" 775), (.str "/claim/cut.py" 776), (.int 177 0), (.int 2 0), (.int 0 0), (.int 0 0), (.int 3 0), (.ref 373), (.bool true), (.int 181 0), (.ref 374), .none, (.ref 375), (.ref 376), (.ref 377), (.int 781 0), (.int 177 0), (.str "/claim/cut.py" 782)]), #[]⟩
noncomputable def o458 : Obj := ⟨(.type "function"), none, (.func (fN 50 none "digit_of" "digit_of" 3 [] .none .none .none (.str "gluepage.scan" 659) none (.ref 378) .none 0)), #[]⟩
noncomputable def o459 : Obj := ⟨(.type "tuple"), none, (.seq #[] 0), #[]⟩
noncomputable def o460 : Obj := ⟨.none, none, (.fields #[]), #[]⟩
noncomputable def o461 : Obj := ⟨(.type "tuple"), none, (.seq #[(.str "source" 787), (.str "token" 788), (.str "category" 789), (.str "code" 790), (.str "name" 791)] 0), #[]⟩
noncomputable def o462 : Obj := ⟨(.type "tuple"), none, (.seq #[] 0), #[]⟩
noncomputable def o463 : Obj := ⟨.none, none, (.func (fN 51 none "character_code" "character_code" 0 [] .none .none .none .none none .none .none 0)), #[]⟩
noncomputable def o464 : Obj := ⟨(.type "code"), none, (.fields #[(.str "character_code" 784), (.str "character_code" 785), (.str "/claim/cut.py" 786), (.int 186 0), (.int 1 0), (.int 0 0), (.int 0 0), (.int 3 0), (.ref 380), (.bool true), (.int 181 0), (.ref 381), .none, (.ref 382), (.ref 383), (.ref 384), (.int 792 0), (.int 186 0), (.str "/claim/cut.py" 793)]), #[]⟩
noncomputable def o465 : Obj := ⟨(.type "function"), none, (.func (fN 51 none "character_code" "character_code" 3 [] .none .none .none (.str "gluepage.scan" 659) none (.ref 385) .none 0)), #[]⟩
noncomputable def o466 : Obj := ⟨(.type "tuple"), none, (.seq #[] 0), #[]⟩
noncomputable def o467 : Obj := ⟨.none, none, (.fields #[]), #[]⟩
noncomputable def o468 : Obj := ⟨(.type "tuple"), none, (.seq #[(.str "source" 798), (.str "found" 799), (.str "base" 800), (.str "digit" 801), (.str "value" 802)] 0), #[]⟩
noncomputable def o469 : Obj := ⟨(.type "tuple"), none, (.seq #[] 0), #[]⟩
noncomputable def o470 : Obj := ⟨.none, none, (.func (fN 52 none "written_number" "written_number" 0 [] .none .none .none .none none .none .none 0)), #[]⟩
noncomputable def o471 : Obj := ⟨(.type "code"), none, (.fields #[(.str "written_number" 795), (.str "written_number" 796), (.str "/claim/cut.py" 797), (.int 202 0), (.int 2 0), (.int 0 0), (.int 0 0), (.int 3 0), (.ref 387), (.bool true), (.int 181 0), (.ref 388), .none, (.ref 389), (.ref 390), (.ref 391), (.int 803 0), (.int 202 0), (.str "/claim/cut.py" 804)]), #[]⟩
noncomputable def o472 : Obj := ⟨(.type "function"), none, (.func (fN 52 none "written_number" "written_number" 3 [] .none .none .none (.str "gluepage.scan" 659) none (.ref 392) .none 0)), #[]⟩
noncomputable def o473 : Obj := ⟨(.type "tuple"), none, (.seq #[] 0), #[]⟩
noncomputable def o474 : Obj := ⟨.none, none, (.fields #[]), #[]⟩
noncomputable def o475 : Obj := ⟨(.type "tuple"), none, (.seq #[(.str "source" 809), (.str "found" 810), (.str "is_negative" 811), (.str "value" 812), (.str "base" 813), (.str "behind" 814), (.str "inner" 815)] 0), #[]⟩
noncomputable def o476 : Obj := ⟨(.type "tuple"), none, (.seq #[] 0), #[]⟩
noncomputable def o477 : Obj := ⟨.none, none, (.func (fN 53 none "number_parts" "number_parts" 0 [] .none .none .none .none none .none .none 0)), #[]⟩
noncomputable def o478 : Obj := ⟨(.type "code"), none, (.fields #[(.str "number_parts" 806), (.str "number_parts" 807), (.str "/claim/cut.py" 808), (.int 221 0), (.int 1 0), (.int 0 0), (.int 0 0), (.int 3 0), (.ref 394), (.bool true), (.int 181 0), (.ref 395), .none, (.ref 396), (.ref 397), (.ref 398), (.int 816 0), (.int 221 0), (.str "/claim/cut.py" 817)]), #[]⟩
noncomputable def o479 : Obj := ⟨(.type "function"), none, (.func (fN 53 none "number_parts" "number_parts" 3 [] .none .none .none (.str "gluepage.scan" 659) none (.ref 399) .none 0)), #[]⟩
noncomputable def o480 : Obj := ⟨(.type "tuple"), none, (.seq #[] 0), #[]⟩
noncomputable def o481 : Obj := ⟨.none, none, (.fields #[]), #[]⟩
noncomputable def o482 : Obj := ⟨(.type "tuple"), none, (.seq #[(.str "source" 822), (.str "value" 823), (.str "base" 824), (.str "behind" 825)] 0), #[]⟩
noncomputable def o483 : Obj := ⟨(.type "tuple"), none, (.seq #[] 0), #[]⟩
noncomputable def o484 : Obj := ⟨.none, none, (.func (fN 54 none "number" "number" 0 [] .none .none .none .none none .none .none 0)), #[]⟩
noncomputable def o485 : Obj := ⟨(.type "code"), none, (.fields #[(.str "number" 819), (.str "number" 820), (.str "/claim/cut.py" 821), (.int 232 0), (.int 1 0), (.int 0 0), (.int 0 0), (.int 3 0), (.ref 401), (.bool true), (.int 181 0), (.ref 402), .none, (.ref 403), (.ref 404), (.ref 405), (.int 826 0), (.int 232 0), (.str "/claim/cut.py" 827)]), #[]⟩
noncomputable def o486 : Obj := ⟨(.type "function"), none, (.func (fN 54 none "number" "number" 3 [] .none .none .none (.str "gluepage.scan" 659) none (.ref 406) .none 0)), #[]⟩
noncomputable def o487 : Obj := ⟨(.type "tuple"), none, (.seq #[] 0), #[]⟩
noncomputable def o488 : Obj := ⟨.none, none, (.fields #[]), #[]⟩
noncomputable def o489 : Obj := ⟨(.type "tuple"), none, (.seq #[(.str "source" 832), (.str "top" 833), (.str "value" 834)] 0), #[]⟩
noncomputable def o490 : Obj := ⟨(.type "tuple"), none, (.seq #[] 0), #[]⟩
noncomputable def o491 : Obj := ⟨.none, none, (.func (fN 55 none "small" "small" 0 [] .none .none .none .none none .none .none 0)), #[]⟩
noncomputable def o492 : Obj := ⟨(.type "code"), none, (.fields #[(.str "small" 829), (.str "small" 830), (.str "/claim/cut.py" 831), (.int 237 0), (.int 2 0), (.int 0 0), (.int 0 0), (.int 3 0), (.ref 408), (.bool true), (.int 181 0), (.ref 409), .none, (.ref 410), (.ref 411), (.ref 412), (.int 835 0), (.int 237 0), (.str "/claim/cut.py" 836)]), #[]⟩
noncomputable def o493 : Obj := ⟨(.type "function"), none, (.func (fN 55 none "small" "small" 3 [] .none .none .none (.str "gluepage.scan" 659) none (.ref 413) .none 0)), #[]⟩
noncomputable def o494 : Obj := ⟨(.type "tuple"), none, (.seq #[] 0), #[]⟩
noncomputable def o495 : Obj := ⟨.none, none, (.fields #[]), #[]⟩
noncomputable def o496 : Obj := ⟨(.type "tuple"), none, (.seq #[(.str "found" 841), (.str "sort" 842), (.str "value" 843)] 0), #[]⟩
noncomputable def o497 : Obj := ⟨(.type "tuple"), none, (.seq #[] 0), #[]⟩
noncomputable def o498 : Obj := ⟨.none, none, (.func (fN 56 none "check_inner" "check_inner" 0 [] .none .none .none .none none .none .none 0)), #[]⟩
noncomputable def o499 : Obj := ⟨(.type "code"), none, (.fields #[(.str "check_inner" 838), (.str "check_inner" 839), (.str "/claim/cut.py" 840), (.int 242 0), (.int 1 0), (.int 0 0), (.int 0 0), (.int 3 0), (.ref 415), (.bool true), (.int 181 0), (.ref 416), .none, (.ref 417), (.ref 418), (.ref 419), (.int 844 0), (.int 242 0), (.str "/claim/cut.py" 845)]), #[]⟩
noncomputable def o500 : Obj := ⟨(.type "function"), none, (.func (fN 56 none "check_inner" "check_inner" 3 [] .none .none .none (.str "gluepage.scan" 659) none (.ref 420) .none 0)), #[]⟩
noncomputable def o501 (P : Params) : Obj := ⟨(.type "dict"), none, (.dict #[⟨(PyData.keyHash P "__name__"), (.str "__name__" 165), (.str "gluepage.scan" 659)⟩, ⟨(PyData.keyHash P "__doc__"), (.str "__doc__" 166), .none⟩, ⟨(PyData.keyHash P "__package__"), (.str "__package__" 167), .none⟩, ⟨(PyData.keyHash P "__loader__"), (.str "__loader__" 168), (.builtin "__main__.__loader__#opaque")⟩, ⟨(PyData.keyHash P "__spec__"), (.str "__spec__" 169), .none⟩, ⟨(PyData.keyHash P "__annotations__"), (.str "__annotations__" 170), (.ref 6)⟩, ⟨(PyData.keyHash P "__builtins__"), (.str "__builtins__" 171), (.ref 4)⟩, ⟨(PyData.keyHash P "__file__"), (.str "__file__" 173), (.str "/claim/cut.py" 172)⟩, ⟨(PyData.keyHash P "__cached__"), (.str "__cached__" 174), .none⟩, ⟨(PyData.keyHash P "_wall"), (.str "_wall" 193), (.ref 21)⟩, ⟨(PyData.keyHash P "RELAX"), (.str "RELAX" 201), (.int 0 194)⟩, ⟨(PyData.keyHash P "LEFT_BRACE"), (.str "LEFT_BRACE" 202), (.int 1 195)⟩, ⟨(PyData.keyHash P "RIGHT_BRACE"), (.str "RIGHT_BRACE" 203), (.int 2 196)⟩, ⟨(PyData.keyHash P "MATH_SHIFT"), (.str "MATH_SHIFT" 204), (.int 3 197)⟩, ⟨(PyData.keyHash P "TAB_MARK"), (.str "TAB_MARK" 205), (.int 4 198)⟩, ⟨(PyData.keyHash P "ROW_END"), (.str "ROW_END" 206), (.int 5 199)⟩, ⟨(PyData.keyHash P "PARAMETER_MARK"), (.str "PARAMETER_MARK" 207), (.int 6 200)⟩, ⟨(PyData.keyHash P "SUP_MARK"), (.str "SUP_MARK" 214), (.int 7 208)⟩, ⟨(PyData.keyHash P "SUB_MARK"), (.str "SUB_MARK" 215), (.int 8 209)⟩, ⟨(PyData.keyHash P "END_MARK"), (.str "END_MARK" 216), (.int 9 210)⟩, ⟨(PyData.keyHash P "SPACER"), (.str "SPACER" 217), (.int 10 211)⟩, ⟨(PyData.keyHash P "LETTER_commands"), (.str "LETTER_commands" 218), (.int 11 212)⟩, ⟨(PyData.keyHash P "OTHER_CHAR"), (.str "OTHER_CHAR" 219), (.int 12 213)⟩, ⟨(PyData.keyHash P "NAMED_REGISTER"), (.str "NAMED_REGISTER" 228), (.int 77 220)⟩, ⟨(PyData.keyHash P "ARITHMETIC"), (.str "ARITHMETIC" 229), (.int 78 221)⟩, ⟨(PyData.keyHash P "PREFIX"), (.str "PREFIX" 230), (.int 79 222)⟩, ⟨(PyData.keyHash P "LET"), (.str "LET" 231), (.int 80 223)⟩, ⟨(PyData.keyHash P "SHORTHAND"), (.str "SHORTHAND" 232), (.int 81 224)⟩, ⟨(PyData.keyHash P "DEFINE"), (.str "DEFINE" 233), (.int 82 225)⟩, ⟨(PyData.keyHash P "SET_BOX"), (.str "SET_BOX" 234), (.int 83 226)⟩, ⟨(PyData.keyHash P "HYPHEN_DATA"), (.str "HYPHEN_DATA" 235), (.int 84 227)⟩, ⟨(PyData.keyHash P "SPACE_FACTOR"), (.str "SPACE_FACTOR" 244), (.int 92 236)⟩, ⟨(PyData.keyHash P "PREV_DEPTH"), (.str "PREV_DEPTH" 245), (.int 93 237)⟩, ⟨(PyData.keyHash P "PREV_GRAF"), (.str "PREV_GRAF" 246), (.int 94 238)⟩, ⟨(PyData.keyHash P "PAGE_DIMEN"), (.str "PAGE_DIMEN" 247), (.int 95 239)⟩, ⟨(PyData.keyHash P "PAGE_INT"), (.str "PAGE_INT" 248), (.int 96 240)⟩, ⟨(PyData.keyHash P "THE_FONT"), (.str "THE_FONT" 249), (.int 97 241)⟩, ⟨(PyData.keyHash P "READ_TO"), (.str "READ_TO" 250), (.int 98 242)⟩, ⟨(PyData.keyHash P "END_OF_INPUT"), (.str "END_OF_INPUT" 251), (.int 99 243)⟩, ⟨(PyData.keyHash P "RELAX_VALUE"), (.str "RELAX_VALUE" 257), (.int 256 252)⟩, ⟨(PyData.keyHash P "GUARDED"), (.str "GUARDED" 258), (.int 257 253)⟩, ⟨(PyData.keyHash P "SPAN_CODE"), (.str "SPAN_CODE" 259), (.int 256 254)⟩, ⟨(PyData.keyHash P "CR_CODE"), (.str "CR_CODE" 260), (.int 257 255)⟩, ⟨(PyData.keyHash P "CRCR_CODE"), (.str "CRCR_CODE" 261), (.int 258 256)⟩, ⟨(PyData.keyHash P "PageError"), (.str "PageError" 291), (.ref 59)⟩, ⟨(PyData.keyHash P "BadArgument"), (.str "BadArgument" 307), (.ref 72)⟩, ⟨(PyData.keyHash P "BadNumber"), (.str "BadNumber" 323), (.ref 84)⟩, ⟨(PyData.keyHash P "BadUnit"), (.str "BadUnit" 339), (.ref 96)⟩, ⟨(PyData.keyHash P "Overflow"), (.str "Overflow" 355), (.ref 108)⟩, ⟨(PyData.keyHash P "BadGroup"), (.str "BadGroup" 371), (.ref 120)⟩, ⟨(PyData.keyHash P "UNITY"), (.str "UNITY" 375), (.int 65536 374)⟩, ⟨(PyData.keyHash P "MAX_DIMEN"), (.str "MAX_DIMEN" 381), (.int 1073741823 380)⟩, ⟨(PyData.keyHash P "MAX_NUMBER"), (.str "MAX_NUMBER" 387), (.int 2147483647 386)⟩, ⟨(PyData.keyHash P "NORMAL"), (.str "NORMAL" 392), (.int 0 388)⟩, ⟨(PyData.keyHash P "FIL"), (.str "FIL" 393), (.int 1 389)⟩, ⟨(PyData.keyHash P "FILL"), (.str "FILL" 394), (.int 2 390)⟩, ⟨(PyData.keyHash P "FILLL"), (.str "FILLL" 395), (.int 3 391)⟩, ⟨(PyData.keyHash P "is_whole"), (.str "is_whole" 404), (.ref 133)⟩, ⟨(PyData.keyHash P "check_whole"), (.str "check_whole" 411), (.ref 140)⟩, ⟨(PyData.keyHash P "check_number"), (.str "check_number" 418), (.ref 147)⟩, ⟨(PyData.keyHash P "check_dimen"), (.str "check_dimen" 425), (.ref 154)⟩, ⟨(PyData.keyHash P "rounded"), (.str "rounded" 433), (.ref 161)⟩, ⟨(PyData.keyHash P "reading"), (.str "reading" 441), (.ref 168)⟩, ⟨(PyData.keyHash P "decimal_text"), (.str "decimal_text" 454), (.ref 175)⟩, ⟨(PyData.keyHash P "order_text"), (.str "order_text" 461), (.ref 182)⟩, ⟨(PyData.keyHash P "part_text"), (.str "part_text" 470), (.ref 189)⟩, ⟨(PyData.keyHash P "Glue"), (.str "Glue" 568), (.ref 257)⟩, ⟨(PyData.keyHash P "ESCAPE"), (.str "ESCAPE" 579), (.int 0 571)⟩, ⟨(PyData.keyHash P "BEGIN"), (.str "BEGIN" 580), (.int 1 572)⟩, ⟨(PyData.keyHash P "END"), (.str "END" 581), (.int 2 573)⟩, ⟨(PyData.keyHash P "MATH"), (.str "MATH" 582), (.int 3 574)⟩, ⟨(PyData.keyHash P "TAB"), (.str "TAB" 583), (.int 4 575)⟩, ⟨(PyData.keyHash P "RETURN"), (.str "RETURN" 584), (.int 5 576)⟩, ⟨(PyData.keyHash P "PARAMETER"), (.str "PARAMETER" 585), (.int 6 577)⟩, ⟨(PyData.keyHash P "UP"), (.str "UP" 586), (.int 7 578)⟩, ⟨(PyData.keyHash P "DOWN"), (.str "DOWN" 595), (.int 8 587)⟩, ⟨(PyData.keyHash P "IGNORED"), (.str "IGNORED" 596), (.int 9 588)⟩, ⟨(PyData.keyHash P "SPACE"), (.str "SPACE" 597), (.int 10 589)⟩, ⟨(PyData.keyHash P "LETTER_tokens"), (.str "LETTER_tokens" 598), (.int 11 590)⟩, ⟨(PyData.keyHash P "OTHER"), (.str "OTHER" 599), (.int 12 591)⟩, ⟨(PyData.keyHash P "ACTIVE"), (.str "ACTIVE" 600), (.int 13 592)⟩, ⟨(PyData.keyHash P "COMMENT"), (.str "COMMENT" 601), (.int 14 593)⟩, ⟨(PyData.keyHash P "INVALID"), (.str "INVALID" 602), (.int 15 594)⟩, ⟨(PyData.keyHash P "CONTROL"), (.str "CONTROL" 608), (.int 0 603)⟩, ⟨(PyData.keyHash P "OUT"), (.str "OUT" 609), (.int 5 604)⟩, ⟨(PyData.keyHash P "MATCH"), (.str "MATCH" 610), (.int 9 605)⟩, ⟨(PyData.keyHash P "FROZEN"), (.str "FROZEN" 611), (.int 14 606)⟩, ⟨(PyData.keyHash P "NOT_EXPANDED"), (.str "NOT_EXPANDED" 612), (.int 15 607)⟩, ⟨(PyData.keyHash P "MOST_NAMES"), (.str "MOST_NAMES" 616), (.int 1048576 615)⟩, ⟨(PyData.keyHash P "LEAST_CODES"), (.str "LEAST_CODES" 633), (.ref 274)⟩, ⟨(PyData.keyHash P "GREATEST_CODES"), (.str "GREATEST_CODES" 651), (.ref 275)⟩, ⟨(PyData.keyHash P "is_token"), (.str "is_token" 658), (.ref 282)⟩, ⟨(PyData.keyHash P "NUMBER_SORT"), (.str "NUMBER_SORT" 667), (.int 0 661)⟩, ⟨(PyData.keyHash P "DIMEN_SORT"), (.str "DIMEN_SORT" 668), (.int 1 662)⟩, ⟨(PyData.keyHash P "GLUE_SORT"), (.str "GLUE_SORT" 669), (.int 2 663)⟩, ⟨(PyData.keyHash P "MUGLUE_SORT"), (.str "MUGLUE_SORT" 670), (.int 3 664)⟩, ⟨(PyData.keyHash P "TOKENS_SORT"), (.str "TOKENS_SORT" 671), (.int 4 665)⟩, ⟨(PyData.keyHash P "FONT_SORT"), (.str "FONT_SORT" 672), (.int 5 666)⟩, ⟨(PyData.keyHash P "PLUS"), (.str "PLUS" 678), (.ref 287)⟩, ⟨(PyData.keyHash P "MINUS"), (.str "MINUS" 679), (.ref 288)⟩, ⟨(PyData.keyHash P "EQUALS"), (.str "EQUALS" 680), (.ref 289)⟩, ⟨(PyData.keyHash P "POINT"), (.str "POINT" 681), (.ref 290)⟩, ⟨(PyData.keyHash P "COMMA"), (.str "COMMA" 682), (.ref 291)⟩, ⟨(PyData.keyHash P "BACK_QUOTE"), (.str "BACK_QUOTE" 686), (.ref 296)⟩, ⟨(PyData.keyHash P "OCTAL_MARK"), (.str "OCTAL_MARK" 687), (.ref 297)⟩, ⟨(PyData.keyHash P "HEXADECIMAL_MARK"), (.str "HEXADECIMAL_MARK" 688), (.ref 298)⟩, ⟨(PyData.keyHash P "unread"), (.str "unread" 696), (.ref 309)⟩, ⟨(PyData.keyHash P "skip_blanks"), (.str "skip_blanks" 704), (.ref 316)⟩, ⟨(PyData.keyHash P "skip_filler"), (.str "skip_filler" 712), (.ref 323)⟩, ⟨(PyData.keyHash P "optional_blank"), (.str "optional_blank" 720), (.ref 330)⟩, ⟨(PyData.keyHash P "optional_equals"), (.str "optional_equals" 728), (.ref 337)⟩, ⟨(PyData.keyHash P "left_brace"), (.str "left_brace" 736), (.ref 344)⟩, ⟨(PyData.keyHash P "spells"), (.str "spells" 744), (.ref 351)⟩, ⟨(PyData.keyHash P "keyword"), (.str "keyword" 755), (.ref 358)⟩, ⟨(PyData.keyHash P "signs"), (.str "signs" 764), (.ref 365)⟩, ⟨(PyData.keyHash P "lowered"), (.str "lowered" 773), (.ref 372)⟩, ⟨(PyData.keyHash P "digit_of"), (.str "digit_of" 783), (.ref 379)⟩, ⟨(PyData.keyHash P "character_code"), (.str "character_code" 794), (.ref 386)⟩, ⟨(PyData.keyHash P "written_number"), (.str "written_number" 805), (.ref 393)⟩, ⟨(PyData.keyHash P "number_parts"), (.str "number_parts" 818), (.ref 400)⟩, ⟨(PyData.keyHash P "number"), (.str "number" 828), (.ref 407)⟩, ⟨(PyData.keyHash P "small"), (.str "small" 837), (.ref 414)⟩, ⟨(PyData.keyHash P "check_inner"), (.str "check_inner" 846), (.ref 421)⟩, ⟨(PyData.keyHash P "PlainSource"), (.str "PlainSource" 936), (.ref 481)⟩] 124), #[]⟩
noncomputable def o502 : Obj := ⟨.none, none, (.fields #[(.int 1 0), (.int 0 0), (.ref 20), (.int 10 0), (.int 0 0), (.ref 47), (.int 14 0), (.int 0 0), (.ref 68), (.int 16 0), (.int 0 0), (.ref 80), (.int 18 0), (.int 0 0), (.ref 92), (.int 20 0), (.int 0 0), (.ref 104), (.int 22 0), (.int 0 0), (.ref 116), (.int 29 0), (.int 0 0), (.ref 132), (.int 31 0), (.int 0 0), (.ref 139), (.int 35 0), (.int 0 0), (.ref 146), (.int 39 0), (.int 0 0), (.ref 153), (.int 43 0), (.int 0 0), (.ref 160), (.int 49 0), (.int 0 0), (.ref 167), (.int 51 0), (.int 0 0), (.ref 174), (.int 62 0), (.int 0 0), (.ref 181), (.int 64 0), (.int 0 0), (.ref 188), (.int 66 0), (.int 0 0), (.ref 195), (.int 109 0), (.int 0 0), (.ref 281), (.int 117 0), (.int 0 0), (.ref 308), (.int 120 0), (.int 0 0), (.ref 315), (.int 125 0), (.int 0 0), (.ref 322), (.int 130 0), (.int 0 0), (.ref 329), (.int 134 0), (.int 0 0), (.ref 336), (.int 138 0), (.int 0 0), (.ref 343), (.int 143 0), (.int 0 0), (.ref 350), (.int 145 0), (.int 0 0), (.ref 357), (.int 157 0), (.int 0 0), (.ref 364), (.int 165 0), (.int 0 0), (.ref 371), (.int 177 0), (.int 0 0), (.ref 378), (.int 186 0), (.int 0 0), (.ref 385), (.int 202 0), (.int 0 0), (.ref 392), (.int 221 0), (.int 0 0), (.ref 399), (.int 232 0), (.int 0 0), (.ref 406), (.int 237 0), (.int 0 0), (.ref 413), (.int 242 0), (.int 0 0), (.ref 420), (.int 252 0), (.int 0 0), (.ref 427)]), #[]⟩
noncomputable def o503 : Obj := ⟨(.type "tuple"), none, (.seq #[] 0), #[]⟩
noncomputable def o504 : Obj := ⟨(.type "builtin_function_or_method"), none, (.fields #[(.builtin "type.__prepare__"), (.type "type")]), #[]⟩
noncomputable def o505 (P : Params) : Obj := ⟨(.type "dict"), none, (.dict #[⟨(PyData.keyHash P "__module__"), (.str "__module__" 854), (.str "gluepage.scan" 659)⟩, ⟨(PyData.keyHash P "__qualname__"), (.str "__qualname__" 856), (.str "PlainSource" 855)⟩, ⟨(PyData.keyHash P "__firstlineno__"), (.str "__firstlineno__" 858), (.int 252 857)⟩, ⟨(PyData.keyHash P "__init__"), (.str "__init__" 874), (.ref 436)⟩, ⟨(PyData.keyHash P "read"), (.str "read" 884), (.ref 443)⟩, ⟨(PyData.keyHash P "read_expanded"), (.str "read_expanded" 891), (.ref 450)⟩, ⟨(PyData.keyHash P "back"), (.str "back" 899), (.ref 457)⟩, ⟨(PyData.keyHash P "left"), (.str "left" 906), (.ref 464)⟩, ⟨(PyData.keyHash P "quantity"), (.str "quantity" 915), (.ref 471)⟩, ⟨(PyData.keyHash P "font_size"), (.str "font_size" 923), (.ref 478)⟩, ⟨(PyData.keyHash P "__static_attributes__"), (.str "__static_attributes__" 929), (.ref 479)⟩] 11), #[]⟩
noncomputable def o506 : Obj := ⟨(.type "tuple"), none, (.seq #[] 0), #[]⟩
noncomputable def o507 : Obj := ⟨.none, none, (.fields #[(.int 254 0), (.int 4 0), (.ref 435), (.int 266 0), (.int 4 0), (.ref 442), (.int 281 0), (.int 4 0), (.ref 449), (.int 284 0), (.int 4 0), (.ref 456), (.int 293 0), (.int 4 0), (.ref 463), (.int 296 0), (.int 4 0), (.ref 470), (.int 301 0), (.int 4 0), (.ref 477)]), #[]⟩
noncomputable def o508 : Obj := ⟨(.type "code"), none, (.fields #[(.str "PlainSource" 849), (.str "PlainSource" 850), (.str "/claim/cut.py" 851), (.int 252 0), (.int 0 0), (.int 0 0), (.int 0 0), (.int 0 0), (.ref 425), (.bool false), (.int 181 0), (.ref 426), .none, .none, .none, .none, (.int 852 0), (.int 252 0), (.str "/claim/cut.py" 853)]), #[]⟩
noncomputable def o509 : Obj := ⟨(.type "frame"), none, .plain, #[(some (.ref 427)), (some (.ref 3)), (some (.ref 424)), none, (some (.str "gluepage.scan" 659)), none, (some (.ref 0))]⟩
noncomputable def o510 : Obj := ⟨(.type "tuple"), none, (.seq #[.none, .none, (.int 0 859), (.int 0 860)] 0), #[]⟩
noncomputable def o511 : Obj := ⟨(.type "tuple"), none, (.seq #[] 0), #[]⟩
noncomputable def o512 : Obj := ⟨.none, none, (.fields #[]), #[]⟩
noncomputable def o513 : Obj := ⟨(.type "tuple"), none, (.seq #[(.str "self" 864), (.str "tokens" 865), (.str "inner" 866), (.str "names" 867), (.str "ex" 868), (.str "em" 869), (.str "token" 870), (.str "number_of_word" 871)] 0), #[]⟩
noncomputable def o514 : Obj := ⟨(.type "tuple"), none, (.seq #[] 0), #[]⟩
noncomputable def o515 : Obj := ⟨.none, none, (.func (fN 57 (some 0) "__init__" "PlainSource.__init__" 0 [] .none .none .none .none none .none .none 0)), #[]⟩
noncomputable def o516 : Obj := ⟨(.type "code"), none, (.fields #[(.str "__init__" 861), (.str "PlainSource.__init__" 862), (.str "/claim/cut.py" 863), (.int 254 0), (.int 6 0), (.int 0 0), (.int 0 0), (.int 3 0), (.ref 430), (.bool true), (.int 181 0), (.ref 431), .none, (.ref 432), (.ref 433), (.ref 434), (.int 872 0), (.int 254 0), (.str "/claim/cut.py" 873)]), #[]⟩
noncomputable def o517 : Obj := ⟨(.type "function"), none, (.func (fN 57 (some 0) "__init__" "PlainSource.__init__" 3 [] (.ref 429) .none .none (.str "gluepage.scan" 659) none (.ref 435) .none 0)), #[]⟩
noncomputable def o518 : Obj := ⟨(.type "tuple"), none, (.seq #[] 0), #[]⟩
noncomputable def o519 : Obj := ⟨.none, none, (.fields #[]), #[]⟩
noncomputable def o520 : Obj := ⟨(.type "tuple"), none, (.seq #[(.str "self" 878), (.str "token" 879), (.str "category" 880), (.str "code" 881)] 0), #[]⟩
noncomputable def o521 : Obj := ⟨(.type "tuple"), none, (.seq #[] 0), #[]⟩
noncomputable def o522 : Obj := ⟨.none, none, (.func (fN 57 (some 1) "read" "PlainSource.read" 0 [] .none .none .none .none none .none .none 0)), #[]⟩
noncomputable def o523 : Obj := ⟨(.type "code"), none, (.fields #[(.str "read" 875), (.str "PlainSource.read" 876), (.str "/claim/cut.py" 877), (.int 266 0), (.int 1 0), (.int 0 0), (.int 0 0), (.int 3 0), (.ref 437), (.bool true), (.int 181 0), (.ref 438), .none, (.ref 439), (.ref 440), (.ref 441), (.int 882 0), (.int 266 0), (.str "/claim/cut.py" 883)]), #[]⟩
noncomputable def o524 : Obj := ⟨(.type "function"), none, (.func (fN 57 (some 1) "read" "PlainSource.read" 3 [] .none .none .none (.str "gluepage.scan" 659) none (.ref 442) .none 0)), #[]⟩
noncomputable def o525 : Obj := ⟨(.type "tuple"), none, (.seq #[] 0), #[]⟩
noncomputable def o526 : Obj := ⟨.none, none, (.fields #[]), #[]⟩
noncomputable def o527 : Obj := ⟨(.type "tuple"), none, (.seq #[(.str "self" 888)] 0), #[]⟩
noncomputable def o528 : Obj := ⟨(.type "tuple"), none, (.seq #[] 0), #[]⟩
noncomputable def o529 : Obj := ⟨.none, none, (.func (fN 57 (some 2) "read_expanded" "PlainSource.read_expanded" 0 [] .none .none .none .none none .none .none 0)), #[]⟩
noncomputable def o530 : Obj := ⟨(.type "code"), none, (.fields #[(.str "read_expanded" 885), (.str "PlainSource.read_expanded" 886), (.str "/claim/cut.py" 887), (.int 281 0), (.int 1 0), (.int 0 0), (.int 0 0), (.int 3 0), (.ref 444), (.bool true), (.int 181 0), (.ref 445), .none, (.ref 446), (.ref 447), (.ref 448), (.int 889 0), (.int 281 0), (.str "/claim/cut.py" 890)]), #[]⟩
noncomputable def o531 : Obj := ⟨(.type "function"), none, (.func (fN 57 (some 2) "read_expanded" "PlainSource.read_expanded" 3 [] .none .none .none (.str "gluepage.scan" 659) none (.ref 449) .none 0)), #[]⟩
noncomputable def o532 : Obj := ⟨(.type "tuple"), none, (.seq #[] 0), #[]⟩
noncomputable def o533 : Obj := ⟨.none, none, (.fields #[]), #[]⟩
noncomputable def o534 : Obj := ⟨(.type "tuple"), none, (.seq #[(.str "self" 895), (.str "token" 896)] 0), #[]⟩
noncomputable def o535 : Obj := ⟨(.type "tuple"), none, (.seq #[] 0), #[]⟩
noncomputable def o536 : Obj := ⟨.none, none, (.func (fN 57 (some 3) "back" "PlainSource.back" 0 [] .none .none .none .none none .none .none 0)), #[]⟩
noncomputable def o537 : Obj := ⟨(.type "code"), none, (.fields #[(.str "back" 892), (.str "PlainSource.back" 893), (.str "/claim/cut.py" 894), (.int 284 0), (.int 2 0), (.int 0 0), (.int 0 0), (.int 3 0), (.ref 451), (.bool true), (.int 181 0), (.ref 452), .none, (.ref 453), (.ref 454), (.ref 455), (.int 897 0), (.int 284 0), (.str "/claim/cut.py" 898)]), #[]⟩
noncomputable def o538 : Obj := ⟨(.type "function"), none, (.func (fN 57 (some 3) "back" "PlainSource.back" 3 [] .none .none .none (.str "gluepage.scan" 659) none (.ref 456) .none 0)), #[]⟩
noncomputable def o539 : Obj := ⟨(.type "tuple"), none, (.seq #[] 0), #[]⟩
noncomputable def o540 : Obj := ⟨.none, none, (.fields #[]), #[]⟩
noncomputable def o541 : Obj := ⟨(.type "tuple"), none, (.seq #[(.str "self" 903)] 0), #[]⟩
noncomputable def o542 : Obj := ⟨(.type "tuple"), none, (.seq #[] 0), #[]⟩
noncomputable def o543 : Obj := ⟨.none, none, (.func (fN 57 (some 4) "left" "PlainSource.left" 0 [] .none .none .none .none none .none .none 0)), #[]⟩
noncomputable def o544 : Obj := ⟨(.type "code"), none, (.fields #[(.str "left" 900), (.str "PlainSource.left" 901), (.str "/claim/cut.py" 902), (.int 293 0), (.int 1 0), (.int 0 0), (.int 0 0), (.int 3 0), (.ref 458), (.bool true), (.int 181 0), (.ref 459), .none, (.ref 460), (.ref 461), (.ref 462), (.int 904 0), (.int 293 0), (.str "/claim/cut.py" 905)]), #[]⟩
noncomputable def o545 : Obj := ⟨(.type "function"), none, (.func (fN 57 (some 4) "left" "PlainSource.left" 3 [] .none .none .none (.str "gluepage.scan" 659) none (.ref 463) .none 0)), #[]⟩
noncomputable def o546 : Obj := ⟨(.type "tuple"), none, (.seq #[] 0), #[]⟩
noncomputable def o547 : Obj := ⟨.none, none, (.fields #[]), #[]⟩
noncomputable def o548 : Obj := ⟨(.type "tuple"), none, (.seq #[(.str "self" 910), (.str "command" 911), (.str "value" 912)] 0), #[]⟩
noncomputable def o549 : Obj := ⟨(.type "tuple"), none, (.seq #[] 0), #[]⟩
noncomputable def o550 : Obj := ⟨.none, none, (.func (fN 57 (some 5) "quantity" "PlainSource.quantity" 0 [] .none .none .none .none none .none .none 0)), #[]⟩
noncomputable def o551 : Obj := ⟨(.type "code"), none, (.fields #[(.str "quantity" 907), (.str "PlainSource.quantity" 908), (.str "/claim/cut.py" 909), (.int 296 0), (.int 3 0), (.int 0 0), (.int 0 0), (.int 3 0), (.ref 465), (.bool true), (.int 181 0), (.ref 466), .none, (.ref 467), (.ref 468), (.ref 469), (.int 913 0), (.int 296 0), (.str "/claim/cut.py" 914)]), #[]⟩
noncomputable def o552 : Obj := ⟨(.type "function"), none, (.func (fN 57 (some 5) "quantity" "PlainSource.quantity" 3 [] .none .none .none (.str "gluepage.scan" 659) none (.ref 470) .none 0)), #[]⟩
noncomputable def o553 : Obj := ⟨(.type "tuple"), none, (.seq #[] 0), #[]⟩
noncomputable def o554 : Obj := ⟨.none, none, (.fields #[]), #[]⟩
noncomputable def o555 : Obj := ⟨(.type "tuple"), none, (.seq #[(.str "self" 919), (.str "number_of_size" 920)] 0), #[]⟩
noncomputable def o556 : Obj := ⟨(.type "tuple"), none, (.seq #[] 0), #[]⟩
noncomputable def o557 : Obj := ⟨.none, none, (.func (fN 57 (some 6) "font_size" "PlainSource.font_size" 0 [] .none .none .none .none none .none .none 0)), #[]⟩
noncomputable def o558 : Obj := ⟨(.type "code"), none, (.fields #[(.str "font_size" 916), (.str "PlainSource.font_size" 917), (.str "/claim/cut.py" 918), (.int 301 0), (.int 2 0), (.int 0 0), (.int 0 0), (.int 3 0), (.ref 472), (.bool true), (.int 181 0), (.ref 473), .none, (.ref 474), (.ref 475), (.ref 476), (.int 921 0), (.int 301 0), (.str "/claim/cut.py" 922)]), #[]⟩
noncomputable def o559 : Obj := ⟨(.type "function"), none, (.func (fN 57 (some 6) "font_size" "PlainSource.font_size" 3 [] .none .none .none (.str "gluepage.scan" 659) none (.ref 477) .none 0)), #[]⟩
noncomputable def o560 : Obj := ⟨(.type "tuple"), none, (.seq #[(.str "balance" 924), (.str "inner" 925), (.str "names" 926), (.str "rest" 927), (.str "sizes" 928)] 0), #[]⟩
noncomputable def o561 (P : Params) : Obj := ⟨(.type "dict"), none, (.dict #[⟨(PyData.keyHash P "__module__"), (.str "__module__" 854), (.str "gluepage.scan" 659)⟩, ⟨(PyData.keyHash P "__firstlineno__"), (.str "__firstlineno__" 858), (.int 252 857)⟩, ⟨(PyData.keyHash P "__init__"), (.str "__init__" 874), (.ref 436)⟩, ⟨(PyData.keyHash P "read"), (.str "read" 884), (.ref 443)⟩, ⟨(PyData.keyHash P "read_expanded"), (.str "read_expanded" 891), (.ref 450)⟩, ⟨(PyData.keyHash P "back"), (.str "back" 899), (.ref 457)⟩, ⟨(PyData.keyHash P "left"), (.str "left" 906), (.ref 464)⟩, ⟨(PyData.keyHash P "quantity"), (.str "quantity" 915), (.ref 471)⟩, ⟨(PyData.keyHash P "font_size"), (.str "font_size" 923), (.ref 478)⟩, ⟨(PyData.keyHash P "__static_attributes__"), (.str "__static_attributes__" 929), (.ref 479)⟩, ⟨(PyData.keyHash P "__dict__"), (.str "__dict__" 931), (.ref 482)⟩, ⟨(PyData.keyHash P "__weakref__"), (.str "__weakref__" 933), (.ref 483)⟩, ⟨(PyData.keyHash P "__doc__"), (.str "__doc__" 934), .none⟩] 4), #[]⟩
noncomputable def o562 : Obj := ⟨(.type "type"), none, (.cls ⟨"PlainSource", [(.type "object")], [(.ref 481), (.type "object")], 480, "PlainSource", true, [], [], false, none, false⟩), #[none, none, (some (.str "PlainSource" 847)), (some (.str "PlainSource" 855)), (some (.builtin "object.__new__")), (some (.bool true))]⟩
noncomputable def o563 : Obj := ⟨(.type "getset_descriptor"), none, (.fields #[(.str "__dict__" 930), (.ref 481), (.builtin "function.__dict__"), (.builtin "function.__dict__#set")]), #[]⟩
noncomputable def o564 : Obj := ⟨(.type "getset_descriptor"), none, (.fields #[(.str "__weakref__" 932), (.ref 481), (.builtin "ExceptionGroup.__weakref__"), .none]), #[]⟩
noncomputable def o565 : Obj := ⟨(.type "super"), none, (.fields #[(.ref 481), (.ref 481), (.ref 481)]), #[]⟩
noncomputable def o566 : Obj := ⟨(.type "builtin_function_or_method"), none, (.fields #[(.builtin "object.__init_subclass__"), (.ref 481)]), #[]⟩
noncomputable def o569 : Obj := ⟨(.type "tuple"), none, (.seq #[] 0), #[]⟩
noncomputable def o570 : Obj := ⟨.none, none, (.fields #[]), #[]⟩
noncomputable def o571 : Obj := ⟨(.type "tuple"), none, (.seq #[] 0), #[]⟩
noncomputable def o572 : Obj := ⟨(.type "tuple"), none, (.seq #[] 0), #[]⟩
noncomputable def o573 : Obj := ⟨.none, none, (.func (fN 59 none "_law_stock" "_law_stock" 0 [] .none .none .none .none none .none .none 0)), #[]⟩
noncomputable def o574 : Obj := ⟨(.type "code"), none, (.fields #[(.str "_law_stock" 939), (.str "_law_stock" 940), (.str "/claim/cut.py" 941), (.int 304 0), (.int 0 0), (.int 0 0), (.int 0 0), (.int 3 0), (.ref 486), (.bool true), (.int 181 0), (.ref 487), .none, (.ref 488), (.ref 489), (.ref 490), (.int 942 0), (.int 304 0), (.str "/claim/cut.py" 943)]), #[]⟩
noncomputable def o575 : Obj := ⟨(.type "function"), none, (.func (fN 59 none "_law_stock" "_law_stock" 3 [] .none .none .none (.str "law_sq0042_01" 937) none (.ref 491) .none 0)), #[]⟩
noncomputable def o576 : Obj := ⟨(.type "tuple"), none, (.seq #[] 0), #[]⟩
noncomputable def o577 : Obj := ⟨.none, none, (.fields #[]), #[]⟩
noncomputable def o578 : Obj := ⟨(.type "tuple"), none, (.seq #[] 0), #[]⟩
noncomputable def o579 : Obj := ⟨(.type "tuple"), none, (.seq #[] 0), #[]⟩
noncomputable def o580 : Obj := ⟨.none, none, (.func (fN 60 none "_law_words" "_law_words" 0 [] .none .none .none .none none .none .none 0)), #[]⟩
noncomputable def o581 : Obj := ⟨(.type "code"), none, (.fields #[(.str "_law_words" 945), (.str "_law_words" 946), (.str "/claim/cut.py" 947), (.int 306 0), (.int 0 0), (.int 0 0), (.int 0 0), (.int 3 0), (.ref 493), (.bool true), (.int 181 0), (.ref 494), .none, (.ref 495), (.ref 496), (.ref 497), (.int 948 0), (.int 306 0), (.str "/claim/cut.py" 949)]), #[]⟩
noncomputable def o582 : Obj := ⟨(.type "function"), none, (.func (fN 60 none "_law_words" "_law_words" 3 [] .none .none .none (.str "law_sq0042_01" 937) none (.ref 498) .none 0)), #[]⟩
noncomputable def o583 : Obj := ⟨(.type "tuple"), none, (.seq #[] 0), #[]⟩
noncomputable def o584 : Obj := ⟨.none, none, (.fields #[]), #[]⟩
noncomputable def o585 : Obj := ⟨(.type "tuple"), none, (.seq #[(.str "script" 954), (.str "pool" 955), (.str "cell" 956)] 0), #[]⟩
noncomputable def o586 : Obj := ⟨(.type "tuple"), none, (.seq #[] 0), #[]⟩
noncomputable def o587 : Obj := ⟨.none, none, (.func (fN 61 none "_law_pool" "_law_pool" 0 [] .none .none .none .none none .none .none 0)), #[]⟩
noncomputable def o588 : Obj := ⟨(.type "code"), none, (.fields #[(.str "_law_pool" 951), (.str "_law_pool" 952), (.str "/claim/cut.py" 953), (.int 308 0), (.int 1 0), (.int 0 0), (.int 0 0), (.int 3 0), (.ref 500), (.bool true), (.int 181 0), (.ref 501), .none, (.ref 502), (.ref 503), (.ref 504), (.int 957 0), (.int 308 0), (.str "/claim/cut.py" 958)]), #[]⟩
noncomputable def o589 : Obj := ⟨(.type "function"), none, (.func (fN 61 none "_law_pool" "_law_pool" 3 [] .none .none .none (.str "law_sq0042_01" 937) none (.ref 505) .none 0)), #[]⟩
noncomputable def o590 : Obj := ⟨(.type "tuple"), none, (.seq #[] 0), #[]⟩
noncomputable def o591 : Obj := ⟨.none, none, (.fields #[]), #[]⟩
noncomputable def o592 : Obj := ⟨(.type "tuple"), none, (.seq #[(.str "pool" 963), (.str "many" 964), (.str "pair" 965)] 0), #[]⟩
noncomputable def o593 : Obj := ⟨(.type "tuple"), none, (.seq #[] 0), #[]⟩
noncomputable def o594 : Obj := ⟨.none, none, (.func (fN 62 none "_law_take" "_law_take" 0 [] .none .none .none .none none .none .none 0)), #[]⟩
noncomputable def o595 : Obj := ⟨(.type "code"), none, (.fields #[(.str "_law_take" 960), (.str "_law_take" 961), (.str "/claim/cut.py" 962), (.int 316 0), (.int 2 0), (.int 0 0), (.int 0 0), (.int 3 0), (.ref 507), (.bool true), (.int 181 0), (.ref 508), .none, (.ref 509), (.ref 510), (.ref 511), (.int 966 0), (.int 316 0), (.str "/claim/cut.py" 967)]), #[]⟩
noncomputable def o596 : Obj := ⟨(.type "function"), none, (.func (fN 62 none "_law_take" "_law_take" 3 [] .none .none .none (.str "law_sq0042_01" 937) none (.ref 512) .none 0)), #[]⟩
noncomputable def o597 : Obj := ⟨(.type "tuple"), none, (.seq #[] 0), #[]⟩
noncomputable def o598 : Obj := ⟨.none, none, (.fields #[]), #[]⟩
noncomputable def o599 : Obj := ⟨.none, none, (.func (fN 63 none "_law_row" "_law_row" 0 [] .none .none .none .none none .none .none 0)), #[]⟩
noncomputable def o600 : Obj := ⟨(.type "code"), none, (.fields #[(.str "_law_row" 969), (.str "_law_row" 970), (.str "/claim/cut.py" 971), (.int 323 0), (.int 1 0), (.int 0 0), (.int 0 0), (.int 3 0), (.ref 514), (.bool true), (.int 181 0), (.ref 515), .none, .none, .none, (.ref 516), (.int 972 0), (.int 323 0), (.str "/claim/cut.py" 973)]), #[]⟩
noncomputable def o601 : Obj := ⟨(.type "function"), none, (.func (fN 63 none "_law_row" "_law_row" 3 [] .none .none .none (.str "law_sq0042_01" 937) none (.ref 517) .none 0)), #[]⟩
noncomputable def o602 : Obj := ⟨(.type "tuple"), none, (.seq #[] 0), #[]⟩
noncomputable def o603 : Obj := ⟨.none, none, (.fields #[]), #[]⟩
noncomputable def o604 : Obj := ⟨(.type "tuple"), none, (.seq #[(.str "rest" 978), (.str "at" 979), (.str "sort" 980), (.str "code" 981)] 0), #[]⟩
noncomputable def o605 : Obj := ⟨(.type "tuple"), none, (.seq #[] 0), #[]⟩
noncomputable def o606 : Obj := ⟨.none, none, (.func (fN 64 none "_law_triple" "_law_triple" 0 [] .none .none .none .none none .none .none 0)), #[]⟩
noncomputable def o607 : Obj := ⟨(.type "code"), none, (.fields #[(.str "_law_triple" 975), (.str "_law_triple" 976), (.str "/claim/cut.py" 977), (.int 332 0), (.int 2 0), (.int 0 0), (.int 0 0), (.int 3 0), (.ref 519), (.bool true), (.int 181 0), (.ref 520), .none, (.ref 521), (.ref 522), (.ref 523), (.int 982 0), (.int 332 0), (.str "/claim/cut.py" 983)]), #[]⟩
noncomputable def o608 : Obj := ⟨(.type "function"), none, (.func (fN 64 none "_law_triple" "_law_triple" 3 [] .none .none .none (.str "law_sq0042_01" 937) none (.ref 524) .none 0)), #[]⟩
noncomputable def o609 : Obj := ⟨(.type "tuple"), none, (.seq #[] 0), #[]⟩
noncomputable def o610 : Obj := ⟨.none, none, (.fields #[]), #[]⟩
noncomputable def o611 : Obj := ⟨(.type "tuple"), none, (.seq #[(.str "rest" 988), (.str "at" 989), (.str "is_filler" 990)] 0), #[]⟩
noncomputable def o612 : Obj := ⟨(.type "tuple"), none, (.seq #[] 0), #[]⟩
noncomputable def o613 : Obj := ⟨.none, none, (.func (fN 65 none "_law_past" "_law_past" 0 [] .none .none .none .none none .none .none 0)), #[]⟩
noncomputable def o614 : Obj := ⟨(.type "code"), none, (.fields #[(.str "_law_past" 985), (.str "_law_past" 986), (.str "/claim/cut.py" 987), (.int 339 0), (.int 3 0), (.int 0 0), (.int 0 0), (.int 3 0), (.ref 526), (.bool true), (.int 181 0), (.ref 527), .none, (.ref 528), (.ref 529), (.ref 530), (.int 991 0), (.int 339 0), (.str "/claim/cut.py" 992)]), #[]⟩
noncomputable def o615 : Obj := ⟨(.type "function"), none, (.func (fN 65 none "_law_past" "_law_past" 3 [] .none .none .none (.str "law_sq0042_01" 937) none (.ref 531) .none 0)), #[]⟩
noncomputable def o616 : Obj := ⟨(.type "tuple"), none, (.seq #[] 0), #[]⟩
noncomputable def o617 : Obj := ⟨.none, none, (.fields #[]), #[]⟩
noncomputable def o618 : Obj := ⟨(.type "tuple"), none, (.seq #[(.str "rest" 997), (.str "at" 998), (.str "minus" 999)] 0), #[]⟩
noncomputable def o619 : Obj := ⟨(.type "tuple"), none, (.seq #[] 0), #[]⟩
noncomputable def o620 : Obj := ⟨.none, none, (.func (fN 66 none "_law_signed" "_law_signed" 0 [] .none .none .none .none none .none .none 0)), #[]⟩
noncomputable def o621 : Obj := ⟨(.type "code"), none, (.fields #[(.str "_law_signed" 994), (.str "_law_signed" 995), (.str "/claim/cut.py" 996), (.int 343 0), (.int 1 0), (.int 0 0), (.int 0 0), (.int 3 0), (.ref 533), (.bool true), (.int 181 0), (.ref 534), .none, (.ref 535), (.ref 536), (.ref 537), (.int 1000 0), (.int 343 0), (.str "/claim/cut.py" 1001)]), #[]⟩
noncomputable def o622 : Obj := ⟨(.type "function"), none, (.func (fN 66 none "_law_signed" "_law_signed" 3 [] .none .none .none (.str "law_sq0042_01" 937) none (.ref 538) .none 0)), #[]⟩
noncomputable def o623 : Obj := ⟨(.type "tuple"), none, (.seq #[] 0), #[]⟩
noncomputable def o624 : Obj := ⟨.none, none, (.fields #[]), #[]⟩
noncomputable def o625 : Obj := ⟨.none, none, (.func (fN 67 none "_law_stands" "_law_stands" 0 [] .none .none .none .none none .none .none 0)), #[]⟩
noncomputable def o626 : Obj := ⟨(.type "code"), none, (.fields #[(.str "_law_stands" 1003), (.str "_law_stands" 1004), (.str "/claim/cut.py" 1005), (.int 349 0), (.int 3 0), (.int 0 0), (.int 0 0), (.int 3 0), (.ref 540), (.bool true), (.int 181 0), (.ref 541), .none, .none, .none, (.ref 542), (.int 1006 0), (.int 349 0), (.str "/claim/cut.py" 1007)]), #[]⟩
noncomputable def o627 : Obj := ⟨(.type "function"), none, (.func (fN 67 none "_law_stands" "_law_stands" 3 [] .none .none .none (.str "law_sq0042_01" 937) none (.ref 543) .none 0)), #[]⟩
noncomputable def o628 : Obj := ⟨(.type "tuple"), none, (.seq #[] 0), #[]⟩
noncomputable def o629 : Obj := ⟨.none, none, (.fields #[]), #[]⟩
noncomputable def o630 : Obj := ⟨.none, none, (.func (fN 68 none "_law_small_due" "_law_small_due" 0 [] .none .none .none .none none .none .none 0)), #[]⟩
noncomputable def o631 : Obj := ⟨(.type "code"), none, (.fields #[(.str "_law_small_due" 1009), (.str "_law_small_due" 1010), (.str "/claim/cut.py" 1011), (.int 352 0), (.int 2 0), (.int 0 0), (.int 0 0), (.int 3 0), (.ref 545), (.bool true), (.int 181 0), (.ref 546), .none, .none, .none, (.ref 547), (.int 1012 0), (.int 352 0), (.str "/claim/cut.py" 1013)]), #[]⟩
noncomputable def o632 : Obj := ⟨(.type "function"), none, (.func (fN 68 none "_law_small_due" "_law_small_due" 3 [] .none .none .none (.str "law_sq0042_01" 937) none (.ref 548) .none 0)), #[]⟩
noncomputable def o633 : Obj := ⟨(.type "tuple"), none, (.seq #[] 0), #[]⟩
noncomputable def o634 : Obj := ⟨.none, none, (.fields #[]), #[]⟩
noncomputable def o635 : Obj := ⟨(.type "tuple"), none, (.seq #[(.str "way" 1018), (.str "rest" 1019), (.str "more" 1020), (.str "at" 1021), (.str "stands" 1022), (.str "is_minus" 1023)] 0), #[]⟩
noncomputable def o636 : Obj := ⟨(.type "tuple"), none, (.seq #[] 0), #[]⟩
noncomputable def o637 : Obj := ⟨.none, none, (.func (fN 69 none "_law_due" "_law_due" 0 [] .none .none .none .none none .none .none 0)), #[]⟩
noncomputable def o638 : Obj := ⟨(.type "code"), none, (.fields #[(.str "_law_due" 1015), (.str "_law_due" 1016), (.str "/claim/cut.py" 1017), (.int 366 0), (.int 3 0), (.int 0 0), (.int 0 0), (.int 3 0), (.ref 550), (.bool true), (.int 181 0), (.ref 551), .none, (.ref 552), (.ref 553), (.ref 554), (.int 1024 0), (.int 366 0), (.str "/claim/cut.py" 1025)]), #[]⟩
noncomputable def o639 : Obj := ⟨(.type "function"), none, (.func (fN 69 none "_law_due" "_law_due" 3 [] .none .none .none (.str "law_sq0042_01" 937) none (.ref 555) .none 0)), #[]⟩
noncomputable def o640 : Obj := ⟨(.type "tuple"), none, (.seq #[] 0), #[]⟩
noncomputable def o641 : Obj := ⟨.none, none, (.fields #[]), #[]⟩
noncomputable def o642 : Obj := ⟨(.type "tuple"), none, (.seq #[(.str "way" 1030), (.str "source" 1031), (.str "more" 1032)] 0), #[]⟩
noncomputable def o643 : Obj := ⟨(.type "tuple"), none, (.seq #[] 0), #[]⟩
noncomputable def o644 : Obj := ⟨.none, none, (.func (fN 70 none "_law_met" "_law_met" 0 [] .none .none .none .none none .none .none 0)), #[]⟩
noncomputable def o645 : Obj := ⟨(.type "code"), none, (.fields #[(.str "_law_met" 1027), (.str "_law_met" 1028), (.str "/claim/cut.py" 1029), (.int 390 0), (.int 3 0), (.int 0 0), (.int 0 0), (.int 3 0), (.ref 557), (.bool true), (.int 181 0), (.ref 558), .none, (.ref 559), (.ref 560), (.ref 561), (.int 1033 0), (.int 390 0), (.str "/claim/cut.py" 1034)]), #[]⟩
noncomputable def o646 : Obj := ⟨(.type "function"), none, (.func (fN 70 none "_law_met" "_law_met" 3 [] .none .none .none (.str "law_sq0042_01" 937) none (.ref 562) .none 0)), #[]⟩
noncomputable def o647 : Obj := ⟨(.type "tuple"), none, (.seq #[] 0), #[]⟩
noncomputable def o648 : Obj := ⟨.none, none, (.fields #[]), #[]⟩
noncomputable def o649 : Obj := ⟨.none, none, (.func (fN 71 none "_law_braces" "_law_braces" 0 [] .none .none .none .none none .none .none 0)), #[]⟩
noncomputable def o650 : Obj := ⟨(.type "code"), none, (.fields #[(.str "_law_braces" 1036), (.str "_law_braces" 1037), (.str "/claim/cut.py" 1038), (.int 415 0), (.int 1 0), (.int 0 0), (.int 0 0), (.int 3 0), (.ref 564), (.bool true), (.int 181 0), (.ref 565), .none, .none, .none, (.ref 566), (.int 1039 0), (.int 415 0), (.str "/claim/cut.py" 1040)]), #[]⟩
noncomputable def o651 : Obj := ⟨(.type "function"), none, (.func (fN 71 none "_law_braces" "_law_braces" 3 [] .none .none .none (.str "law_sq0042_01" 937) none (.ref 567) .none 0)), #[]⟩
noncomputable def o652 (P : Params) : Obj := ⟨(.type "dict"), none, (.dict #[⟨(PyData.keyHash P "__name__"), (.str "__name__" 165), (.str "law_sq0042_01" 937)⟩, ⟨(PyData.keyHash P "__doc__"), (.str "__doc__" 166), .none⟩, ⟨(PyData.keyHash P "__package__"), (.str "__package__" 167), .none⟩, ⟨(PyData.keyHash P "__loader__"), (.str "__loader__" 168), (.builtin "__main__.__loader__#opaque")⟩, ⟨(PyData.keyHash P "__spec__"), (.str "__spec__" 169), .none⟩, ⟨(PyData.keyHash P "__annotations__"), (.str "__annotations__" 170), (.ref 6)⟩, ⟨(PyData.keyHash P "__builtins__"), (.str "__builtins__" 171), (.ref 4)⟩, ⟨(PyData.keyHash P "__file__"), (.str "__file__" 173), (.str "/claim/cut.py" 172)⟩, ⟨(PyData.keyHash P "__cached__"), (.str "__cached__" 174), .none⟩, ⟨(PyData.keyHash P "_wall"), (.str "_wall" 193), (.ref 21)⟩, ⟨(PyData.keyHash P "RELAX"), (.str "RELAX" 201), (.int 0 194)⟩, ⟨(PyData.keyHash P "LEFT_BRACE"), (.str "LEFT_BRACE" 202), (.int 1 195)⟩, ⟨(PyData.keyHash P "RIGHT_BRACE"), (.str "RIGHT_BRACE" 203), (.int 2 196)⟩, ⟨(PyData.keyHash P "MATH_SHIFT"), (.str "MATH_SHIFT" 204), (.int 3 197)⟩, ⟨(PyData.keyHash P "TAB_MARK"), (.str "TAB_MARK" 205), (.int 4 198)⟩, ⟨(PyData.keyHash P "ROW_END"), (.str "ROW_END" 206), (.int 5 199)⟩, ⟨(PyData.keyHash P "PARAMETER_MARK"), (.str "PARAMETER_MARK" 207), (.int 6 200)⟩, ⟨(PyData.keyHash P "SUP_MARK"), (.str "SUP_MARK" 214), (.int 7 208)⟩, ⟨(PyData.keyHash P "SUB_MARK"), (.str "SUB_MARK" 215), (.int 8 209)⟩, ⟨(PyData.keyHash P "END_MARK"), (.str "END_MARK" 216), (.int 9 210)⟩, ⟨(PyData.keyHash P "SPACER"), (.str "SPACER" 217), (.int 10 211)⟩, ⟨(PyData.keyHash P "LETTER_commands"), (.str "LETTER_commands" 218), (.int 11 212)⟩, ⟨(PyData.keyHash P "OTHER_CHAR"), (.str "OTHER_CHAR" 219), (.int 12 213)⟩, ⟨(PyData.keyHash P "NAMED_REGISTER"), (.str "NAMED_REGISTER" 228), (.int 77 220)⟩, ⟨(PyData.keyHash P "ARITHMETIC"), (.str "ARITHMETIC" 229), (.int 78 221)⟩, ⟨(PyData.keyHash P "PREFIX"), (.str "PREFIX" 230), (.int 79 222)⟩, ⟨(PyData.keyHash P "LET"), (.str "LET" 231), (.int 80 223)⟩, ⟨(PyData.keyHash P "SHORTHAND"), (.str "SHORTHAND" 232), (.int 81 224)⟩, ⟨(PyData.keyHash P "DEFINE"), (.str "DEFINE" 233), (.int 82 225)⟩, ⟨(PyData.keyHash P "SET_BOX"), (.str "SET_BOX" 234), (.int 83 226)⟩, ⟨(PyData.keyHash P "HYPHEN_DATA"), (.str "HYPHEN_DATA" 235), (.int 84 227)⟩, ⟨(PyData.keyHash P "SPACE_FACTOR"), (.str "SPACE_FACTOR" 244), (.int 92 236)⟩, ⟨(PyData.keyHash P "PREV_DEPTH"), (.str "PREV_DEPTH" 245), (.int 93 237)⟩, ⟨(PyData.keyHash P "PREV_GRAF"), (.str "PREV_GRAF" 246), (.int 94 238)⟩, ⟨(PyData.keyHash P "PAGE_DIMEN"), (.str "PAGE_DIMEN" 247), (.int 95 239)⟩, ⟨(PyData.keyHash P "PAGE_INT"), (.str "PAGE_INT" 248), (.int 96 240)⟩, ⟨(PyData.keyHash P "THE_FONT"), (.str "THE_FONT" 249), (.int 97 241)⟩, ⟨(PyData.keyHash P "READ_TO"), (.str "READ_TO" 250), (.int 98 242)⟩, ⟨(PyData.keyHash P "END_OF_INPUT"), (.str "END_OF_INPUT" 251), (.int 99 243)⟩, ⟨(PyData.keyHash P "RELAX_VALUE"), (.str "RELAX_VALUE" 257), (.int 256 252)⟩, ⟨(PyData.keyHash P "GUARDED"), (.str "GUARDED" 258), (.int 257 253)⟩, ⟨(PyData.keyHash P "SPAN_CODE"), (.str "SPAN_CODE" 259), (.int 256 254)⟩, ⟨(PyData.keyHash P "CR_CODE"), (.str "CR_CODE" 260), (.int 257 255)⟩, ⟨(PyData.keyHash P "CRCR_CODE"), (.str "CRCR_CODE" 261), (.int 258 256)⟩, ⟨(PyData.keyHash P "PageError"), (.str "PageError" 291), (.ref 59)⟩, ⟨(PyData.keyHash P "BadArgument"), (.str "BadArgument" 307), (.ref 72)⟩, ⟨(PyData.keyHash P "BadNumber"), (.str "BadNumber" 323), (.ref 84)⟩, ⟨(PyData.keyHash P "BadUnit"), (.str "BadUnit" 339), (.ref 96)⟩, ⟨(PyData.keyHash P "Overflow"), (.str "Overflow" 355), (.ref 108)⟩, ⟨(PyData.keyHash P "BadGroup"), (.str "BadGroup" 371), (.ref 120)⟩, ⟨(PyData.keyHash P "UNITY"), (.str "UNITY" 375), (.int 65536 374)⟩, ⟨(PyData.keyHash P "MAX_DIMEN"), (.str "MAX_DIMEN" 381), (.int 1073741823 380)⟩, ⟨(PyData.keyHash P "MAX_NUMBER"), (.str "MAX_NUMBER" 387), (.int 2147483647 386)⟩, ⟨(PyData.keyHash P "NORMAL"), (.str "NORMAL" 392), (.int 0 388)⟩, ⟨(PyData.keyHash P "FIL"), (.str "FIL" 393), (.int 1 389)⟩, ⟨(PyData.keyHash P "FILL"), (.str "FILL" 394), (.int 2 390)⟩, ⟨(PyData.keyHash P "FILLL"), (.str "FILLL" 395), (.int 3 391)⟩, ⟨(PyData.keyHash P "is_whole"), (.str "is_whole" 404), (.ref 133)⟩, ⟨(PyData.keyHash P "check_whole"), (.str "check_whole" 411), (.ref 140)⟩, ⟨(PyData.keyHash P "check_number"), (.str "check_number" 418), (.ref 147)⟩, ⟨(PyData.keyHash P "check_dimen"), (.str "check_dimen" 425), (.ref 154)⟩, ⟨(PyData.keyHash P "rounded"), (.str "rounded" 433), (.ref 161)⟩, ⟨(PyData.keyHash P "reading"), (.str "reading" 441), (.ref 168)⟩, ⟨(PyData.keyHash P "decimal_text"), (.str "decimal_text" 454), (.ref 175)⟩, ⟨(PyData.keyHash P "order_text"), (.str "order_text" 461), (.ref 182)⟩, ⟨(PyData.keyHash P "part_text"), (.str "part_text" 470), (.ref 189)⟩, ⟨(PyData.keyHash P "Glue"), (.str "Glue" 568), (.ref 257)⟩, ⟨(PyData.keyHash P "ESCAPE"), (.str "ESCAPE" 579), (.int 0 571)⟩, ⟨(PyData.keyHash P "BEGIN"), (.str "BEGIN" 580), (.int 1 572)⟩, ⟨(PyData.keyHash P "END"), (.str "END" 581), (.int 2 573)⟩, ⟨(PyData.keyHash P "MATH"), (.str "MATH" 582), (.int 3 574)⟩, ⟨(PyData.keyHash P "TAB"), (.str "TAB" 583), (.int 4 575)⟩, ⟨(PyData.keyHash P "RETURN"), (.str "RETURN" 584), (.int 5 576)⟩, ⟨(PyData.keyHash P "PARAMETER"), (.str "PARAMETER" 585), (.int 6 577)⟩, ⟨(PyData.keyHash P "UP"), (.str "UP" 586), (.int 7 578)⟩, ⟨(PyData.keyHash P "DOWN"), (.str "DOWN" 595), (.int 8 587)⟩, ⟨(PyData.keyHash P "IGNORED"), (.str "IGNORED" 596), (.int 9 588)⟩, ⟨(PyData.keyHash P "SPACE"), (.str "SPACE" 597), (.int 10 589)⟩, ⟨(PyData.keyHash P "LETTER_tokens"), (.str "LETTER_tokens" 598), (.int 11 590)⟩, ⟨(PyData.keyHash P "OTHER"), (.str "OTHER" 599), (.int 12 591)⟩, ⟨(PyData.keyHash P "ACTIVE"), (.str "ACTIVE" 600), (.int 13 592)⟩, ⟨(PyData.keyHash P "COMMENT"), (.str "COMMENT" 601), (.int 14 593)⟩, ⟨(PyData.keyHash P "INVALID"), (.str "INVALID" 602), (.int 15 594)⟩, ⟨(PyData.keyHash P "CONTROL"), (.str "CONTROL" 608), (.int 0 603)⟩, ⟨(PyData.keyHash P "OUT"), (.str "OUT" 609), (.int 5 604)⟩, ⟨(PyData.keyHash P "MATCH"), (.str "MATCH" 610), (.int 9 605)⟩, ⟨(PyData.keyHash P "FROZEN"), (.str "FROZEN" 611), (.int 14 606)⟩, ⟨(PyData.keyHash P "NOT_EXPANDED"), (.str "NOT_EXPANDED" 612), (.int 15 607)⟩, ⟨(PyData.keyHash P "MOST_NAMES"), (.str "MOST_NAMES" 616), (.int 1048576 615)⟩, ⟨(PyData.keyHash P "LEAST_CODES"), (.str "LEAST_CODES" 633), (.ref 274)⟩, ⟨(PyData.keyHash P "GREATEST_CODES"), (.str "GREATEST_CODES" 651), (.ref 275)⟩, ⟨(PyData.keyHash P "is_token"), (.str "is_token" 658), (.ref 282)⟩, ⟨(PyData.keyHash P "NUMBER_SORT"), (.str "NUMBER_SORT" 667), (.int 0 661)⟩, ⟨(PyData.keyHash P "DIMEN_SORT"), (.str "DIMEN_SORT" 668), (.int 1 662)⟩, ⟨(PyData.keyHash P "GLUE_SORT"), (.str "GLUE_SORT" 669), (.int 2 663)⟩, ⟨(PyData.keyHash P "MUGLUE_SORT"), (.str "MUGLUE_SORT" 670), (.int 3 664)⟩, ⟨(PyData.keyHash P "TOKENS_SORT"), (.str "TOKENS_SORT" 671), (.int 4 665)⟩, ⟨(PyData.keyHash P "FONT_SORT"), (.str "FONT_SORT" 672), (.int 5 666)⟩, ⟨(PyData.keyHash P "PLUS"), (.str "PLUS" 678), (.ref 287)⟩, ⟨(PyData.keyHash P "MINUS"), (.str "MINUS" 679), (.ref 288)⟩, ⟨(PyData.keyHash P "EQUALS"), (.str "EQUALS" 680), (.ref 289)⟩, ⟨(PyData.keyHash P "POINT"), (.str "POINT" 681), (.ref 290)⟩, ⟨(PyData.keyHash P "COMMA"), (.str "COMMA" 682), (.ref 291)⟩, ⟨(PyData.keyHash P "BACK_QUOTE"), (.str "BACK_QUOTE" 686), (.ref 296)⟩, ⟨(PyData.keyHash P "OCTAL_MARK"), (.str "OCTAL_MARK" 687), (.ref 297)⟩, ⟨(PyData.keyHash P "HEXADECIMAL_MARK"), (.str "HEXADECIMAL_MARK" 688), (.ref 298)⟩, ⟨(PyData.keyHash P "unread"), (.str "unread" 696), (.ref 309)⟩, ⟨(PyData.keyHash P "skip_blanks"), (.str "skip_blanks" 704), (.ref 316)⟩, ⟨(PyData.keyHash P "skip_filler"), (.str "skip_filler" 712), (.ref 323)⟩, ⟨(PyData.keyHash P "optional_blank"), (.str "optional_blank" 720), (.ref 330)⟩, ⟨(PyData.keyHash P "optional_equals"), (.str "optional_equals" 728), (.ref 337)⟩, ⟨(PyData.keyHash P "left_brace"), (.str "left_brace" 736), (.ref 344)⟩, ⟨(PyData.keyHash P "spells"), (.str "spells" 744), (.ref 351)⟩, ⟨(PyData.keyHash P "keyword"), (.str "keyword" 755), (.ref 358)⟩, ⟨(PyData.keyHash P "signs"), (.str "signs" 764), (.ref 365)⟩, ⟨(PyData.keyHash P "lowered"), (.str "lowered" 773), (.ref 372)⟩, ⟨(PyData.keyHash P "digit_of"), (.str "digit_of" 783), (.ref 379)⟩, ⟨(PyData.keyHash P "character_code"), (.str "character_code" 794), (.ref 386)⟩, ⟨(PyData.keyHash P "written_number"), (.str "written_number" 805), (.ref 393)⟩, ⟨(PyData.keyHash P "number_parts"), (.str "number_parts" 818), (.ref 400)⟩, ⟨(PyData.keyHash P "number"), (.str "number" 828), (.ref 407)⟩, ⟨(PyData.keyHash P "small"), (.str "small" 837), (.ref 414)⟩, ⟨(PyData.keyHash P "check_inner"), (.str "check_inner" 846), (.ref 421)⟩, ⟨(PyData.keyHash P "PlainSource"), (.str "PlainSource" 936), (.ref 481)⟩, ⟨(PyData.keyHash P "_law_stock"), (.str "_law_stock" 944), (.ref 492)⟩, ⟨(PyData.keyHash P "_law_words"), (.str "_law_words" 950), (.ref 499)⟩, ⟨(PyData.keyHash P "_law_pool"), (.str "_law_pool" 959), (.ref 506)⟩, ⟨(PyData.keyHash P "_law_take"), (.str "_law_take" 968), (.ref 513)⟩, ⟨(PyData.keyHash P "_law_row"), (.str "_law_row" 974), (.ref 518)⟩, ⟨(PyData.keyHash P "_law_triple"), (.str "_law_triple" 984), (.ref 525)⟩, ⟨(PyData.keyHash P "_law_past"), (.str "_law_past" 993), (.ref 532)⟩, ⟨(PyData.keyHash P "_law_signed"), (.str "_law_signed" 1002), (.ref 539)⟩, ⟨(PyData.keyHash P "_law_stands"), (.str "_law_stands" 1008), (.ref 544)⟩, ⟨(PyData.keyHash P "_law_small_due"), (.str "_law_small_due" 1014), (.ref 549)⟩, ⟨(PyData.keyHash P "_law_due"), (.str "_law_due" 1026), (.ref 556)⟩, ⟨(PyData.keyHash P "_law_met"), (.str "_law_met" 1035), (.ref 563)⟩, ⟨(PyData.keyHash P "_law_braces"), (.str "_law_braces" 1041), (.ref 568)⟩, ⟨(PyData.keyHash P "law"), (.str "law" 1057), (.ref 575)⟩] 138), #[]⟩
noncomputable def o653 : Obj := ⟨.none, none, (.fields #[(.int 1 0), (.int 0 0), (.ref 20), (.int 10 0), (.int 0 0), (.ref 47), (.int 14 0), (.int 0 0), (.ref 68), (.int 16 0), (.int 0 0), (.ref 80), (.int 18 0), (.int 0 0), (.ref 92), (.int 20 0), (.int 0 0), (.ref 104), (.int 22 0), (.int 0 0), (.ref 116), (.int 29 0), (.int 0 0), (.ref 132), (.int 31 0), (.int 0 0), (.ref 139), (.int 35 0), (.int 0 0), (.ref 146), (.int 39 0), (.int 0 0), (.ref 153), (.int 43 0), (.int 0 0), (.ref 160), (.int 49 0), (.int 0 0), (.ref 167), (.int 51 0), (.int 0 0), (.ref 174), (.int 62 0), (.int 0 0), (.ref 181), (.int 64 0), (.int 0 0), (.ref 188), (.int 66 0), (.int 0 0), (.ref 195), (.int 109 0), (.int 0 0), (.ref 281), (.int 117 0), (.int 0 0), (.ref 308), (.int 120 0), (.int 0 0), (.ref 315), (.int 125 0), (.int 0 0), (.ref 322), (.int 130 0), (.int 0 0), (.ref 329), (.int 134 0), (.int 0 0), (.ref 336), (.int 138 0), (.int 0 0), (.ref 343), (.int 143 0), (.int 0 0), (.ref 350), (.int 145 0), (.int 0 0), (.ref 357), (.int 157 0), (.int 0 0), (.ref 364), (.int 165 0), (.int 0 0), (.ref 371), (.int 177 0), (.int 0 0), (.ref 378), (.int 186 0), (.int 0 0), (.ref 385), (.int 202 0), (.int 0 0), (.ref 392), (.int 221 0), (.int 0 0), (.ref 399), (.int 232 0), (.int 0 0), (.ref 406), (.int 237 0), (.int 0 0), (.ref 413), (.int 242 0), (.int 0 0), (.ref 420), (.int 252 0), (.int 0 0), (.ref 427), (.int 304 0), (.int 0 0), (.ref 491), (.int 306 0), (.int 0 0), (.ref 498), (.int 308 0), (.int 0 0), (.ref 505), (.int 316 0), (.int 0 0), (.ref 512), (.int 323 0), (.int 0 0), (.ref 517), (.int 332 0), (.int 0 0), (.ref 524), (.int 339 0), (.int 0 0), (.ref 531), (.int 343 0), (.int 0 0), (.ref 538), (.int 349 0), (.int 0 0), (.ref 543), (.int 352 0), (.int 0 0), (.ref 548), (.int 366 0), (.int 0 0), (.ref 555), (.int 390 0), (.int 0 0), (.ref 562), (.int 415 0), (.int 0 0), (.ref 567), (.int 417 0), (.int 0 0), (.ref 574)]), #[]⟩
noncomputable def o654 : Obj := ⟨(.type "tuple"), none, (.seq #[] 0), #[]⟩
noncomputable def o655 : Obj := ⟨.none, none, (.fields #[]), #[]⟩
noncomputable def o656 : Obj := ⟨(.type "tuple"), none, (.seq #[(.str "script" 1045), (.str "pool" 1046), (.str "rest" 1047), (.str "source" 1048), (.str "balance" 1049), (.str "turn" 1050), (.str "way" 1051), (.str "more" 1052), (.str "due" 1053), (.str "found" 1054)] 0), #[]⟩
noncomputable def o657 : Obj := ⟨(.type "tuple"), none, (.seq #[] 0), #[]⟩
noncomputable def o658 : Obj := ⟨.none, none, (.func (fN 72 none "law" "law" 0 [] .none .none .none .none none .none .none 0)), #[]⟩
noncomputable def o659 : Obj := ⟨(.type "code"), none, (.fields #[(.str "law" 1042), (.str "law" 1043), (.str "/claim/cut.py" 1044), (.int 417 0), (.int 1 0), (.int 0 0), (.int 0 0), (.int 3 0), (.ref 569), (.bool true), (.int 181 0), (.ref 570), .none, (.ref 571), (.ref 572), (.ref 573), (.int 1055 0), (.int 417 0), (.str "/claim/cut.py" 1056)]), #[]⟩
noncomputable def o660 : Obj := ⟨(.type "function"), none, (.func (fN 72 none "law" "law" 3 [] .none .none .none (.str "law_sq0042_01" 937) none (.ref 574) .none 0)), #[]⟩
noncomputable def tree105 (P : Params) : BT := (node (boot_o_0 P) (node (boot_o_1 P) (node (o79 P) (node (boot_o_7 P) (node o51 (node o70 nil nil) (node o90 nil nil)) (node o59 (node o82 nil nil) (node o98 nil nil))) (node o43 (node o55 (node o74 nil nil) (node o94 nil nil)) (node o63 (node o86 nil nil) (node o102 nil nil)))) (node (boot_o_5 P) (node (boot_o_9 P) (node o53 (node o72 nil nil) (node o92 nil nil)) (node o61 (node o84 nil nil) (node o100 nil nil))) (node o45 (node o57 (node o76 nil nil) (node o96 nil nil)) (node o65 (node o88 nil nil) (node o104 nil nil))))) (node (boot_o_2 P) (node (boot_o_4 P) (node (boot_o_8 P) (node o52 (node o71 nil nil) (node o91 nil nil)) (node o60 (node o83 nil nil) (node o99 nil nil))) (node o80 (node o56 (node o75 nil nil) (node o95 nil nil)) (node o64 (node (o87 P) nil nil) (node o103 nil nil)))) (node (boot_o_6 P) (node (boot_o_10 P) (node o54 (node o73 nil nil) (node o93 nil nil)) (node o62 (node o85 nil nil) (node (o101 P) nil nil))) (node o46 (node o58 (node o81 nil nil) (node o97 nil nil)) (node o69 (node o89 nil nil) (node o105 nil nil))))))
noncomputable def tree167 (P : Params) : BT := (node (boot_o_0 P) (node (boot_o_1 P) (node (o153 P) (node (boot_o_7 P) (node o51 (node o70 (node o111 nil nil) (node (o149 P) nil nil)) (node o90 (node o130 nil nil) nil)) (node o59 (node o82 (node (o119 P) nil nil) (node o160 nil nil)) (node o98 (node o141 nil nil) nil))) (node o43 (node o55 (node o74 (node o115 nil nil) (node o156 nil nil)) (node o94 (node (o134 P) nil nil) nil)) (node o63 (node o86 (node o126 nil nil) (node (o164 P) nil nil)) (node o155 (node o145 nil nil) nil)))) (node (boot_o_5 P) (node (boot_o_9 P) (node o53 (node o72 (node (o113 P) nil nil) (node o151 nil nil)) (node o92 (node o132 nil nil) nil)) (node o61 (node o84 (node o121 nil nil) (node o162 nil nil)) (node o100 (node (o143 P) nil nil) nil))) (node o45 (node o57 (node o76 (node o117 nil nil) (node (o158 P) nil nil)) (node o96 (node o136 nil nil) nil)) (node o65 (node o88 (node (o128 P) nil nil) (node o166 nil nil)) (node o104 (node o147 nil nil) nil))))) (node (boot_o_2 P) (node (boot_o_4 P) (node (boot_o_8 P) (node o52 (node o71 (node o112 nil nil) (node o150 nil nil)) (node o91 (node o131 nil nil) nil)) (node o60 (node o83 (node o120 nil nil) (node o161 nil nil)) (node o99 (node o142 nil nil) nil))) (node o154 (node o56 (node o75 (node o116 nil nil) (node o157 nil nil)) (node o95 (node o135 nil nil) nil)) (node o64 (node (o87 P) (node o127 nil nil) (node o165 nil nil)) (node o103 (node o146 nil nil) nil)))) (node (boot_o_6 P) (node (boot_o_10 P) (node o54 (node o73 (node o114 nil nil) (node o152 nil nil)) (node o93 (node o133 nil nil) nil)) (node o62 (node o85 (node o122 nil nil) (node o163 nil nil)) (node (o101 P) (node o144 nil nil) nil))) (node o46 (node o58 (node o81 (node o118 nil nil) (node o159 nil nil)) (node o97 (node o137 nil nil) nil)) (node o69 (node o89 (node o129 nil nil) (node o167 nil nil)) (node o105 (node o148 nil nil) nil))))))
noncomputable def tree186 (P : Params) : BT := (node (boot_o_0 P) (node (boot_o_1 P) (node (o168 P) (node (boot_o_7 P) (node o51 (node o70 (node o111 nil nil) (node (o149 P) nil nil)) (node o90 (node o130 nil nil) (node o171 nil nil))) (node o59 (node o82 (node (o119 P) nil nil) (node o160 nil nil)) (node o98 (node o141 nil nil) (node (o179 P) nil nil)))) (node o43 (node o55 (node o74 (node o115 nil nil) (node o156 nil nil)) (node o94 (node (o134 P) nil nil) (node o175 nil nil))) (node o63 (node o86 (node o126 nil nil) (node (o164 P) nil nil)) (node o170 (node o145 nil nil) (node o183 nil nil))))) (node (boot_o_5 P) (node (boot_o_9 P) (node o53 (node o72 (node (o113 P) nil nil) (node o151 nil nil)) (node o92 (node o132 nil nil) (node (o173 P) nil nil))) (node o61 (node o84 (node o121 nil nil) (node o162 nil nil)) (node o100 (node (o143 P) nil nil) (node o181 nil nil)))) (node o45 (node o57 (node o76 (node o117 nil nil) (node (o158 P) nil nil)) (node o96 (node o136 nil nil) (node o177 nil nil))) (node o65 (node o88 (node (o128 P) nil nil) (node o166 nil nil)) (node o104 (node o147 nil nil) (node o185 nil nil)))))) (node (boot_o_2 P) (node (boot_o_4 P) (node (boot_o_8 P) (node o52 (node o71 (node o112 nil nil) (node o150 nil nil)) (node o91 (node o131 nil nil) (node o172 nil nil))) (node o60 (node o83 (node o120 nil nil) (node o161 nil nil)) (node o99 (node o142 nil nil) (node o180 nil nil)))) (node o169 (node o56 (node o75 (node o116 nil nil) (node o157 nil nil)) (node o95 (node o135 nil nil) (node o176 nil nil))) (node o64 (node (o87 P) (node o127 nil nil) (node o165 nil nil)) (node o103 (node o146 nil nil) (node o184 nil nil))))) (node (boot_o_6 P) (node (boot_o_10 P) (node o54 (node o73 (node o114 nil nil) (node o152 nil nil)) (node o93 (node o133 nil nil) (node o174 nil nil))) (node o62 (node o85 (node o122 nil nil) (node o163 nil nil)) (node (o101 P) (node o144 nil nil) (node o182 nil nil)))) (node o46 (node o58 (node o81 (node o118 nil nil) (node o159 nil nil)) (node o97 (node o137 nil nil) (node o178 nil nil))) (node o69 (node o89 (node o129 nil nil) (node o167 nil nil)) (node o105 (node o148 nil nil) (node o186 nil nil)))))))
noncomputable def tree327 (P : Params) : BT := (node (boot_o_0 P) (node (boot_o_1 P) (node (o254 P) (node (boot_o_7 P) (node o51 (node o70 (node o111 (node o191 (node o321 nil nil) nil) (node o257 nil nil)) (node (o149 P) (node o223 nil nil) (node o289 nil nil))) (node o90 (node o130 (node o207 nil nil) (node o273 nil nil)) (node o171 (node o239 nil nil) (node o305 nil nil)))) (node o59 (node o82 (node (o119 P) (node o199 nil nil) (node o265 nil nil)) (node o160 (node o231 nil nil) (node o297 nil nil))) (node o98 (node o141 (node o215 nil nil) (node o281 nil nil)) (node (o179 P) (node o247 nil nil) (node o313 nil nil))))) (node o43 (node o55 (node o74 (node o115 (node o195 (node o325 nil nil) nil) (node o261 nil nil)) (node o156 (node o227 nil nil) (node o293 nil nil))) (node o94 (node (o134 P) (node o211 nil nil) (node o277 nil nil)) (node o175 (node o243 nil nil) (node o309 nil nil)))) (node o63 (node o86 (node o126 (node o203 nil nil) (node o269 nil nil)) (node (o164 P) (node o235 nil nil) (node o301 nil nil))) (node o170 (node o145 (node o219 nil nil) (node o285 nil nil)) (node o183 (node o251 nil nil) (node o317 nil nil)))))) (node (boot_o_5 P) (node (boot_o_9 P) (node o53 (node o72 (node (o113 P) (node o193 (node o323 nil nil) nil) (node o259 nil nil)) (node o151 (node o225 nil nil) (node o291 nil nil))) (node o92 (node o132 (node o209 nil nil) (node o275 nil nil)) (node (o173 P) (node o241 nil nil) (node o307 nil nil)))) (node o61 (node o84 (node o121 (node o201 nil nil) (node o267 nil nil)) (node o162 (node o233 nil nil) (node o299 nil nil))) (node o100 (node (o143 P) (node o217 nil nil) (node o283 nil nil)) (node o181 (node o249 nil nil) (node o315 nil nil))))) (node o45 (node o57 (node o76 (node o117 (node o197 (node o327 nil nil) nil) (node o263 nil nil)) (node (o158 P) (node o229 nil nil) (node o295 nil nil))) (node o96 (node o136 (node o213 nil nil) (node o279 nil nil)) (node o177 (node o245 nil nil) (node o311 nil nil)))) (node o65 (node o88 (node (o128 P) (node o205 nil nil) (node o271 nil nil)) (node o166 (node o237 nil nil) (node o303 nil nil))) (node o104 (node o147 (node o221 nil nil) (node o287 nil nil)) (node o185 (node o253 nil nil) (node o319 nil nil))))))) (node (boot_o_2 P) (node (boot_o_4 P) (node (boot_o_8 P) (node o52 (node o71 (node o112 (node o192 (node (o322 P) nil nil) nil) (node (o258 P) nil nil)) (node o150 (node o224 nil nil) (node o290 nil nil))) (node o91 (node o131 (node o208 nil nil) (node o274 nil nil)) (node o172 (node o240 nil nil) (node o306 nil nil)))) (node o60 (node o83 (node o120 (node o200 nil nil) (node o266 nil nil)) (node o161 (node o232 nil nil) (node o298 nil nil))) (node o99 (node o142 (node o216 nil nil) (node o282 nil nil)) (node o180 (node o248 nil nil) (node o314 nil nil))))) (node o255 (node o56 (node o75 (node o116 (node o196 (node o326 nil nil) nil) (node o262 nil nil)) (node o157 (node o228 nil nil) (node o294 nil nil))) (node o95 (node o135 (node o212 nil nil) (node o278 nil nil)) (node o176 (node o244 nil nil) (node o310 nil nil)))) (node o64 (node (o87 P) (node o127 (node o204 nil nil) (node o270 nil nil)) (node o165 (node o236 nil nil) (node o302 nil nil))) (node o103 (node o146 (node o220 nil nil) (node o286 nil nil)) (node o184 (node o252 nil nil) (node o318 nil nil)))))) (node (boot_o_6 P) (node (boot_o_10 P) (node o54 (node o73 (node o114 (node o194 (node o324 nil nil) nil) (node o260 nil nil)) (node o152 (node o226 nil nil) (node o292 nil nil))) (node o93 (node o133 (node o210 nil nil) (node o276 nil nil)) (node o174 (node o242 nil nil) (node o308 nil nil)))) (node o62 (node o85 (node o122 (node o202 nil nil) (node o268 nil nil)) (node o163 (node o234 nil nil) (node o300 nil nil))) (node (o101 P) (node o144 (node o218 nil nil) (node o284 nil nil)) (node o182 (node o250 nil nil) (node o316 nil nil))))) (node o46 (node o58 (node o81 (node o118 (node o198 nil nil) (node o264 nil nil)) (node o159 (node o230 nil nil) (node o296 nil nil))) (node o97 (node o137 (node o214 nil nil) (node o280 nil nil)) (node o178 (node o246 nil nil) (node o312 nil nil)))) (node o69 (node o89 (node o129 (node o206 nil nil) (node o272 nil nil)) (node o167 (node o238 nil nil) (node o304 nil nil))) (node o105 (node o148 (node o222 nil nil) (node o288 nil nil)) (node o186 (node o256 nil nil) (node o320 nil nil))))))))
noncomputable def tree412 (P : Params) : BT := (node (boot_o_0 P) (node (boot_o_1 P) (node (o360 P) (node (boot_o_7 P) (node o51 (node o70 (node o111 (node o191 (node o321 nil nil) nil) (node o257 (node o394 nil nil) nil)) (node (o149 P) (node o223 (node o362 nil nil) nil) (node o289 nil nil))) (node o90 (node o130 (node o207 (node o342 nil nil) nil) (node o273 (node o410 nil nil) nil)) (node o171 (node o239 (node o378 nil nil) nil) (node o305 nil nil)))) (node o59 (node o82 (node (o119 P) (node o199 (node o330 nil nil) nil) (node o265 (node o402 nil nil) nil)) (node o160 (node o231 (node o370 nil nil) nil) (node o297 nil nil))) (node o98 (node o141 (node o215 (node o350 nil nil) nil) (node o281 nil nil)) (node (o179 P) (node o247 (node o386 nil nil) nil) (node o313 nil nil))))) (node o43 (node o55 (node o74 (node o115 (node o195 (node o325 nil nil) nil) (node o261 (node o398 nil nil) nil)) (node o156 (node o227 (node o366 nil nil) nil) (node o293 nil nil))) (node o94 (node (o134 P) (node o211 (node o346 nil nil) nil) (node o277 nil nil)) (node o175 (node o243 (node o382 nil nil) nil) (node o309 nil nil)))) (node o63 (node o86 (node o126 (node o203 (node o334 nil nil) nil) (node o269 (node o406 nil nil) nil)) (node (o164 P) (node o235 (node o374 nil nil) nil) (node o301 nil nil))) (node o170 (node o145 (node o219 (node o354 nil nil) nil) (node o285 nil nil)) (node o183 (node o251 (node o390 nil nil) nil) (node o317 nil nil)))))) (node (boot_o_5 P) (node (boot_o_9 P) (node o53 (node o72 (node (o113 P) (node o193 (node o323 nil nil) nil) (node o259 (node o396 nil nil) nil)) (node o151 (node o225 (node o364 nil nil) nil) (node o291 nil nil))) (node o92 (node o132 (node o209 (node o344 nil nil) nil) (node o275 (node o412 nil nil) nil)) (node (o173 P) (node o241 (node o380 nil nil) nil) (node o307 nil nil)))) (node o61 (node o84 (node o121 (node o201 (node o332 nil nil) nil) (node o267 (node o404 nil nil) nil)) (node o162 (node o233 (node o372 nil nil) nil) (node o299 nil nil))) (node o100 (node (o143 P) (node o217 (node o352 nil nil) nil) (node o283 nil nil)) (node o181 (node o249 (node o388 nil nil) nil) (node o315 nil nil))))) (node o45 (node o57 (node o76 (node o117 (node o197 (node o327 nil nil) nil) (node o263 (node o400 nil nil) nil)) (node (o158 P) (node o229 (node o368 nil nil) nil) (node o295 nil nil))) (node o96 (node o136 (node o213 (node o348 nil nil) nil) (node o279 nil nil)) (node o177 (node o245 (node o384 nil nil) nil) (node o311 nil nil)))) (node o65 (node o88 (node (o128 P) (node o205 (node o336 nil nil) nil) (node o271 (node o408 nil nil) nil)) (node o166 (node o237 (node o376 nil nil) nil) (node o303 nil nil))) (node o104 (node o147 (node o221 (node o356 nil nil) nil) (node o287 nil nil)) (node o185 (node o253 (node o392 nil nil) nil) (node o319 nil nil))))))) (node (boot_o_2 P) (node (boot_o_4 P) (node (boot_o_8 P) (node o52 (node o71 (node o112 (node o192 (node (o322 P) nil nil) nil) (node (o258 P) (node o395 nil nil) nil)) (node o150 (node o224 (node o363 nil nil) nil) (node o290 nil nil))) (node o91 (node o131 (node o208 (node o343 nil nil) nil) (node o274 (node o411 nil nil) nil)) (node o172 (node o240 (node o379 nil nil) nil) (node o306 nil nil)))) (node o60 (node o83 (node o120 (node o200 (node o331 nil nil) nil) (node o266 (node o403 nil nil) nil)) (node o161 (node o232 (node o371 nil nil) nil) (node o298 nil nil))) (node o99 (node o142 (node o216 (node o351 nil nil) nil) (node o282 nil nil)) (node o180 (node o248 (node o387 nil nil) nil) (node o314 nil nil))))) (node o361 (node o56 (node o75 (node o116 (node o196 (node o326 nil nil) nil) (node o262 (node o399 nil nil) nil)) (node o157 (node o228 (node o367 nil nil) nil) (node o294 nil nil))) (node o95 (node o135 (node o212 (node o347 nil nil) nil) (node o278 nil nil)) (node o176 (node o244 (node o383 nil nil) nil) (node o310 nil nil)))) (node o64 (node (o87 P) (node o127 (node o204 (node o335 nil nil) nil) (node o270 (node o407 nil nil) nil)) (node o165 (node o236 (node o375 nil nil) nil) (node o302 nil nil))) (node o103 (node o146 (node o220 (node o355 nil nil) nil) (node o286 nil nil)) (node o184 (node o252 (node o391 nil nil) nil) (node o318 nil nil)))))) (node (boot_o_6 P) (node (boot_o_10 P) (node o54 (node o73 (node o114 (node o194 (node o324 nil nil) nil) (node o260 (node o397 nil nil) nil)) (node o152 (node o226 (node o365 nil nil) nil) (node o292 nil nil))) (node o93 (node o133 (node o210 (node o345 nil nil) nil) (node o276 nil nil)) (node o174 (node o242 (node o381 nil nil) nil) (node o308 nil nil)))) (node o62 (node o85 (node o122 (node o202 (node o333 nil nil) nil) (node o268 (node o405 nil nil) nil)) (node o163 (node o234 (node o373 nil nil) nil) (node o300 nil nil))) (node (o101 P) (node o144 (node o218 (node o353 nil nil) nil) (node o284 nil nil)) (node o182 (node o250 (node o389 nil nil) nil) (node o316 nil nil))))) (node o46 (node o58 (node o81 (node o118 (node o198 (node o329 nil nil) nil) (node o264 (node o401 nil nil) nil)) (node o159 (node o230 (node o369 nil nil) nil) (node o296 nil nil))) (node o97 (node o137 (node o214 (node o349 nil nil) nil) (node o280 nil nil)) (node o178 (node o246 (node o385 nil nil) nil) (node o312 nil nil)))) (node o69 (node o89 (node o129 (node o206 (node o341 nil nil) nil) (node o272 (node o409 nil nil) nil)) (node o167 (node o238 (node o377 nil nil) nil) (node o304 nil nil))) (node o105 (node o148 (node o222 (node o357 nil nil) nil) (node o288 nil nil)) (node o186 (node o256 (node o393 nil nil) nil) (node o320 nil nil))))))))
noncomputable def tree566 (P : Params) : BT := (node (boot_o_0 P) (node (boot_o_1 P) (node (o501 P) (node (boot_o_7 P) (node o51 (node o70 (node o111 (node o191 (node o321 nil nil) (node o462 nil nil)) (node o257 (node o394 nil nil) (node o528 nil nil))) (node (o149 P) (node o223 (node o362 nil nil) (node o494 nil nil)) (node o289 (node o430 nil nil) (node o560 nil nil)))) (node o90 (node o130 (node o207 (node o342 nil nil) (node o478 nil nil)) (node o273 (node o410 nil nil) (node o544 nil nil))) (node o171 (node o239 (node o378 nil nil) (node o512 nil nil)) (node o305 (node o446 nil nil) nil)))) (node o59 (node o82 (node (o119 P) (node o199 (node o330 nil nil) (node o470 nil nil)) (node o265 (node o402 nil nil) (node o536 nil nil))) (node o160 (node o231 (node o370 nil nil) (node o504 nil nil)) (node o297 (node o438 nil nil) nil))) (node o98 (node o141 (node o215 (node o350 nil nil) (node o486 nil nil)) (node o281 (node o422 nil nil) (node o552 nil nil))) (node (o179 P) (node o247 (node o386 nil nil) (node o520 nil nil)) (node o313 (node o454 nil nil) nil))))) (node o43 (node o55 (node o74 (node o115 (node o195 (node o325 nil nil) (node o466 nil nil)) (node o261 (node o398 nil nil) (node o532 nil nil))) (node o156 (node o227 (node o366 nil nil) (node o498 nil nil)) (node o293 (node o434 nil nil) (node o564 nil nil)))) (node o94 (node (o134 P) (node o211 (node o346 nil nil) (node o482 nil nil)) (node o277 (node o418 nil nil) (node o548 nil nil))) (node o175 (node o243 (node o382 nil nil) (node o516 nil nil)) (node o309 (node o450 nil nil) nil)))) (node o63 (node o86 (node o126 (node o203 (node o334 nil nil) (node o474 nil nil)) (node o269 (node o406 nil nil) (node o540 nil nil))) (node (o164 P) (node o235 (node o374 nil nil) (node o508 nil nil)) (node o301 (node o442 nil nil) nil))) (node o170 (node o145 (node o219 (node o354 nil nil) (node o490 nil nil)) (node o285 (node o426 nil nil) (node o556 nil nil))) (node o183 (node o251 (node o390 nil nil) (node o524 nil nil)) (node o317 (node o458 nil nil) nil)))))) (node (boot_o_5 P) (node (boot_o_9 P) (node o53 (node o72 (node (o113 P) (node o193 (node o323 nil nil) (node o464 nil nil)) (node o259 (node o396 nil nil) (node o530 nil nil))) (node o151 (node o225 (node o364 nil nil) (node o496 nil nil)) (node o291 (node o432 nil nil) (node o562 nil nil)))) (node o92 (node o132 (node o209 (node o344 nil nil) (node o480 nil nil)) (node o275 (node o412 nil nil) (node o546 nil nil))) (node (o173 P) (node o241 (node o380 nil nil) (node o514 nil nil)) (node o307 (node o448 nil nil) nil)))) (node o61 (node o84 (node o121 (node o201 (node o332 nil nil) (node o472 nil nil)) (node o267 (node o404 nil nil) (node o538 nil nil))) (node o162 (node o233 (node o372 nil nil) (node o506 nil nil)) (node o299 (node o440 nil nil) nil))) (node o100 (node (o143 P) (node o217 (node o352 nil nil) (node o488 nil nil)) (node o283 (node o424 nil nil) (node o554 nil nil))) (node o181 (node o249 (node o388 nil nil) (node o522 nil nil)) (node o315 (node o456 nil nil) nil))))) (node o45 (node o57 (node o76 (node o117 (node o197 (node o327 nil nil) (node o468 nil nil)) (node o263 (node o400 nil nil) (node o534 nil nil))) (node (o158 P) (node o229 (node o368 nil nil) (node o500 nil nil)) (node o295 (node o436 nil nil) (node o566 nil nil)))) (node o96 (node o136 (node o213 (node o348 nil nil) (node o484 nil nil)) (node o279 (node o420 nil nil) (node o550 nil nil))) (node o177 (node o245 (node o384 nil nil) (node o518 nil nil)) (node o311 (node o452 nil nil) nil)))) (node o65 (node o88 (node (o128 P) (node o205 (node o336 nil nil) (node o476 nil nil)) (node o271 (node o408 nil nil) (node o542 nil nil))) (node o166 (node o237 (node o376 nil nil) (node o510 nil nil)) (node o303 (node o444 nil nil) nil))) (node o104 (node o147 (node o221 (node o356 nil nil) (node o492 nil nil)) (node o287 (node o428 nil nil) (node o558 nil nil))) (node o185 (node o253 (node o392 nil nil) (node o526 nil nil)) (node o319 (node o460 nil nil) nil))))))) (node (boot_o_2 P) (node (boot_o_4 P) (node (boot_o_8 P) (node o52 (node o71 (node o112 (node o192 (node (o322 P) nil nil) (node o463 nil nil)) (node (o258 P) (node o395 nil nil) (node o529 nil nil))) (node o150 (node o224 (node o363 nil nil) (node o495 nil nil)) (node o290 (node o431 nil nil) (node (o561 P) nil nil)))) (node o91 (node o131 (node o208 (node o343 nil nil) (node o479 nil nil)) (node o274 (node o411 nil nil) (node o545 nil nil))) (node o172 (node o240 (node o379 nil nil) (node o513 nil nil)) (node o306 (node o447 nil nil) nil)))) (node o60 (node o83 (node o120 (node o200 (node o331 nil nil) (node o471 nil nil)) (node o266 (node o403 nil nil) (node o537 nil nil))) (node o161 (node o232 (node o371 nil nil) (node (o505 P) nil nil)) (node o298 (node o439 nil nil) nil))) (node o99 (node o142 (node o216 (node o351 nil nil) (node o487 nil nil)) (node o282 (node o423 nil nil) (node o553 nil nil))) (node o180 (node o248 (node o387 nil nil) (node o521 nil nil)) (node o314 (node o455 nil nil) nil))))) (node o502 (node o56 (node o75 (node o116 (node o196 (node o326 nil nil) (node o467 nil nil)) (node o262 (node o399 nil nil) (node o533 nil nil))) (node o157 (node o228 (node o367 nil nil) (node o499 nil nil)) (node o294 (node o435 nil nil) (node o565 nil nil)))) (node o95 (node o135 (node o212 (node o347 nil nil) (node o483 nil nil)) (node o278 (node o419 nil nil) (node o549 nil nil))) (node o176 (node o244 (node o383 nil nil) (node o517 nil nil)) (node o310 (node o451 nil nil) nil)))) (node o64 (node (o87 P) (node o127 (node o204 (node o335 nil nil) (node o475 nil nil)) (node o270 (node o407 nil nil) (node o541 nil nil))) (node o165 (node o236 (node o375 nil nil) (node o509 nil nil)) (node o302 (node o443 nil nil) nil))) (node o103 (node o146 (node o220 (node o355 nil nil) (node o491 nil nil)) (node o286 (node o427 nil nil) (node o557 nil nil))) (node o184 (node o252 (node o391 nil nil) (node o525 nil nil)) (node o318 (node o459 nil nil) nil)))))) (node (boot_o_6 P) (node (boot_o_10 P) (node o54 (node o73 (node o114 (node o194 (node o324 nil nil) (node o465 nil nil)) (node o260 (node o397 nil nil) (node o531 nil nil))) (node o152 (node o226 (node o365 nil nil) (node o497 nil nil)) (node o292 (node o433 nil nil) (node o563 nil nil)))) (node o93 (node o133 (node o210 (node o345 nil nil) (node o481 nil nil)) (node o276 (node o417 nil nil) (node o547 nil nil))) (node o174 (node o242 (node o381 nil nil) (node o515 nil nil)) (node o308 (node o449 nil nil) nil)))) (node o62 (node o85 (node o122 (node o202 (node o333 nil nil) (node o473 nil nil)) (node o268 (node o405 nil nil) (node o539 nil nil))) (node o163 (node o234 (node o373 nil nil) (node o507 nil nil)) (node o300 (node o441 nil nil) nil))) (node (o101 P) (node o144 (node o218 (node o353 nil nil) (node o489 nil nil)) (node o284 (node o425 nil nil) (node o555 nil nil))) (node o182 (node o250 (node o389 nil nil) (node o523 nil nil)) (node o316 (node o457 nil nil) nil))))) (node o46 (node o58 (node o81 (node o118 (node o198 (node o329 nil nil) (node o469 nil nil)) (node o264 (node o401 nil nil) (node o535 nil nil))) (node o159 (node o230 (node o369 nil nil) (node o503 nil nil)) (node o296 (node o437 nil nil) nil))) (node o97 (node o137 (node o214 (node o349 nil nil) (node o485 nil nil)) (node o280 (node o421 nil nil) (node o551 nil nil))) (node o178 (node o246 (node o385 nil nil) (node o519 nil nil)) (node o312 (node o453 nil nil) nil)))) (node o69 (node o89 (node o129 (node o206 (node o341 nil nil) (node o477 nil nil)) (node o272 (node o409 nil nil) (node o543 nil nil))) (node o167 (node o238 (node o377 nil nil) (node o511 nil nil)) (node o304 (node o445 nil nil) nil))) (node o105 (node o148 (node o222 (node o357 nil nil) (node o493 nil nil)) (node o288 (node o429 nil nil) (node o559 nil nil))) (node o186 (node o256 (node o393 nil nil) (node o527 nil nil)) (node o320 (node o461 nil nil) nil))))))))
noncomputable def tree660 (P : Params) : BT := (node (boot_o_0 P) (node (boot_o_1 P) (node (o652 P) (node (boot_o_7 P) (node o51 (node o70 (node o111 (node o191 (node o321 (node o594 nil nil) nil) (node o462 nil nil)) (node o257 (node o394 (node o660 nil nil) nil) (node o528 nil nil))) (node (o149 P) (node o223 (node o362 (node o626 nil nil) nil) (node o494 nil nil)) (node o289 (node o430 nil nil) (node o560 nil nil)))) (node o90 (node o130 (node o207 (node o342 (node o610 nil nil) nil) (node o478 nil nil)) (node o273 (node o410 nil nil) (node o544 nil nil))) (node o171 (node o239 (node o378 (node o642 nil nil) nil) (node o512 nil nil)) (node o305 (node o446 nil nil) (node o578 nil nil))))) (node o59 (node o82 (node (o119 P) (node o199 (node o330 (node o602 nil nil) nil) (node o470 nil nil)) (node o265 (node o402 nil nil) (node o536 nil nil))) (node o160 (node o231 (node o370 (node o634 nil nil) nil) (node o504 nil nil)) (node o297 (node o438 nil nil) (node o570 nil nil)))) (node o98 (node o141 (node o215 (node o350 (node o618 nil nil) nil) (node o486 nil nil)) (node o281 (node o422 nil nil) (node o552 nil nil))) (node (o179 P) (node o247 (node o386 (node o650 nil nil) nil) (node o520 nil nil)) (node o313 (node o454 nil nil) (node o586 nil nil)))))) (node o43 (node o55 (node o74 (node o115 (node o195 (node o325 (node o598 nil nil) nil) (node o466 nil nil)) (node o261 (node o398 nil nil) (node o532 nil nil))) (node o156 (node o227 (node o366 (node o630 nil nil) nil) (node o498 nil nil)) (node o293 (node o434 nil nil) (node o564 nil nil)))) (node o94 (node (o134 P) (node o211 (node o346 (node o614 nil nil) nil) (node o482 nil nil)) (node o277 (node o418 nil nil) (node o548 nil nil))) (node o175 (node o243 (node o382 (node o646 nil nil) nil) (node o516 nil nil)) (node o309 (node o450 nil nil) (node o582 nil nil))))) (node o63 (node o86 (node o126 (node o203 (node o334 (node o606 nil nil) nil) (node o474 nil nil)) (node o269 (node o406 nil nil) (node o540 nil nil))) (node (o164 P) (node o235 (node o374 (node o638 nil nil) nil) (node o508 nil nil)) (node o301 (node o442 nil nil) (node o574 nil nil)))) (node o170 (node o145 (node o219 (node o354 (node o622 nil nil) nil) (node o490 nil nil)) (node o285 (node o426 nil nil) (node o556 nil nil))) (node o183 (node o251 (node o390 (node o656 nil nil) nil) (node o524 nil nil)) (node o317 (node o458 nil nil) (node o590 nil nil))))))) (node (boot_o_5 P) (node (boot_o_9 P) (node o53 (node o72 (node (o113 P) (node o193 (node o323 (node o596 nil nil) nil) (node o464 nil nil)) (node o259 (node o396 nil nil) (node o530 nil nil))) (node o151 (node o225 (node o364 (node o628 nil nil) nil) (node o496 nil nil)) (node o291 (node o432 nil nil) (node o562 nil nil)))) (node o92 (node o132 (node o209 (node o344 (node o612 nil nil) nil) (node o480 nil nil)) (node o275 (node o412 nil nil) (node o546 nil nil))) (node (o173 P) (node o241 (node o380 (node o644 nil nil) nil) (node o514 nil nil)) (node o307 (node o448 nil nil) (node o580 nil nil))))) (node o61 (node o84 (node o121 (node o201 (node o332 (node o604 nil nil) nil) (node o472 nil nil)) (node o267 (node o404 nil nil) (node o538 nil nil))) (node o162 (node o233 (node o372 (node o636 nil nil) nil) (node o506 nil nil)) (node o299 (node o440 nil nil) (node o572 nil nil)))) (node o100 (node (o143 P) (node o217 (node o352 (node o620 nil nil) nil) (node o488 nil nil)) (node o283 (node o424 nil nil) (node o554 nil nil))) (node o181 (node o249 (node o388 (node o654 nil nil) nil) (node o522 nil nil)) (node o315 (node o456 nil nil) (node o588 nil nil)))))) (node o45 (node o57 (node o76 (node o117 (node o197 (node o327 (node o600 nil nil) nil) (node o468 nil nil)) (node o263 (node o400 nil nil) (node o534 nil nil))) (node (o158 P) (node o229 (node o368 (node o632 nil nil) nil) (node o500 nil nil)) (node o295 (node o436 nil nil) (node o566 nil nil)))) (node o96 (node o136 (node o213 (node o348 (node o616 nil nil) nil) (node o484 nil nil)) (node o279 (node o420 nil nil) (node o550 nil nil))) (node o177 (node o245 (node o384 (node o648 nil nil) nil) (node o518 nil nil)) (node o311 (node o452 nil nil) (node o584 nil nil))))) (node o65 (node o88 (node (o128 P) (node o205 (node o336 (node o608 nil nil) nil) (node o476 nil nil)) (node o271 (node o408 nil nil) (node o542 nil nil))) (node o166 (node o237 (node o376 (node o640 nil nil) nil) (node o510 nil nil)) (node o303 (node o444 nil nil) (node o576 nil nil)))) (node o104 (node o147 (node o221 (node o356 (node o624 nil nil) nil) (node o492 nil nil)) (node o287 (node o428 nil nil) (node o558 nil nil))) (node o185 (node o253 (node o392 (node o658 nil nil) nil) (node o526 nil nil)) (node o319 (node o460 nil nil) (node o592 nil nil)))))))) (node (boot_o_2 P) (node (boot_o_4 P) (node (boot_o_8 P) (node o52 (node o71 (node o112 (node o192 (node (o322 P) (node o595 nil nil) nil) (node o463 nil nil)) (node (o258 P) (node o395 nil nil) (node o529 nil nil))) (node o150 (node o224 (node o363 (node o627 nil nil) nil) (node o495 nil nil)) (node o290 (node o431 nil nil) (node (o561 P) nil nil)))) (node o91 (node o131 (node o208 (node o343 (node o611 nil nil) nil) (node o479 nil nil)) (node o274 (node o411 nil nil) (node o545 nil nil))) (node o172 (node o240 (node o379 (node o643 nil nil) nil) (node o513 nil nil)) (node o306 (node o447 nil nil) (node o579 nil nil))))) (node o60 (node o83 (node o120 (node o200 (node o331 (node o603 nil nil) nil) (node o471 nil nil)) (node o266 (node o403 nil nil) (node o537 nil nil))) (node o161 (node o232 (node o371 (node o635 nil nil) nil) (node (o505 P) nil nil)) (node o298 (node o439 nil nil) (node o571 nil nil)))) (node o99 (node o142 (node o216 (node o351 (node o619 nil nil) nil) (node o487 nil nil)) (node o282 (node o423 nil nil) (node o553 nil nil))) (node o180 (node o248 (node o387 (node o651 nil nil) nil) (node o521 nil nil)) (node o314 (node o455 nil nil) (node o587 nil nil)))))) (node o653 (node o56 (node o75 (node o116 (node o196 (node o326 (node o599 nil nil) nil) (node o467 nil nil)) (node o262 (node o399 nil nil) (node o533 nil nil))) (node o157 (node o228 (node o367 (node o631 nil nil) nil) (node o499 nil nil)) (node o294 (node o435 nil nil) (node o565 nil nil)))) (node o95 (node o135 (node o212 (node o347 (node o615 nil nil) nil) (node o483 nil nil)) (node o278 (node o419 nil nil) (node o549 nil nil))) (node o176 (node o244 (node o383 (node o647 nil nil) nil) (node o517 nil nil)) (node o310 (node o451 nil nil) (node o583 nil nil))))) (node o64 (node (o87 P) (node o127 (node o204 (node o335 (node o607 nil nil) nil) (node o475 nil nil)) (node o270 (node o407 nil nil) (node o541 nil nil))) (node o165 (node o236 (node o375 (node o639 nil nil) nil) (node o509 nil nil)) (node o302 (node o443 nil nil) (node o575 nil nil)))) (node o103 (node o146 (node o220 (node o355 (node o623 nil nil) nil) (node o491 nil nil)) (node o286 (node o427 nil nil) (node o557 nil nil))) (node o184 (node o252 (node o391 (node o657 nil nil) nil) (node o525 nil nil)) (node o318 (node o459 nil nil) (node o591 nil nil))))))) (node (boot_o_6 P) (node (boot_o_10 P) (node o54 (node o73 (node o114 (node o194 (node o324 (node o597 nil nil) nil) (node o465 nil nil)) (node o260 (node o397 nil nil) (node o531 nil nil))) (node o152 (node o226 (node o365 (node o629 nil nil) nil) (node o497 nil nil)) (node o292 (node o433 nil nil) (node o563 nil nil)))) (node o93 (node o133 (node o210 (node o345 (node o613 nil nil) nil) (node o481 nil nil)) (node o276 (node o417 nil nil) (node o547 nil nil))) (node o174 (node o242 (node o381 (node o645 nil nil) nil) (node o515 nil nil)) (node o308 (node o449 nil nil) (node o581 nil nil))))) (node o62 (node o85 (node o122 (node o202 (node o333 (node o605 nil nil) nil) (node o473 nil nil)) (node o268 (node o405 nil nil) (node o539 nil nil))) (node o163 (node o234 (node o373 (node o637 nil nil) nil) (node o507 nil nil)) (node o300 (node o441 nil nil) (node o573 nil nil)))) (node (o101 P) (node o144 (node o218 (node o353 (node o621 nil nil) nil) (node o489 nil nil)) (node o284 (node o425 nil nil) (node o555 nil nil))) (node o182 (node o250 (node o389 (node o655 nil nil) nil) (node o523 nil nil)) (node o316 (node o457 nil nil) (node o589 nil nil)))))) (node o46 (node o58 (node o81 (node o118 (node o198 (node o329 (node o601 nil nil) nil) (node o469 nil nil)) (node o264 (node o401 nil nil) (node o535 nil nil))) (node o159 (node o230 (node o369 (node o633 nil nil) nil) (node o503 nil nil)) (node o296 (node o437 nil nil) (node o569 nil nil)))) (node o97 (node o137 (node o214 (node o349 (node o617 nil nil) nil) (node o485 nil nil)) (node o280 (node o421 nil nil) (node o551 nil nil))) (node o178 (node o246 (node o385 (node o649 nil nil) nil) (node o519 nil nil)) (node o312 (node o453 nil nil) (node o585 nil nil))))) (node o69 (node o89 (node o129 (node o206 (node o341 (node o609 nil nil) nil) (node o477 nil nil)) (node o272 (node o409 nil nil) (node o543 nil nil))) (node o167 (node o238 (node o377 (node o641 nil nil) nil) (node o511 nil nil)) (node o304 (node o445 nil nil) (node o577 nil nil)))) (node o105 (node o148 (node o222 (node o357 (node o625 nil nil) nil) (node o493 nil nil)) (node o288 (node o429 nil nil) (node o559 nil nil))) (node o186 (node o256 (node o393 (node o659 nil nil) nil) (node o527 nil nil)) (node o320 (node o461 nil nil) (node o593 nil nil)))))))))
end Mine
/-! ## H5 -/
namespace Mine
open PySem PySem.W PySem.Calls PyProof.Rows
/-- one piece of the top: k statements from the a-th on, n steps at most -/
noncomputable def Piece (a k n : Nat) (T T' : Params → BT) (z z' u u' : Nat) (p p' : Pos) (w : World) : Prop :=
  (fun os => segRunT treeTable PG w 11 (some (.ref 6)) 1 n ⟨T w.params, z, {}, #[], {}, u, os⟩ (piecesOf ((bodyT.drop a).take k) envT codeT p [topFrame p0])) = fun os => some (.next, ⟨T' w.params, z', {}, #[], {}, u', os⟩, codeT, p')
open PySem.W.Fast in
theorem pcAf (w : World) : Piece 0 8 1016 treeT tree105 15 63 187 292 p0 ⟨10, 0, 13, 28⟩ (w.withFollow "special-get-raises" false) := by
  delta Piece
  rw [te10110043849684766642, te14364793385576792824]
  kernel_rfl
open PySem.W.Fast in
theorem pcAt (w : World) : Piece 0 8 1016 treeT tree105 15 63 187 292 p0 ⟨10, 0, 13, 28⟩ (w.withFollow "special-get-raises" true) := by
  delta Piece
  rw [te10110043849684766642, te14364793385576792824]
  kernel_rfl
theorem pcA (w : World) : Piece 0 8 1016 treeT tree105 15 63 187 292 p0 ⟨10, 0, 13, 28⟩ w := byRow2 "special-get-raises" (P := fun w => Piece 0 8 1016 treeT tree105 15 63 187 292 p0 ⟨10, 0, 13, 28⟩ w) pcAf pcAt w
open PySem.W.Fast in
theorem pcB (w : World) : Piece 8 4 853 tree105 tree167 63 111 292 356 ⟨10, 0, 13, 28⟩ ⟨20, 0, 21, 8⟩ w := by
  delta Piece
  rw [te10110043849684766642, te14364793385576792824]
  kernel_rfl
open PySem.W.Fast in
theorem pcCf (w : World) : Piece 12 6 375 tree167 tree186 111 127 356 396 ⟨20, 0, 21, 8⟩ ⟨28, 19, 28, 24⟩ (w.withFollow "special-get-raises" false) := by
  delta Piece
  rw [te10110043849684766642, te14364793385576792824]
  kernel_rfl
open PySem.W.Fast in
theorem pcCt (w : World) : Piece 12 6 375 tree167 tree186 111 127 356 396 ⟨20, 0, 21, 8⟩ ⟨28, 19, 28, 24⟩ (w.withFollow "special-get-raises" true) := by
  delta Piece
  rw [te10110043849684766642, te14364793385576792824]
  kernel_rfl
theorem pcC (w : World) : Piece 12 6 375 tree167 tree186 111 127 356 396 ⟨20, 0, 21, 8⟩ ⟨28, 19, 28, 24⟩ w := byRow2 "special-get-raises" (P := fun w => Piece 12 6 375 tree167 tree186 111 127 356 396 ⟨20, 0, 21, 8⟩ ⟨28, 19, 28, 24⟩ w) pcCf pcCt w
open PySem.W.Fast in
theorem pcD (w : World) : Piece 18 10 735 tree186 tree327 127 262 396 569 ⟨28, 19, 28, 24⟩ ⟨66, 0, 101, 20⟩ w := by
  delta Piece
  rw [te10110043849684766642, te14364793385576792824]
  kernel_rfl
open PySem.W.Fast in
theorem pcEf (w : World) : Piece 28 17 1108 tree327 tree412 262 338 569 729 ⟨66, 0, 101, 20⟩ ⟨134, 0, 137, 29⟩ (w.withFollow "special-get-raises" false) := by
  delta Piece
  rw [te10110043849684766642, te14364793385576792824]
  kernel_rfl
open PySem.W.Fast in
theorem pcEt (w : World) : Piece 28 17 1108 tree327 tree412 262 338 569 729 ⟨66, 0, 101, 20⟩ ⟨134, 0, 137, 29⟩ (w.withFollow "special-get-raises" true) := by
  delta Piece
  rw [te10110043849684766642, te14364793385576792824]
  kernel_rfl
theorem pcE (w : World) : Piece 28 17 1108 tree327 tree412 262 338 569 729 ⟨66, 0, 101, 20⟩ ⟨134, 0, 137, 29⟩ w := byRow2 "special-get-raises" (P := fun w => Piece 28 17 1108 tree327 tree412 262 338 569 729 ⟨66, 0, 101, 20⟩ ⟨134, 0, 137, 29⟩ w) pcEf pcEt w
open PySem.W.Fast in
theorem pcF (w : World) : Piece 45 13 811 tree412 tree566 338 486 729 937 ⟨134, 0, 137, 29⟩ ⟨252, 0, 302, 16⟩ w := by
  delta Piece
  rw [te10110043849684766642, te14364793385576792824]
  kernel_rfl
open PySem.W.Fast in
theorem pcG (w : World) : Piece 58 15 429 tree566 tree660 486 576 937 1058 ⟨252, 0, 302, 16⟩ ⟨417, 0, 442, 15⟩ w := by
  delta Piece
  rw [te10110043849684766642, te14364793385576792824]
  kernel_rfl
end Mine
/-! ## H6 -/
namespace Mine
open PySem PySem.W PySem.Calls PyProof.Rows
open PySem.W.Fast in
theorem lo1 : (sreFenced PG.main && ((moduleNames PG.main.body).isEmpty || lookedIntoSs (moduleNames PG.main.body) PG.main.body)) = true := by
  rw [te11788848310118352699]
  kernel_rfl
open PySem.W.Fast in
theorem lo2 : namesResolve PG = true := by
  rw [te8377067652309620493]
  kernel_rfl
theorem lo3 : PG.boundNames.all (fun n => !worldNames.contains n) = true := by
  kernel_rfl
open PySem.W.Fast in
theorem lo4 : noRoadLSs { strict := !(importedModules PG.main.body).all cThrough.contains, foot := none, bare := (["vars", "dir", "locals"] : List Str).filter (readsOut PG PG.main.body) } PG.main.body = true := by
  rw [te8326940854005059898, te5923862056798008813, te13343964577679436407]
  kernel_rfl
open PySem.W.Fast in
theorem lo5 : namesMeet PG PG.main.body (fun _ n => attrL n) = true := by
  rw [te17119622794617984870]
  kernel_rfl
theorem lo : looksOpen PG = true := by
  delta looksOpen
  exact look_both (look_both (look_both (look_both lo1 lo2) lo3) lo4) lo5
open PySem.W.Fast in
theorem said : PySem.Challenge.rw_sq0042_01.wellSaid = true := by
  rw [te9446332074065402090]
  delta tw9446332074065402090 tw17960256430627541270 tw2436336058641802641
  rw [show tw12908688711261696721 (tw2368527892694137696 PySem.Challenge.rw_sq0042_01).toRowW.prog = true from te12908688711261696721 ▸ lo]
  kernel_rfl
end Mine
/-! ## H2 -/
namespace Mine
open PySem PySem.W PySem.Calls PyProof.Rows
/-- what the top leaves -/
noncomputable def endS (w : World) (os : OsState) : Shared := SharedT.abs ⟨tree660 w.params, 576, {}, #[], {}, 1058, os⟩
open PySem.W.Fast in
theorem endRun (w : World) : (fun os => topRun treeTable PG w 11 (some (.ref 6)) 2 (endS w os) ⟨doneF .next, codeT, ⟨417, 0, 442, 15⟩, [topFrame p0]⟩) = fun os => some (endS w os) := by
  rw [te14364793385576792824, te14082659384304107361]
  kernel_rfl
theorem endA (w : World) : (fun os => staticsOk (importedModules PG.main.body) (boot_heap w.params) (endS w os).heap) = fun os => true := by
  kernel_rfl
theorem endB (w : World) : (fun os => namesBound PG (endS w os).heap) = fun os => true := by
  kernel_rfl
theorem endC (w : World) : (fun os => gensDone (endS w os)) = fun os => true := by
  kernel_rfl
theorem endD (w : World) : (fun os => laidKept (boot_heap w.params) (endS w os).heap) = fun os => true := by
  kernel_rfl
open PySem.W.Fast in
theorem endE (w : World) : (fun os => openSeen qT looseT (importedModules PG.main.body) (fun s => recOk [] s) true (endS w os)) = fun os => openGood qT looseT := by
  rw [te4187177175401517315, te5923862056798008813]
  kernel_rfl
noncomputable def endK (w : World) (os : OsState) : Frag := frag (endS w os).heap
theorem endF (w : World) : (fun os => okK (endK w os)) = fun os => List.replicate 10 true := by
  kernel_rfl
theorem endG (w : World) : (fun os => fnT.map (fun p => fnSeen (endK w os) p.1)) = fun os => fnT.map fun p => (sigAt p.2.2.1 p.2.2.2).map fun s => (p.2.1, s) := by
  kernel_rfl
theorem endH (w : World) : (fun os => (defaultsSeen (endK w os) 436, defaultsSeen (endK w os) 56, (endK w os).lookup 84, (endK w os).lookup 120)) = fun os => (some ((429 : Addr), ([.none, .none, .int 0 859, .int 0 860] : List Value)), some ((49 : Addr), ([.str "" 276] : List Value)),
    some (badObj 84 83 75 "BadNumber" 308 316), some (badObj 120 119 111 "BadGroup" 356 364)) := by
  kernel_rfl
end Mine
/-! ## H3 -/
namespace Mine
open PySem PySem.W PySem.Calls PyProof.Rows
theorem bodyT_eq : bodyT = (bodyT.drop 0).take 8 ++ ((bodyT.drop 8).take 4 ++ ((bodyT.drop 12).take 6 ++ ((bodyT.drop 18).take 10 ++ ((bodyT.drop 28).take 17 ++ ((bodyT.drop 45).take 13 ++ ((bodyT.drop 58).take 15 ++ [])))))) := by
  kernel_rfl
theorem run_all (w : World) (os : OsState) : ∃ r : Shared, topRun treeTable PG w 11 (some (.ref 6)) 5342 ⟨boot_heap w.params, #[], boot_drawn, boot_toks, os⟩ (topStub PG) = some r ∧
    (staticsOk (importedModules PG.main.body) (boot_heap w.params) r.heap && namesBound PG r.heap && gensDone r && laidKept (boot_heap w.params) r.heap) = true ∧
    openSeen qT looseT (importedModules PG.main.body) (fun s => recOk [] s) true r = openGood qT looseT ∧ obs r.heap = val := by
  have k := piece_app (segRun_of (congrFun (pcA w) os)) (piece_app (segRun_of (congrFun (pcB w) os)) (piece_app (segRun_of (congrFun (pcC w) os)) (piece_app (segRun_of (congrFun (pcD w) os))
    (piece_app (segRun_of (congrFun (pcE w) os)) (piece_app (segRun_of (congrFun (pcF w) os)) (piece_app (rest := []) (segRun_of (congrFun (pcG w) os)) (piece_nil (congrFun (endRun w) os))))))))
  rw [← bodyT_eq] at k
  exact ⟨endS w os, go_top (congrFun (preT w) os) (piece_block (congrFun (blockT w) os) k), look_both (look_both (look_both (congrFun (endA w) os) (congrFun (endB w) os)) (congrFun (endC w) os)) (congrFun (endD w) os),
    congrFun (endE w) os, Prod.ext (congrFun (endF w) os) (Prod.ext (congrFun (endG w) os) (congrFun (endH w) os))⟩
theorem left : LeftO PG qT looseT (fun s => recOk [] s) (fun s => obs s.heap) (fun _ => val) 6000 := fun w => by
  obtain ⟨⟨h, gs, d, k, os⟩, e, e'⟩ := Option.map_eq_some_iff.mp (boot_open (p := PG) (N := 6000) rfl rfl (fun _ => rfl) w)
  obtain ⟨rfl, rfl, rfl, rfl⟩ : h = boot_heap w.params ∧ gs = #[] ∧ d = boot_drawn ∧ k = boot_toks := by simpa using e'
  obtain ⟨r, hr, h1, h2, h3⟩ := run_all w os
  have z : ((boot_heap w.params).isNs mainGlobals && (#[] : Array GenState).size == 0, (boot_heap w.params).objs.size, (boot_heap w.params).nsMap mainGlobals "__annotations__") = (true, 11, some (.ref 6)) := by kernel_rfl
  obtain ⟨z1, z⟩ := Prod.mk.inj z
  obtain ⟨z2, z3⟩ := Prod.mk.inj z
  have t : topFrom treeTable PG w 6000 ⟨boot_heap w.params, #[], boot_drawn, boot_toks, os⟩ = some r := by
    unfold topFrom
    dsimp only
    rw [z1, z2, z3, topRun_mono 658 _ _ _ _ hr]
    dsimp only [Option.bind]
    rw [h1]
  unfold openEnds
  rw [e]
  dsimp only [Option.bind]
  rw [t]
  exact congrArg some (Prod.ext h2 h3)
theorem yt_of (w : World) (s : Shared) (e : obs s.heap = val) : YT w s.heap := by
  obtain ⟨e1, e⟩ := Prod.mk.inj e
  obtain ⟨e2, e⟩ := Prod.mk.inj e
  obtain ⟨e3, e⟩ := Prod.mk.inj e
  obtain ⟨e4, e⟩ := Prod.mk.inj e
  obtain ⟨e5, e6⟩ := Prod.mk.inj e
  exact ⟨frag s.heap, frag_in _, e1, e2, e3, e4, e5, e6⟩
theorem holds_of {d : DefRec} {kwd : List (Str × Expr)} (hd : defOf qT "law" = some (d, kwd)) (hp : PG.theDef "law" = some (d.params, d.body, d.scope)) (hk : kwWritten? d.params.kwonlyargs d.params.kw_defaults = some kwd)
    (walk : WalkO qT looseT (fun _ _ => True) YT PySem.Challenge.rw_sq0042_01.row.toRowW d kwd fun f vs => PySem.call f vs) : PySem.Challenge.rw_sq0042_01.Holds := by
  refine holds_law said fun ok => PySem.W.holds_open (q := qT) (loose := looseT) (Xt := fun s => recOk [] s) (XP := fun _ _ => True) (Yf := fun s => obs s.heap) (Ya := fun _ => val) (YP := YT) (N := 6000)
    left yt_of (fun _ _ _ y k => let ⟨K, i, l⟩ := y; ⟨K, i.keeps k, l⟩) (fun _ _ => trivial) (fun _ _ _ _ _ => trivial) hd hp hk (fun s e => recFacts_of e) rfl ok ?_ ?_ ?_ walk
  · decide +kernel
  · exact ⟨rfl, rfl, rfl, rfl, rfl, by decide +kernel⟩
  · w_on
    w_witness2
end Mine
/-! ## TO -/
namespace Mine
open PySem PySem.W PySem.Calls PyProof.Rows
theorem rdl_ints {c : CM} {vs : List Value} {ns : List Int} (h : IntsAre vs ns) : RdL c vs (ns.map .int) := by
  induction h with
  | nil => exact .nil
  | cons n t _ ih => exact .cons (.int n t) ih
theorem law_true {w : World} {s : Shared} {F : Frag} (G : Gd w s.heap F) {a : Addr} {vs : List Value} {ns : List Int} (hl : ns.length ≤ 1000) (hL : s.heap.IsList a vs.toArray) (hI : IntsAre vs ns) {QQ E : Value → Shared → Prop}
    (ret : ∀ h' tk', (∀ b o, s.heap.get? b = some o → h'.get? b = some o) → QQ (.bool true) { s with heap := h', toks := tk' }) : wpAny (model PG w) callerA (call (.ref 575) [.ref a]) QQ E s := by
  obtain ⟨o, ho, hc, n, hd⟩ := hL
  exact c_law ⟨w, s.heap, ⟨0, 0, 0, 0, 0, 0⟩, 8, F, G⟩ (c := fun a => s.heap.get? a) hl ⟨show callerA.depth + 9 < recursionLimit by decide, show callerA.units + 8 * 9 + 128 < cLine by decide, rfl⟩ rfl ⟨fun _ _ e => e, fun _ _ e => e, (fun p hp => nomatch hp), List.nodup_nil, Nat.le_refl _⟩ (.list ho hc hd (rdl_ints hI)) fun h' tk' hs => ret h' tk' hs
set_option maxHeartbeats 8000000 in
theorem fin : PySem.Challenge.rw_sq0042_01.Holds := holds_of rfl rfl rfl (by
  intro w s₀ s₁ mg mb G Y fa o pm cd doc dV kV ho hdd hcd hD hmg hg args vals as hpre hlay hrd hwl hlo
  obtain ⟨F, KX, L⟩ := Y
  have Gg : Gd w s₁.heap F := ⟨KX, L, ⟨mg, G.T.g⟩, ⟨mb, G.T.b, G.T.builtins⟩, G.T.nolimit⟩
  have hfa : fa = 575 := by
    have := mg_of KX G.T.g (beq_true (and2 (and2 (and2 (L.at 8 rfl)).1).1).2)
    have e : mg "law" = some (.ref fa) := hmg
    rw [this] at e; cases e; rfl
  subst hfa
  clear ho hdd hcd hD hmg
  wrow_args hpre hlay hrd hwl hlo
  refine law_true (s := s₁) Gg ?_ (by assumption) (by assumption) fun h' tk' hs => ?_
  · omega
  · refine GoodW.toG ⟨.inl ⟨.bool true, .bool true, [], rfl, fun cls => ?_, .bool true, ?_, fun _ => ⟨List.nodup_nil, fun a h => nomatch h⟩⟩, hs, rfl, hg⟩
    · rfl
    · wrow_post)
end Mine
theorem PySem.Challenge.cw_sq0042_01_holds : PySem.Challenge.rw_sq0042_01.Holds := by
  exact Mine.fin
