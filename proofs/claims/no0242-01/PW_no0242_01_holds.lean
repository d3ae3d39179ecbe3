import PyProof.Rows.All
import Wide.All
import OpenK.AllK
import Wide.FinOn
import Lean
import PySem.Challenge.RW_no0242_01
open PySem PySem.W PyProof.Rows PySem.Calls
set_option Elab.async false
set_option linter.unusedVariables false
set_option compiler.extract_closed false
namespace Mine

section
set_option maxRecDepth 100000
set_option maxHeartbeats 8000000
/-! the program's pieces -/
noncomputable def stmtsFrom (n : Nat) : List Stmt := PySem.Challenge.pw_no0242_01.main.body.drop n
noncomputable def nameN (n : Nat) : Option Str := match stmtsFrom n with | .FunctionDef m .. :: _ => some m | _ => none
noncomputable def bodyN (n : Nat) : List Stmt := match stmtsFrom n with | .FunctionDef _ _ b .. :: _ => b | _ => []
noncomputable def scopeN (n : Nat) : Scope := match stmtsFrom n with | .FunctionDef _ _ _ _ _ _ sc .. :: _ => sc | _ => default
noncomputable def paramsN (n : Nat) : Arguments := match stmtsFrom n with | .FunctionDef _ a .. :: _ => a | _ => default
noncomputable def psN (n : Nat) : List Str := (paramsN n).args.map (·.arg)
noncomputable def initOf (n : Nat) : Option (Arguments × List Stmt × Scope) := match stmtsFrom n with
  | .ClassDef _ _ _ (.FunctionDef _ a b _ _ _ sc .. :: _) .. :: _ => some (a, b, sc)
  | _ => none
noncomputable def clsN (n : Nat) : Option Str := match stmtsFrom n with | .ClassDef m .. :: _ => some m | _ => none
noncomputable def iBody (n : Nat) : List Stmt := match initOf n with | some (_, b, _) => b | none => []
noncomputable def iScope (n : Nat) : Scope := match initOf n with | some (_, _, sc) => sc | none => default
noncomputable def iPs (n : Nat) : List Str := match initOf n with | some (a, _, _) => a.args.map (·.arg) | none => []
noncomputable def isDef (f : Str) : Bool := (List.range 40).any fun n => decide (nameN n = some f)

/-- the names of attributes that no class of the text bears itself -/
noncomputable def fieldNames : List Str := ["set_at", "used_at", "defined", "wanted", "name", "kind", "use", "length", "dims", "is_dummy", "value", "common", "is_saved", "dummies", "entries", "symbols", "statements", "formats", "labels", "result", "commons", "equivs", "datas", "saves", "constants"]
noncomputable def plainParams (p : Arguments) : Bool := p.posonlyargs.isEmpty && p.vararg.isNone && p.kwonlyargs.isEmpty && p.kwarg.isNone && decide ((p.args.map (·.arg)).Nodup)
noncomputable def fdAt (K : Frag) (a : Addr) : Option FuncData := match K.lookup a with
  | some ⟨_, _, .func fd, _⟩ => some fd
  | _ => none
noncomputable def fnGood (K : Frag) (fd : FuncData) (ps : List Str) : Bool :=
  decide (fd.globals = mainGlobals) && fd.closure.isEmpty && decide (fd.builtins = builtinsNs) && codeIn K fd.code fd.qualname && plainParams fd.params && decide (fd.params.args.map (·.arg) = ps) && (match fd.defaults with | .none => true | _ => false)
noncomputable def refIn (K : Frag) (x : Str) : Option Addr := match nsIn K mainGlobals x with
  | some (some (.ref a)) => some a
  | _ => none
noncomputable def intIn (K : Frag) (x : Str) : Option Int := match nsIn K mainGlobals x with
  | some (some (.int i _)) => some i
  | _ => none
noncomputable def strVals : List Value → Option (List Str)
  | [] => some []
  | .str x _ :: r => (strVals r).map (x :: ·)
  | _ => none
noncomputable def tupIn (K : Frag) (x : Str) : Option (List Str) := match nsIn K mainGlobals x with
  | some (some (.ref a)) => (match K.lookup a with
      | some ⟨c, _, .seq arr _, _⟩ => if c == .type "tuple" then strVals arr.toList else none
      | _ => none)
  | _ => none
/-- each def of the text, with its body and scope -/
noncomputable def fnRow (K : Frag) (n : Nat) : Option (Option (FuncBody × Scope)) := (nameN n).map fun f => (refIn K f).bind fun a => (fdAt K a).map fun fd => (fd.body, fd.scope)
noncomputable def fnWant (n : Nat) : Option (Option (FuncBody × Scope)) := (nameN n).map fun _ => some (.stmts (bodyN n), scopeN n)
noncomputable def fnChk (K : Frag) (n : Nat) : Bool := match nameN n with
  | none => true
  | some f => ((refIn K f).bind fun a => fdAt K a).any fun fd => fnGood K fd (psN n)
noncomputable def clsChk (K : Frag) (C : Addr) : Bool :=
  plainGet K C (Str.ofString "x") && hasDictIn K C && plainOver K C && makesIn K C && keepIn K (.ref C) && (findIn K (.ref C) "__setattr__" == some (some (.builtin "object.__setattr__"))) &&
  fieldNames.all fun f => findIn K (.ref C) f == some none
noncomputable def clsRow (K : Frag) (n : Nat) : Option (Option (FuncBody × Scope)) := (clsN n).map fun c => (refIn K c).bind fun C => match findIn K (.ref C) "__init__" with
  | some (some (.ref fI)) => (fdAt K fI).map fun fd => (fd.body, fd.scope)
  | _ => none
noncomputable def clsWant (n : Nat) : Option (Option (FuncBody × Scope)) := (clsN n).map fun _ => some (.stmts (iBody n), iScope n)
noncomputable def initChk (K : Frag) (n : Nat) : Bool := match clsN n with
  | none => true
  | some c => (refIn K c).any fun C => clsChk K C && match findIn K (.ref C) "__init__" with
      | some (some (.ref fI)) => (typeIn K (.ref fI) == some (.type "function")) && (fdAt K fI).any fun fd => fnGood K fd (iPs n)
      | _ => false

/-! the head, seen once by the kernel -/
/-- the law alone is read as a def of the text; all else through the hook -/
noncomputable def lawView : Program := { PySem.Challenge.pw_no0242_01 with main := { PySem.Challenge.pw_no0242_01.main with body := PySem.Challenge.pw_no0242_01.main.body.drop 36 } }
/-- the names that the view does not bind -/
noncomputable def lawLoose : List Str :=
  (["INTEGER", "REAL", "LOGICAL", "CHARACTER", "CONTROL_SETS", "LABEL_WORDS", "Notes", "note"] : List Str) ++ (["note_uses", "note_target", "note_loop", "note_items", "note_control", "note_labels", "note_jump", "note_statement"] : List Str) ++
  (["name_rows", "label_rows", "notes_of", "cross_reference", "Symbol", "UnitTree", "_law_names", "_law_take"] : List Str) ++ (["_law_name", "_law_target", "_law_expr", "_law_items", "_law_label", "_law_io", "_law_jump", "_law_statement"] : List Str) ++ (["_law_once"] : List Str)
/-- where the top has laid what the walk reads -/
noncomputable def seenAt : List Addr := [3, 15, 16, 29, 30, 32, 33, 43, 44, 50, 51, 57, 58, 64, 65, 71, 72, 78, 79, 85, 86, 92, 93, 99, 100, 106, 107, 111, 112, 118, 119, 125, 126, 139, 140, 142, 143, 160, 161, 163, 164, 174, 175, 181, 182, 188, 189, 193, 194, 200, 201, 207, 208, 214, 215, 221, 222, 226, 227, 233, 234, 240, 241, 245, 246]
noncomputable def partOf (h : Heap) : List Addr → Frag
  | [] => []
  | a :: r => match h.get? a with
    | some o => (a, o) :: partOf h r
    | none => partOf h r
noncomputable def kObs (K : Frag) : (List (Option (Option (FuncBody × Scope))) × List (Option (Option (FuncBody × Scope)))) × (Bool × Bool × Bool) × (List (Option Int) × Option (List Str) × Option (List Str)) :=
  (((List.range 37).map (fnRow K), (List.range 37).map (clsRow K)), ((List.range 37).all (fnChk K), (List.range 37).all (initChk K), (["len", "sorted", "isinstance", "range", "list", "tuple", "int"] : List Str).all fun x => nsIn K mainGlobals x == some none),
    ((["INTEGER", "REAL", "LOGICAL", "CHARACTER"] : List Str).map (intIn K), tupIn K "CONTROL_SETS", tupIn K "LABEL_WORDS"))
noncomputable def kVal : (List (Option (Option (FuncBody × Scope))) × List (Option (Option (FuncBody × Scope)))) × (Bool × Bool × Bool) × (List (Option Int) × Option (List Str) × Option (List Str)) :=
  (((List.range 37).map fnWant, (List.range 37).map clsWant), (true, true, true),
    ([some 0, some 1, some 4, some 5], some (["IOSTAT", "EXIST", "OPENED", "NUMBER", "NAMED", "NAME", "ACCESS", "SEQUENTIAL", "DIRECT", "FORM", "FORMATTED", "UNFORMATTED", "RECL", "NEXTREC", "BLANK"] : List Str), some (["END", "ERR"] : List Str)))
theorem top_ran (w : World) (os : OsState) : (topFrom treeTable PySem.Challenge.rw_no0242_01.row.toRowW.prog w 3280 ⟨boot_heap w.params, Array.mk [], boot_drawn, boot_toks, os⟩).map
    (fun s => (openSeen lawView lawLoose (importedModules PySem.Challenge.rw_no0242_01.row.toRowW.prog.main.body) (fun s => xlAt lawView [] s && recOk (RowW.records PySem.Challenge.rw_no0242_01.row.toRowW) s) true s, kObs (partOf s.heap seenAt))) = some (openGood lawView lawLoose, kVal) := by
  unfold topFrom
  rw [PySem.W.Fast.te14082659384304107361, PySem.W.Fast.te4187177175401517315]
  kernel_rfl
/-! what the row says of its own text, look by look -/
abbrev theLaw : OpenLaw := PySem.Challenge.rw_no0242_01
theorem said_a : sreFenced theLaw.prog.main = true := by kernel_rfl
theorem said_b : ((moduleNames theLaw.prog.main.body).isEmpty || lookedIntoSs (moduleNames theLaw.prog.main.body) theLaw.prog.main.body) = true := by kernel_rfl
theorem said_c : namesResolve theLaw.prog = true := by kernel_rfl
theorem said_d : theLaw.prog.boundNames.all (fun n => !worldNames.contains n) = true := by kernel_rfl
theorem said_e : noRoadLSs { strict := !(importedModules theLaw.prog.main.body).all cThrough.contains, foot := none, bare := (["vars", "dir", "locals"] : List Str).filter (readsOut theLaw.prog theLaw.prog.main.body) } theLaw.prog.main.body = true := by
  rw [PySem.W.Fast.te8326940854005059898]
  kernel_rfl
theorem said_f : namesMeet theLaw.prog theLaw.prog.main.body (fun _ n => attrL n) = true := by
  rw [PySem.W.Fast.te17119622794617984870]
  kernel_rfl
theorem said_looks : looksOpen theLaw.row.prog = true := look_both (look_both (look_both (look_both (look_both said_a said_b) said_c) said_d) said_e) said_f
theorem said_row : theLaw.row.wellSaid = true := by
  unfold OpenRow.wellSaid OpenRow.partSaid
  rw [said_looks]
  kernel_rfl
theorem said_2 : decide (theLaw.foot ≤ (behindTheImports theLaw.prog).length) = true := by kernel_rfl
theorem said_3 : theLaw.footing.all footLine = true := by kernel_rfl
theorem said_4 : noClassBlock theLaw.prog theLaw.footing = true := by kernel_rfl
theorem said_5 : theLaw.most.all (fun n => decide (63 ≤ n)) = true := by kernel_rfl
theorem said_6 : theLaw.bound.all (fun n => decide (2 ^ 63 ≤ n)) = true := by kernel_rfl
theorem said_7 : noRoadLSs { strict := true, foot := some theLaw.bound', writes := theLaw.writes, may := theLaw.may } theLaw.footing = true := by
  rw [PySem.W.Fast.te8326940854005059898]
  kernel_rfl
theorem said_8 : defStands theLaw.about theLaw.above = true := by kernel_rfl
theorem said_9 : theLaw.namesIt = true := by kernel_rfl
theorem said_10 : (["type", "isinstance", "issubclass", "getattr", "hasattr"] : List Str).all (fun n => theLaw.about != [n]) = true := by kernel_rfl
theorem said_11 : theLaw.bound'.all (fun n => !builtinNamed n || theLaw.about == [n] || !theLaw.reads n) = true := by kernel_rfl
theorem said_12 : (!theLaw.writes || (theLaw.prog.main.body.flatMap importedNames).all fun n => !theLaw.reads n) = true := by kernel_rfl
theorem said_13 : (theLaw.prog.main.body.flatMap importedNames).all (fun n => !theLaw.reads n || (drawsOf n theLaw.prog.main.body).all fun mn => mn.2 != ("attrgetter" : Str) && mn.2 != ("methodcaller" : Str)) = true := by kernel_rfl
theorem said_14 : namesMeet theLaw.prog theLaw.footing (fun sc n => (!(["type", "isinstance", "issubclass", "getattr", "hasattr"] : List Str).contains n || sc.names.lookup n == some .globalImplicit) &&
    (theLaw.may != some n || sc.kind == .module || sc.names.lookup n == some .globalImplicit)) = true := by
  rw [PySem.W.Fast.te17119622794617984870]
  kernel_rfl
theorem said_15 : theLaw.own.contains theLaw.name = true := by kernel_rfl
theorem said_16 : (theLaw.own.eraseDups.length == theLaw.own.length) = true := by kernel_rfl
theorem said_17 : theLaw.own.all (fun n => !builtinNamed n) = true := by kernel_rfl
theorem said_18 : namesMeet theLaw.prog theLaw.above (fun _ n => !theLaw.own.contains n) = true := by
  rw [PySem.W.Fast.te17119622794617984870]
  kernel_rfl
theorem said_19 : namesMeet theLaw.prog theLaw.footing (fun sc n => sc.kind == .module || sc.names.lookup n != some .globalExplicit) = true := by
  rw [PySem.W.Fast.te17119622794617984870]
  kernel_rfl
theorem said_law : theLaw.wellSaid = true := look_both (look_both (look_both (look_both (look_both (look_both (look_both (look_both (look_both (look_both (look_both (look_both (look_both (look_both (look_both (look_both (look_both (look_both said_row said_2) said_3) said_4) said_5) said_6) said_7) said_8) said_9) said_10) said_11) said_12) said_13) said_14) said_15) said_16) said_17) said_18) said_19
end

theorem cps {Gl : Prop} (H : ∀ Q : Prop, (Gl → Q) → Q) : Gl := H Gl id

/-- values without tokens -/
inductive PV where
  | none | bool (b : Bool) | int (i : Int) | str (s : Str) | ref (a : Addr) | other

noncomputable def ab : Value → PV
  | .none => .none
  | .bool b => .bool b
  | .int i _ => .int i
  | .str s _ => .str s
  | .ref a => .ref a
  | _ => .other

/-- abstract objects; the flag says: never changed any more -/
inductive PO where
  | list (fz : Bool) (vs : List PV)
  | wlist (vs : List PV)
  | tup (vs : List PV)
  | dictS (fz : Bool) (es : List (Str × PV))
  | dictI (fz : Bool) (es : List (Int × PV))
  | inst (C dx : Addr)
  | range (n : Int)

noncomputable def PO.frz : PO → Bool
  | .list fz _ => fz
  | .wlist _ => false
  | .tup _ => true
  | .dictS fz _ => fz
  | .dictI fz _ => fz
  | .inst .. => true
  | .range _ => true

abbrev KH := Addr → Option PO
abbrev RH := Addr → Option Obj

noncomputable def Rep (prog : Program) (w : World) : PO → Obj → Prop
  | .list _ vs, o => ∃ arr n, o = { cls := .type "list", data := .seq arr n } ∧ arr.toList.map ab = vs
  | .wlist vs, o => o.cls = .type "list" ∧ ∃ arr n, o.data = .seq arr n ∧ arr.toList.map ab = vs
  | .tup vs, o => ∃ arr n, o = { cls := .type "tuple", data := .seq arr n } ∧ arr.toList.map ab = vs
  | .dictS _ es, o => ∃ kvs, o.IsDictOf (strKind prog w) kvs ∧ kvs.map (fun p => (p.1, ab p.2)) = es
  | .dictI _ es, o => ∃ kvs, o.IsDictOf (intKind prog w) kvs ∧ kvs.map (fun p => (p.1, ab p.2)) = es
  | .inst C dx, o => o = instObj C dx
  | .range n, o => ∃ t u v, o = { cls := .type "range", dict := none, data := .fields #[.int 0 t, .int n u, .int 1 v], slots := #[] }

theorem Rep.free {prog : Program} {w : World} {p : PO} {o : Obj} (h : Rep prog w p o) : o.isFreed = false := by
  cases p <;> simp only [Rep] at h
  · obtain ⟨arr, n, rfl, _⟩ := h; rfl
  · obtain ⟨_, arr, n, hd, _⟩ := h; obtain ⟨_, _, d, _⟩ := o; simp only at hd; subst hd; rfl
  · obtain ⟨arr, n, rfl, _⟩ := h; rfl
  · obtain ⟨kvs, ⟨es, ep, _, hd, _⟩, _⟩ := h; obtain ⟨_, _, d, _⟩ := o; simp only at hd; subst hd; rfl
  · obtain ⟨kvs, ⟨es, ep, _, hd, _⟩, _⟩ := h; obtain ⟨_, _, d, _⟩ := o; simp only at hd; subst hd; rfl
  · subst h; rfl
  · obtain ⟨t, u, v, rfl⟩ := h; rfl

/-- the heap h bears k; and besides, apart from it, the raw objects R -/
structure Has (prog : Program) (w : World) (h : Heap) (k : KH) (R : RH) : Prop where
  kn : ∀ a p, k a = some p → ∃ o, h.get? a = some o ∧ Rep prog w p o
  fr : ∀ a o, R a = some o → h.get? a = some o
  dj : ∀ a, k a = none ∨ R a = none

noncomputable def upd (k : KH) (a : Addr) (p : PO) : KH := fun b => if b = a then some p else k b
noncomputable def updR (R : RH) (a : Addr) (o : Obj) : RH := fun b => if b = a then some o else R b

/-- a new object -/
structure New (k : KH) (c : Addr) (p : PO) (k' : KH) : Prop where
  old : k c = none
  eq : k' = upd k c p
/-- what a step leaves: all that is frozen, and all outside fp -/
noncomputable def Trans (fp : Addr → Prop) (k k' : KH) : Prop := ∀ a p, k a = some p → (p.frz = true ∨ ¬ fp a) → k' a = some p

theorem New.at {k c p k'} (h : New k c p k') : k' c = some p := by rw [h.eq]; simp [upd]
theorem New.get {k c p k' a q} (h : New k c p k') (e : k a = some q) : k' a = some q := by
  rw [h.eq]; unfold upd
  rw [if_neg (fun x => by rw [x, h.old] at e; cases e)]; exact e
theorem New.ne {k c p k' a q} (h : New k c p k') (e : k a = some q) : a ≠ c := fun x => by rw [x, h.old] at e; cases e
theorem New.trans {k c p k'} {fp : Addr → Prop} (h : New k c p k') : Trans fp k k' := fun _ _ e _ => h.get e

theorem Trans.refl {fp k} : Trans fp k k := fun _ _ e _ => e
theorem Trans.comp {fp k k' k''} (h : Trans fp k k') (h' : Trans fp k' k'') : Trans fp k k'' := fun a p e x => h' a p (h a p e x) x
theorem Trans.frz {fp k k' a p} (h : Trans fp k k') (e : k a = some p) (f : p.frz = true) : k' a = some p := h a p e (.inl f)
theorem Trans.out {fp k k' a p} (h : Trans fp k k') (e : k a = some p) (f : ¬ fp a) : k' a = some p := h a p e (.inr f)
theorem Trans.mono {fp fp' : Addr → Prop} {k k'} (h : Trans fp k k') (s : ∀ a, fp a → fp' a) : Trans fp' k k' := fun a p e x => h a p e (x.imp id fun n y => n (s a y))
/-- a second step may also touch what the first has made -/
theorem Trans.comp2 {fp fp' : Addr → Prop} {k k' k''} (h : Trans fp k k') (h' : Trans fp' k' k'') (s : ∀ a, fp' a → fp a ∨ k a = none) : Trans fp k k'' :=
  fun a p e x => h' a p (h a p e x) (x.imp id fun n y => (s a y).elim n fun z => by rw [e] at z; cases z)

theorem upd_at {k a p} : upd k a p a = some p := by simp [upd]
theorem upd_ne {k a p b} (h : b ≠ a) : upd k a p b = k b := by simp [upd, h]
theorem Trans.upd {k c p q} (h : k c = some p) (hf : p.frz = false) : Trans (· = c) k (upd k c q) := fun a o e x => by
  by_cases hac : a = c
  · subst hac; rw [h] at e; cases e
    rcases x with x | x
    · rw [hf] at x; cases x
    · exact absurd rfl x
  · rw [upd_ne hac]; exact e

noncomputable def Fls : Value → Shared → Prop := fun _ _ => False

section
variable {prog : Program} {w : World}

theorem Has.lt {h : Heap} {k : KH} {R : RH} (H : Has prog w h k R) {a p} (e : k a = some p) : a < h.objs.size :=
  let ⟨_, ho, _⟩ := H.kn a p e; Heap.lt_size ho
theorem Has.ltR {h : Heap} {k : KH} {R : RH} (H : Has prog w h k R) {a o} (e : R a = some o) : a < h.objs.size := Heap.lt_size (H.fr a o e)
theorem Has.size_none {h : Heap} {k : KH} {R : RH} (H : Has prog w h k R) : k h.objs.size = none := by
  cases e : k h.objs.size with
  | none => rfl
  | some p => exact absurd (H.lt e) (Nat.lt_irrefl _)
theorem Has.sizeR_none {h : Heap} {k : KH} {R : RH} (H : Has prog w h k R) : R h.objs.size = none := by
  cases e : R h.objs.size with
  | none => rfl
  | some p => exact absurd (H.ltR e) (Nat.lt_irrefl _)
theorem Has.neR {h : Heap} {k : KH} {R : RH} (H : Has prog w h k R) {a b p o} (e : k a = some p) (f : R b = some o) : a ≠ b := fun x => by
  subst x; rcases H.dj a with y | y
  · rw [e] at y; cases y
  · rw [f] at y; cases y

/-- a heap that keeps all there was -/
theorem Has.keeps {h h' : Heap} {k : KH} {R : RH} (H : Has prog w h k R) (hk : ∀ b o, h.get? b = some o → h'.get? b = some o) : Has prog w h' k R :=
  ⟨fun a p e => let ⟨o, ho, r⟩ := H.kn a p e; ⟨o, hk _ _ ho, r⟩, fun a o e => hk _ _ (H.fr a o e), H.dj⟩
theorem Has.push {h : Heap} {k : KH} {R : RH} (H : Has prog w h k R) (o : Obj) : Has prog w (h.push o) k R := H.keeps fun _ _ e => Heap.get?_push_of_some o e
/-- a new object, known from here on -/
theorem Has.new {h : Heap} {k : KH} {R : RH} (H : Has prog w h k R) {o : Obj} {p : PO} (r : Rep prog w p o) : Has prog w (h.push o) (upd k h.objs.size p) R where
  kn := fun a q e => by
    unfold upd at e
    split at e
    · rename_i x; subst x; cases e; exact ⟨o, Heap.get?_push_size _ r.free, r⟩
    · exact (H.push o).kn a q e
  fr := (H.push o).fr
  dj := fun a => by
    unfold upd
    split
    · rename_i x; subst x; exact .inr H.sizeR_none
    · exact H.dj a
/-- an object changed -/
theorem Has.set {h h' : Heap} {k : KH} {R : RH} (H : Has prog w h k R) {c : Addr} {q p : PO} (hc : k c = some q) (hs : ∀ b, b ≠ c → h'.get? b = h.get? b) {o : Obj} (ho : h'.get? c = some o) (r : Rep prog w p o) : Has prog w h' (upd k c p) R where
  kn := fun a q e => by
    unfold upd at e
    split at e
    · rename_i x; subst x; cases e; exact ⟨o, ho, r⟩
    · rename_i x
      obtain ⟨o', h1, h2⟩ := H.kn a q e
      exact ⟨o', (hs a x).trans h1, h2⟩
  fr := fun a o' e => (hs a (H.neR hc e).symm).trans (H.fr a o' e)
  dj := fun a => by
    unfold upd
    split
    · rename_i x; subst x
      rcases H.dj a with y | y
      · rw [hc] at y; cases y
      · exact .inr y
    · exact H.dj a
/-- less is known -/
theorem Has.less {h : Heap} {k : KH} {R : RH} (H : Has prog w h k R) {k' : KH} {R' : RH} (hk : ∀ a p, k' a = some p → k a = some p) (hR : ∀ a o, R' a = some o → R a = some o) : Has prog w h k' R' where
  kn := fun a p e => H.kn a p (hk a p e)
  fr := fun a o e => H.fr a o (hR a o e)
  dj := fun a => by
    cases e : k' a with
    | none => exact .inl rfl
    | some p =>
      right
      cases f : R' a with
      | none => rfl
      | some o => exact absurd rfl (H.neR (hk a p e) (hR a o f))
/-- the same object told in another way -/
theorem Has.retell {h : Heap} {k : KH} {R : RH} (H : Has prog w h k R) {c : Addr} {q p : PO} (hc : k c = some q) (r : ∀ o, Rep prog w q o → Rep prog w p o) : Has prog w h (upd k c p) R := by
  obtain ⟨o, ho, ro⟩ := H.kn c q hc
  exact H.set hc (fun _ _ => rfl) ho (r o ro)

/-- the abstract wp: from any heap that bears k (and R), t ends in P, R untouched, no exception -/
noncomputable def Ok {α : Type} (prog : Program) (w : World) (A : Around) (k : KH) (R : RH) (t : Sem α) (P : α → KH → Prop) : Prop :=
  ∀ (s : Shared) (Q : α → Shared → Prop), Has prog w s.heap k R → (∀ a h' tk' k', P a k' → Has prog w h' k' R → Q a { s with heap := h', toks := tk' }) → wpAny (model prog w) A t Q Fls s
/-- the same of a value, without its token -/
noncomputable def OkV (prog : Program) (w : World) (A : Around) (k : KH) (R : RH) (t : Sem Value) (P : PV → KH → Prop) : Prop := Ok prog w A k R t fun v k' => P (ab v) k'

variable {A : Around} {k : KH} {R : RH} {α β : Type}

theorem Ok.mono {t : Sem α} {P P' : α → KH → Prop} (h : Ok prog w A k R t P) (s : ∀ a k', P a k' → P' a k') : Ok prog w A k R t P' :=
  fun _ _ H q => h _ _ H fun a h' tk' k' p H' => q a h' tk' k' (s a k' p) H'
theorem OkV.mono {t : Sem Value} {P P' : PV → KH → Prop} (h : OkV prog w A k R t P) (s : ∀ a k', P a k' → P' a k') : OkV prog w A k R t P' := Ok.mono h fun a k' => s (ab a) k'
theorem Ok.bind {m : Sem α} {f : α → Sem β} {P : β → KH → Prop} (h : Ok prog w A k R m fun a k' => Ok prog w A k' R (f a) P) : Ok prog w A k R (m >>= f) P :=
  fun _ _ H q => wpAny_bind (h _ _ H fun _ _ _ _ p H' => p _ _ H' q)
theorem Ok.pure {a : α} {P : α → KH → Prop} (h : P a k) : Ok prog w A k R (pure a) P := fun s _ H q => wpAny_pure (q a s.heap s.toks k h H)
theorem Ok.retell {t : Sem α} {P : α → KH → Prop} {c : Addr} {q p : PO} (hc : k c = some q) (r : ∀ o, Rep prog w q o → Rep prog w p o) (h : Ok prog w A (upd k c p) R t P) : Ok prog w A k R t P :=
  fun _ _ H q => h _ _ (H.retell hc r) q

/-- freezing -/
theorem Ok.freezeL {t : Sem α} {P : α → KH → Prop} {c : Addr} {vs : List PV} {fz : Bool} (hc : k c = some (.list fz vs)) (h : Ok prog w A (upd k c (.list true vs)) R t P) : Ok prog w A k R t P := Ok.retell (p := .list true vs) hc (fun _ r => r) h
end

section
variable {prog : Program} {w : World} {A : Around} {k : KH} {R : RH} {α : Type} {env : Env}

/-- a new object anywhere beyond what there was -/
theorem Has.newAt {h h' : Heap} (H : Has prog w h k R) {D : Addr} {o : Obj} {p : PO} (kp : ∀ b o, h.get? b = some o → h'.get? b = some o) (hD : h.objs.size ≤ D) (ho : h'.get? D = some o) (r : Rep prog w p o) :
    Has prog w h' (upd k D p) R where
  kn := fun a q e => by
    unfold upd at e
    split at e
    · rename_i x; subst x; cases e; exact ⟨o, ho, r⟩
    · exact (H.keeps kp).kn a q e
  fr := (H.keeps kp).fr
  dj := fun a => by
    unfold upd
    split
    · rename_i x; subst x
      right
      cases f : R a with
      | none => rfl
      | some o' => exact absurd (Nat.lt_of_lt_of_le (H.ltR f) hD) (Nat.lt_irrefl _)
    · exact H.dj a
theorem Has.fresh {h : Heap} (H : Has prog w h k R) {D : Addr} (hD : h.objs.size ≤ D) : k D = none := by
  cases e : k D with
  | none => rfl
  | some p => exact absurd (Nat.lt_of_lt_of_le (H.lt e) hD) (Nat.lt_irrefl _)
theorem New.mk' {D : Addr} {p : PO} (h : k D = none) : New k D p (upd k D p) := ⟨h, rfl⟩

theorem rep_list {vs : List Value} {fz : Bool} {n : Nat} : Rep prog w (.list fz (vs.map ab)) { cls := .type "list", data := .seq vs.toArray n } := ⟨vs.toArray, n, rfl, by simp⟩
theorem rep_wlist {vs : List Value} {n : Nat} : Rep prog w (.wlist (vs.map ab)) { cls := .type "list", data := .seq vs.toArray n } := ⟨rfl, vs.toArray, n, rfl, by simp⟩
theorem rep_tup {vs : List Value} {n : Nat} : Rep prog w (.tup (vs.map ab)) { cls := .type "tuple", data := .seq vs.toArray n } := ⟨vs.toArray, n, rfl, by simp⟩

/-- which abstract object a list display may be -/
noncomputable def IsListPO (p : PO) (vs : List PV) : Prop := (∃ fz, p = .list fz vs) ∨ p = .wlist vs
theorem IsListPO.rep {p : PO} {vs : List Value} {n : Nat} (h : IsListPO p (vs.map ab)) : Rep prog w p { cls := .type "list", data := .seq vs.toArray n } := by
  rcases h with ⟨fz, rfl⟩ | rfl
  · exact rep_list
  · exact rep_wlist

/-- seqs at k -/
inductive SeqAt (k : KH) (a : Addr) (l : List PV) : Prop
  | tup : k a = some (.tup l) → SeqAt k a l
  | list {fz} : k a = some (.list fz l) → SeqAt k a l
  | wlist : k a = some (.wlist l) → SeqAt k a l

theorem Has.isTup {h : Heap} (H : Has prog w h k R) {a l} (e : k a = some (.tup l)) : ∃ arr, IsTup h a arr ∧ arr.toList.map ab = l := by
  refine cps fun qZ hZ => ?_
  obtain ⟨o, ho, arr, n, rfl, r⟩ := H.kn a _ e
  refine hZ ?_
  clear hZ qZ
  exact ⟨arr, ⟨_, ho, rfl, n, rfl⟩, r⟩
theorem Has.isTuple {h : Heap} (H : Has prog w h k R) {a l} (e : k a = some (.tup l)) : ∃ arr, h.IsTuple a arr ∧ arr.toList.map ab = l := by
  refine cps fun qZ hZ => ?_
  obtain ⟨o, ho, arr, n, rfl, r⟩ := H.kn a _ e
  refine hZ ?_
  clear hZ qZ
  exact ⟨arr, ⟨_, ho, rfl, n, rfl⟩, r⟩
theorem Has.plainList {h : Heap} (H : Has prog w h k R) {a fz l} (e : k a = some (.list fz l)) : ∃ arr, h.PlainList a arr ∧ arr.toList.map ab = l := by
  refine cps fun qZ hZ => ?_
  obtain ⟨o, ho, arr, n, rfl, r⟩ := H.kn a _ e
  refine hZ ?_
  clear hZ qZ
  exact ⟨arr, ⟨n, ho⟩, r⟩
theorem Has.isList {h : Heap} (H : Has prog w h k R) {a l p} (e : k a = some p) (hp : IsListPO p l) : ∃ arr, h.IsList a arr ∧ arr.toList.map ab = l := by
  rcases hp with ⟨fz, rfl⟩ | rfl
  · obtain ⟨arr, hp, r⟩ := H.plainList e
    exact ⟨arr, hp.isList, r⟩
  · refine cps fun qZ hZ => ?_
    obtain ⟨o, ho, hc, arr, n, hd, r⟩ := H.kn a _ e
    refine hZ ?_
    clear hZ qZ
    exact ⟨arr, ⟨o, ho, hc, n, hd⟩, r⟩

/-! constants and displays -/
theorem ok_int {i : Int} {kd : Nat} {pos : Pos} {P : PV → KH → Prop} (h : P (.int i) k) : OkV prog w A k R (eval (.Constant (.int i) kd pos) env) P :=
  fun _ _ H q => wpAny_Constant_int (q _ _ _ _ h H)
theorem ok_str {x : Str} {kd : Nat} {pos : Pos} {P : PV → KH → Prop} (h : P (.str x) k) : OkV prog w A k R (eval (.Constant (.str x) kd pos) env) P :=
  fun _ _ H q => Calls.Constant_str (q _ _ _ _ h H)
theorem ok_none {kd : Nat} {pos : Pos} {P : PV → KH → Prop} (h : P .none k) : OkV prog w A k R (eval (.Constant .none kd pos) env) P :=
  fun s _ H q => wpAny_Constant_none (q _ s.heap s.toks _ h H)
theorem ok_bool {b : Bool} {kd : Nat} {pos : Pos} {P : PV → KH → Prop} (h : P (.bool b) k) : OkV prog w A k R (eval (.Constant (.bool b) kd pos) env) P :=
  fun s _ H q => wpAny_Constant_bool (q _ s.heap s.toks _ h H)

/-- the items of a display, left to right -/
noncomputable def OkVs (prog : Program) (w : World) (A : Around) (k : KH) (R : RH) (t : Sem (List Value)) (P : List PV → KH → Prop) : Prop := Ok prog w A k R t fun vs k' => P (vs.map ab) k'
theorem oks_nil {pos : Pos} {P : List PV → KH → Prop} (h : P [] k) : OkVs prog w A k R (spliced (backTo pos (starEach [] env))) P := fun s _ H q => wpAny_items_nil (q _ s.heap s.toks _ h H)
theorem oks_cons {pos : Pos} {e : PySem.Expr} {rest : List PySem.Expr} {P : List PV → KH → Prop}
    (h : OkV prog w A k R (eval e env) fun v k1 => OkVs prog w A k1 R (spliced (backTo pos (starEach rest env))) fun vs k2 => P (v :: vs) k2)
    (he : starEach (e :: rest) env = (false, eval e env) :: starEach rest env) : OkVs prog w A k R (spliced (backTo pos (starEach (e :: rest) env))) P :=
  fun _ _ H q => wpAny_items_cons (h _ _ H fun _ _ _ _ p H' => p _ _ H' fun _ _ _ _ p' H'' => q _ _ _ _ p' H'') he

theorem ok_tup {elts : List PySem.Expr} {kd : Nat} {pos : Pos} {P : PV → KH → Prop}
    (h : OkVs prog w A k R (spliced (backTo pos (starEach elts env))) fun vs k1 => vs.length ≤ sizeLine ∧ ∀ c k', New k1 c (.tup vs) k' → P (.ref c) k') : OkV prog w A k R (eval (.Tuple elts kd pos) env) P :=
  fun _ _ H q => wpAny_Tuple (h _ _ H fun vs h' tk' k' p H' => ⟨by simpa using p.1, q _ _ tk' _ (p.2 _ _ (New.mk' H'.size_none)) (H'.new rep_tup)⟩)
theorem ok_list {elts : List PySem.Expr} {pos : Pos} {P : PV → KH → Prop}
    (h : OkVs prog w A k R (spliced (backTo pos (starEach elts env))) fun vs k1 => vs.length ≤ sizeLine ∧ ∃ p, IsListPO p vs ∧ ∀ c k', New k1 c p k' → P (.ref c) k') : OkV prog w A k R (eval (.List elts pos) env) P :=
  fun _ _ H q => wpAny_List (h _ _ H fun vs h' tk' k' p H' => ⟨by simpa using p.1, by
    refine cps fun qZ hZ => ?_
    obtain ⟨_, po, hp, pp⟩ := p
    refine hZ ?_
    clear hZ qZ
    exact q _ _ tk' _ (pp _ _ (New.mk' H'.size_none)) (H'.new hp.rep)⟩)
/-- the empty dict -/
noncomputable def IsEmptyPO (p : PO) : Prop := (∃ fz, p = .dictS fz []) ∨ (∃ fz, p = .dictI fz [])
theorem isDictOf_empty {K : Type} [DecidableEq K] (knd : PySem.KeyKind prog w K) : Obj.IsDictOf knd { cls := .type "dict", data := .dict #[] } [] :=
  ⟨#[], 0, ⟨rfl, rfl, rfl⟩, rfl, fun _ he => by simp at he, Pairs.nil, List.nodup_nil⟩
theorem IsEmptyPO.rep {p : PO} (h : IsEmptyPO p) : Rep prog w p { cls := .type "dict", data := .dict #[] } := by
  rcases h with ⟨fz, rfl⟩ | ⟨fz, rfl⟩
  · exact ⟨[], isDictOf_empty _, rfl⟩
  · exact ⟨[], isDictOf_empty _, rfl⟩
theorem ok_dict0 {pos : Pos} {P : PV → KH → Prop} (h : ∃ p, IsEmptyPO p ∧ ∀ c k', New k c p k' → P (.ref c) k') : OkV prog w A k R (eval (.Dict [] [] pos) env) P :=
  fun s _ H q => wpAny_Dict_empty (by
    obtain ⟨p, hp, pp⟩ := h
    exact q _ _ s.toks _ (pp _ _ (New.mk' H.size_none)) (H.new hp.rep))

/-! operators on ints -/
/-- an operation on two values without tokens -/
noncomputable def OkB (prog : Program) (w : World) (A : Around) (k : KH) (R : RH) (t : Value → Value → Sem Value) (a b : PV) (P : PV → KH → Prop) : Prop := ∀ va vb, ab va = a → ab vb = b → OkV prog w A k R (t va vb) P
theorem ab_int {v : Value} {i : Int} (h : ab v = .int i) : ∃ t, v = .int i t := by
  cases v <;> simp only [ab] at h <;> first | (injection h with h; subst h; exact ⟨_, rfl⟩) | cases h
theorem ab_str {v : Value} {x : Str} (h : ab v = .str x) : ∃ t, v = .str x t := by
  cases v <;> simp only [ab] at h <;> first | (injection h with h; subst h; exact ⟨_, rfl⟩) | cases h
theorem ab_ref {v : Value} {a : Addr} (h : ab v = .ref a) : v = .ref a := by
  cases v <;> simp only [ab] at h <;> first | (injection h with h; subst h; rfl) | cases h
theorem ab_bool {v : Value} {b : Bool} (h : ab v = .bool b) : v = .bool b := by
  cases v <;> simp only [ab] at h <;> first | (injection h with h; subst h; rfl) | cases h
theorem ab_none {v : Value} (h : ab v = .none) : v = .none := by
  cases v <;> simp only [ab] at h <;> first | rfl | cases h

theorem ok_BinOp {l r : PySem.Expr} {op : Operator} {pos : Pos} {P : PV → KH → Prop}
    (h : OkV prog w A k R (eval l env) fun a k1 => OkV prog w A k1 R (eval r env) fun b k2 => OkB prog w A k2 R (binaryOp op) a b P) : OkV prog w A k R (eval (.BinOp l op r pos) env) P :=
  fun _ _ H q => wpAny_BinOp (h _ _ H fun _ _ _ _ p H' => p _ _ H' fun _ _ _ _ p' H'' => p' _ _ rfl rfl _ _ H'' q)
theorem ok_Compare {l r : PySem.Expr} {op : CmpOp} {pos : Pos} {P : PV → KH → Prop} (hm : behindInMarks op r = false)
    (h : OkV prog w A k R (eval l env) fun a k1 => OkV prog w A k1 R (eval r env) fun b k2 => OkB prog w A k2 R (compareOp op) a b P) : OkV prog w A k R (eval (.Compare l [op] [r] pos) env) P :=
  fun _ _ H q => wpAny_Compare1 (h _ _ H fun _ _ _ _ p H' => p _ _ H' fun _ _ _ _ p' H'' => p' _ _ rfl rfl _ _ H'' q) hm

theorem ok_addI {i j : Int} {P : PV → KH → Prop} (h : P (.int (i + j)) k) : OkB prog w A k R (binaryOp .Add) (.int i) (.int j) P := fun va vb ea eb s Q H q => by
  obtain ⟨t, rfl⟩ := ab_int ea; obtain ⟨u, rfl⟩ := ab_int eb
  exact add_int (q _ _ _ _ h H)
theorem ok_subI {i j : Int} {P : PV → KH → Prop} (h : P (.int (i - j)) k) : OkB prog w A k R (binaryOp .Sub) (.int i) (.int j) P := fun va vb ea eb s Q H q => by
  obtain ⟨t, rfl⟩ := ab_int ea; obtain ⟨u, rfl⟩ := ab_int eb
  exact sub_int (q _ _ _ _ h H)
theorem ok_modI {i j : Int} {P : PV → KH → Prop} (hj : 0 < j) (h : P (.int (i % j)) k) : OkB prog w A k R (binaryOp .Mod) (.int i) (.int j) P := fun va vb ea eb s Q H q => by
  obtain ⟨t, rfl⟩ := ab_int ea; obtain ⟨u, rfl⟩ := ab_int eb
  refine mod_int (by first | lia | omega) ?_
  rw [Int.fmod_eq_emod_of_nonneg _ (by first | lia | omega)]
  exact q _ _ _ _ h H
theorem ok_mulI {i j : Int} {P : PV → KH → Prop} (hs : IntMulOk i j) (h : P (.int (i * j)) k) : OkB prog w A k R (binaryOp .Mult) (.int i) (.int j) P := fun va vb ea eb s Q H q => by
  obtain ⟨t, rfl⟩ := ab_int ea; obtain ⟨u, rfl⟩ := ab_int eb
  exact mul_int (q _ _ _ _ h H) hs
theorem ok_ltI {i j : Int} {P : PV → KH → Prop} (h : P (.bool (decide (i < j))) k) : OkB prog w A k R (compareOp .Lt) (.int i) (.int j) P := fun va vb ea eb s Q H q => by
  obtain ⟨t, rfl⟩ := ab_int ea; obtain ⟨u, rfl⟩ := ab_int eb
  exact lt_int (q _ s.heap s.toks _ h H)
theorem ok_gtI {i j : Int} {P : PV → KH → Prop} (h : P (.bool (decide (j < i))) k) : OkB prog w A k R (compareOp .Gt) (.int i) (.int j) P := fun va vb ea eb s Q H q => by
  obtain ⟨t, rfl⟩ := ab_int ea; obtain ⟨u, rfl⟩ := ab_int eb
  exact gt_int (q _ s.heap s.toks _ h H)
theorem ok_eqI {i j : Int} {P : PV → KH → Prop} (h : P (.bool (decide (i = j))) k) : OkB prog w A k R (compareOp .Eq) (.int i) (.int j) P := fun va vb ea eb s Q H q => by
  obtain ⟨t, rfl⟩ := ab_int ea; obtain ⟨u, rfl⟩ := ab_int eb
  exact eq_int (q (.bool (i == j)) s.heap s.toks _ (by show P (.bool (i == j)) k; rw [show (i == j) = decide (i = j) from rfl]; exact h) H)
theorem ok_neI {i j : Int} {P : PV → KH → Prop} (h : P (.bool (!decide (i = j))) k) : OkB prog w A k R (compareOp .NotEq) (.int i) (.int j) P := fun va vb ea eb s Q H q => by
  obtain ⟨t, rfl⟩ := ab_int ea; obtain ⟨u, rfl⟩ := ab_int eb
  exact ne_int (q (.bool (i != j)) s.heap s.toks _ (by show P (.bool (i != j)) k; rw [show (i != j) = !decide (i = j) from rfl]; exact h) H)
theorem ok_eqS {i j : Str} {P : PV → KH → Prop} (h : P (.bool (decide (i = j))) k) : OkB prog w A k R (compareOp .Eq) (.str i) (.str j) P := fun va vb ea eb s Q H q => by
  obtain ⟨t, rfl⟩ := ab_str ea; obtain ⟨u, rfl⟩ := ab_str eb
  exact eq_str (q (.bool (i == j)) s.heap s.toks _ (by show P (.bool (i == j)) k; rw [show (i == j) = decide (i = j) from rfl]; exact h) H)
end

section
variable {prog : Program} {w : World} {A : Around} {k : KH} {R : RH} {env : Env}
theorem map_toArray (vs : List Value) : vs.toArray.toList = vs := by simp

theorem ok_addT {a b : Addr} {xs ys : List PV} {P : PV → KH → Prop} (ha : k a = some (.tup xs)) (hb : k b = some (.tup ys)) (hx : xs ≠ []) (hy : ys ≠ []) (hz : xs.length + ys.length ≤ sizeLine)
    (h : ∀ c k', New k c (.tup (xs ++ ys)) k' → P (.ref c) k') : OkB prog w A k R (binaryOp .Add) (.ref a) (.ref b) P := fun va vb ea eb s Q H q => by
  cases ab_ref ea; cases ab_ref eb
  refine cps fun qZ hZ => ?_
  obtain ⟨_, ho, arr, n, rfl, r⟩ := H.kn a _ ha
  refine hZ ?_
  clear hZ qZ
  refine cps fun qZ hZ => ?_
  obtain ⟨_, ho2, arr2, n2, rfl, r2⟩ := H.kn b _ hb
  refine hZ ?_
  clear hZ qZ
  subst r r2
  have e1 : arr.toList ≠ [] := fun x => hx (by rw [x]; rfl)
  have e2 : arr2.toList ≠ [] := fun x => hy (by rw [x]; rfl)
  refine concat_meets ⟨_, ho, rfl⟩ ⟨_, ho2, rfl⟩ noFill_tuple_add seq_tuple_add PySem.F.slot_tuple_add PySem.F.entry_tuple_add (PySem.F.args_tuple_add_2 _ _)
    (tuple_addW2 a b arr arr2 n n2 none none #[] #[] (by simpa using e1) (by simpa using e2) (by simpa using hz)) ⟨ho, ho2, ?_⟩
  have en : arr ++ arr2 = (arr.toList ++ arr2.toList).toArray := by simp
  rw [en, ← List.map_append] at *
  exact q _ _ s.toks _ (h _ _ (New.mk' H.size_none)) (H.new rep_tup)
theorem ok_addL {a b : Addr} {xs ys : List PV} {fa fb : Bool} {P : PV → KH → Prop} (ha : k a = some (.list fa xs)) (hb : k b = some (.list fb ys)) (hz : xs.length + ys.length ≤ sizeLine)
    (h : ∃ p, IsListPO p (xs ++ ys) ∧ ∀ c k', New k c p k' → P (.ref c) k') : OkB prog w A k R (binaryOp .Add) (.ref a) (.ref b) P := fun va vb ea eb s Q H q => by
  cases ab_ref ea; cases ab_ref eb
  refine cps fun qZ hZ => ?_
  obtain ⟨_, ho, arr, n, rfl, r⟩ := H.kn a _ ha
  refine hZ ?_
  clear hZ qZ
  refine cps fun qZ hZ => ?_
  obtain ⟨_, ho2, arr2, n2, rfl, r2⟩ := H.kn b _ hb
  refine hZ ?_
  clear hZ qZ
  subst r r2
  refine concat_meets ⟨_, ho, rfl⟩ ⟨_, ho2, rfl⟩ noFill_list_add seq_list_add PySem.F.slot_list_add PySem.F.entry_list_add (PySem.F.args_list_add_2 _ _)
    (list_addW a b arr arr2 n n2 none none #[] #[] (by simpa using hz)) ⟨ho, ho2, ?_⟩
  have en : arr ++ arr2 = (arr.toList ++ arr2.toList).toArray := by simp
  rw [en]
  rw [← List.map_append] at h
  obtain ⟨p, hp, h⟩ := h
  exact q _ _ s.toks _ (h _ _ (New.mk' H.size_none)) (H.new hp.rep)
end

section
variable {prog : Program} {w : World} {A : Around} {k : KH} {R : RH} {α : Type} {env : Env}

/-! subscripts -/
theorem ok_Subscript {value slice : PySem.Expr} {pos : Pos} {P : PV → KH → Prop}
    (h : OkV prog w A k R (eval value env) fun a k1 => OkV prog w A k1 R (eval slice env) fun b k2 => OkB prog w A k2 R (subscriptTail value slice) a b P) : OkV prog w A k R (eval (.Subscript value slice pos) env) P :=
  fun _ _ H q => Subscript_ (h _ _ H fun _ _ _ _ p H' => p _ _ H' fun _ _ _ _ p' H'' => p' _ _ rfl rfl _ _ H'' q)

noncomputable def notSlice : PySem.Expr → Bool
  | .Slice .. => false
  | _ => true
theorem subscripted_plain {slice : PySem.Expr} (h : notSlice slice = true) (o i : Value) : subscripted slice false o i = operate [o, i] (getItem o i) := by
  cases slice <;> first | rfl | cases h

/-- Python's index -/
noncomputable def pyIdx (l : List PV) (i : Int) : Option PV := (seqIndex? i l.length).bind fun j => l[j]?

theorem ok_idxT {value slice : PySem.Expr} (hs : notSlice slice = true) {a : Addr} {l : List PV} {i : Int} {x : PV} {P : PV → KH → Prop} (ha : k a = some (.tup l)) (hlo : -(2 ^ 63) ≤ i) (hhi : i < 2 ^ 63) (hx : pyIdx l i = some x) (h : P x k) :
    OkB prog w A k R (subscriptTail value slice) (.ref a) (.int i) P := fun va vb ea eb s Q H q => by
  cases ab_ref ea; obtain ⟨u, rfl⟩ := ab_int eb
  obtain ⟨arr, ht, r⟩ := H.isTup ha
  unfold pyIdx at hx
  obtain ⟨j, h1, h2⟩ := Option.bind_eq_some_iff.mp hx
  subst r
  rw [List.length_map, Array.length_toList] at h1
  rw [List.getElem?_map, Option.map_eq_some_iff] at h2
  obtain ⟨v, hv, rfl⟩ := h2
  exact tail_any ht.typeIs slot_tuple_getitem.lookup (getItem_tuple ht hlo hhi h1 (by simpa using hv) (q v s.heap s.toks k h H)) (subscripted_plain hs _ _)

theorem ok_idxL {value slice : PySem.Expr} (hs : notSlice slice = true) {a : Addr} {l : List PV} {p : PO} {i : Int} {x : PV} {P : PV → KH → Prop} (ha : k a = some p) (hp : IsListPO p l) (hlo : -(2 ^ 63) ≤ i) (hhi : i < 2 ^ 63) (hx : pyIdx l i = some x) (h : P x k) :
    OkB prog w A k R (subscriptTail value slice) (.ref a) (.int i) P := fun va vb ea eb s Q H q => by
  cases ab_ref ea; obtain ⟨u, rfl⟩ := ab_int eb
  obtain ⟨arr, ht, r⟩ := H.isList ha hp
  unfold pyIdx at hx
  obtain ⟨j, h1, h2⟩ := Option.bind_eq_some_iff.mp hx
  subst r
  rw [List.length_map, Array.length_toList] at h1
  rw [List.getElem?_map, Option.map_eq_some_iff] at h2
  obtain ⟨v, hv, rfl⟩ := h2
  unfold seqIndex? at h1
  refine tail_any ht.typeIs slot_list_getitem.lookup ?_ (subscripted_plain hs _ _)
  by_cases hi : i < 0
  · simp only [hi, if_true, Bool.and_eq_true, decide_eq_true_eq] at h1
    split at h1
    · rename_i c
      cases h1
      exact wpAny_getItem_list_neg ht hi (by first | lia | omega) hlo (by simpa using hv) (q v s.heap s.toks k h H)
    · cases h1
  · simp only [hi, if_false, Bool.and_eq_true, decide_eq_true_eq] at h1
    split at h1
    · rename_i c
      cases h1
      exact wpAny_getItem_list ht (by first | lia | omega) hhi (by simpa using hv) (q v s.heap s.toks k h H)
    · cases h1

theorem Has.dictS {h : Heap} (H : Has prog w h k R) {d fz es} (e : k d = some (.dictS fz es)) : ∃ kvs, h.DictOf (strKind prog w) d kvs ∧ kvs.map (fun p => (p.1, ab p.2)) = es := by
  refine cps fun qZ hZ => ?_
  obtain ⟨o, ho, kvs, r, e'⟩ := H.kn d _ e
  refine hZ ?_
  clear hZ qZ
  exact ⟨kvs, Heap.dictOf_iff.mpr ⟨o, ho, r⟩, e'⟩
theorem Has.dictI {h : Heap} (H : Has prog w h k R) {d fz es} (e : k d = some (.dictI fz es)) : ∃ kvs, h.DictOf (intKind prog w) d kvs ∧ kvs.map (fun p => (p.1, ab p.2)) = es := by
  refine cps fun qZ hZ => ?_
  obtain ⟨o, ho, kvs, r, e'⟩ := H.kn d _ e
  refine hZ ?_
  clear hZ qZ
  exact ⟨kvs, Heap.dictOf_iff.mpr ⟨o, ho, r⟩, e'⟩
theorem valueAt_map {K : Type} [DecidableEq K] (kvs : List (K × Value)) (x : K) : (valueAt kvs x).map ab = (kvs.map fun p => (p.1, ab p.2)).lookup x := by
  induction kvs with
  | nil => rfl
  | cons p r ih =>
    unfold valueAt at ih ⊢
    rw [List.find?_cons, List.map_cons, List.lookup_cons]
    by_cases hx : p.1 = x
    · subst hx; simp
    · simp only [decide_eq_false hx]
      rw [show (x == p.1) = false from beq_eq_false_iff_ne.mpr fun e => hx e.symm]
      exact ih

theorem ok_idxS {value slice : PySem.Expr} (hs : notSlice slice = true) {d : Addr} {es : List (Str × PV)} {fz : Bool} {y : Str} {x : PV} {P : PV → KH → Prop} (hd : k d = some (.dictS fz es)) (hx : es.lookup y = some x) (h : P x k) :
    OkB prog w A k R (subscriptTail value slice) (.ref d) (.str y) P := fun va vb ea eb s Q H q => by
  cases ab_ref ea; obtain ⟨u, rfl⟩ := ab_str eb
  obtain ⟨kvs, hD, e⟩ := H.dictS hd
  rw [← e, ← valueAt_map, Option.map_eq_some_iff] at hx
  obtain ⟨v, hv, rfl⟩ := hx
  exact tail_any hD.typeIs slot_dict_getitem.lookup (wpAny_getItem_of (strKind_is prog w y u) hD.mapOf hv (q v s.heap _ k h H)) (subscripted_plain hs _ _)
theorem ok_idxI {value slice : PySem.Expr} (hs : notSlice slice = true) {d : Addr} {es : List (Int × PV)} {fz : Bool} {y : Int} {x : PV} {P : PV → KH → Prop} (hd : k d = some (.dictI fz es)) (hx : es.lookup y = some x) (h : P x k) :
    OkB prog w A k R (subscriptTail value slice) (.ref d) (.int y) P := fun va vb ea eb s Q H q => by
  cases ab_ref ea; obtain ⟨u, rfl⟩ := ab_int eb
  obtain ⟨kvs, hD, e⟩ := H.dictI hd
  rw [← e, ← valueAt_map, Option.map_eq_some_iff] at hx
  obtain ⟨v, hv, rfl⟩ := hx
  exact tail_any hD.typeIs slot_dict_getitem.lookup (wpAny_getItem_of (intKind_is prog w y u) hD.mapOf hv (q v s.heap _ k h H)) (subscripted_plain hs _ _)

/-! in -/
theorem sys_ne {h : Heap} (H : Has prog w h k R) (hS : ∃ o, R sysModules = some o) {d p} (e : k d = some p) : (d == sysModules) = false := by
  obtain ⟨o, ho⟩ := hS
  exact beq_eq_false_iff_ne.mpr (H.neR e ho)
theorem lookup_isSome_map {K : Type} [DecidableEq K] (kvs : List (K × Value)) (x : K) : (valueAt kvs x).isSome = ((kvs.map fun p => (p.1, ab p.2)).lookup x).isSome := by rw [← valueAt_map]; simp

theorem ok_inS {d : Addr} {es : List (Str × PV)} {fz : Bool} {y : Str} {P : PV → KH → Prop} (hS : ∃ o, R sysModules = some o) (hd : k d = some (.dictS fz es)) (h : P (.bool (es.lookup y).isSome) k) : OkB prog w A k R (compareOp .In) (.str y) (.ref d) P := fun va vb ea eb s Q H q => by
  cases ab_ref eb; obtain ⟨u, rfl⟩ := ab_str ea
  obtain ⟨kvs, hD, e⟩ := H.dictS hd
  rw [← e, ← lookup_isSome_map] at h
  exact wpAny_in_of (strKind_is prog w y u) (sys_ne H hS hd) hD.mapOf (q (.bool _) s.heap _ k h H)
theorem ok_inI {d : Addr} {es : List (Int × PV)} {fz : Bool} {y : Int} {P : PV → KH → Prop} (hS : ∃ o, R sysModules = some o) (hd : k d = some (.dictI fz es)) (h : P (.bool (es.lookup y).isSome) k) : OkB prog w A k R (compareOp .In) (.int y) (.ref d) P := fun va vb ea eb s Q H q => by
  cases ab_ref eb; obtain ⟨u, rfl⟩ := ab_int ea
  obtain ⟨kvs, hD, e⟩ := H.dictI hd
  rw [← e, ← lookup_isSome_map] at h
  exact wpAny_in_of (intKind_is prog w y u) (sys_ne H hS hd) hD.mapOf (q (.bool _) s.heap _ k h H)
theorem ok_ninS {d : Addr} {es : List (Str × PV)} {fz : Bool} {y : Str} {P : PV → KH → Prop} (hS : ∃ o, R sysModules = some o) (hd : k d = some (.dictS fz es)) (h : P (.bool (!(es.lookup y).isSome)) k) : OkB prog w A k R (compareOp .NotIn) (.str y) (.ref d) P := fun va vb ea eb s Q H q => by
  cases ab_ref eb; obtain ⟨u, rfl⟩ := ab_str ea
  obtain ⟨kvs, hD, e⟩ := H.dictS hd
  rw [← e, ← lookup_isSome_map] at h
  exact wpAny_notIn_of (strKind_is prog w y u) (sys_ne H hS hd) hD.mapOf (q (.bool _) s.heap _ k h H)
theorem ok_ninI {d : Addr} {es : List (Int × PV)} {fz : Bool} {y : Int} {P : PV → KH → Prop} (hS : ∃ o, R sysModules = some o) (hd : k d = some (.dictI fz es)) (h : P (.bool (!(es.lookup y).isSome)) k) : OkB prog w A k R (compareOp .NotIn) (.int y) (.ref d) P := fun va vb ea eb s Q H q => by
  cases ab_ref eb; obtain ⟨u, rfl⟩ := ab_int ea
  obtain ⟨kvs, hD, e⟩ := H.dictI hd
  rw [← e, ← lookup_isSome_map] at h
  exact wpAny_notIn_of (intKind_is prog w y u) (sys_ne H hS hd) hD.mapOf (q (.bool _) s.heap _ k h H)

theorem intsAre_of : ∀ {vs : List Value} {ns : List Int}, vs.map ab = ns.map PV.int → IntsAre vs ns
  | [], [], _ => .nil
  | v :: vs, n :: ns, h => by
    rw [List.map_cons, List.map_cons, List.cons.injEq] at h
    obtain ⟨t, rfl⟩ := ab_int h.1
    exact .cons n t (intsAre_of h.2)
  | [], _ :: _, h => by simp at h
  | _ :: _, [], h => by simp at h
theorem strsAre_of : ∀ {vs : List Value} {ns : List Str}, vs.map ab = ns.map PV.str → StrsAre vs ns
  | [], [], _ => .nil
  | v :: vs, n :: ns, h => by
    rw [List.map_cons, List.map_cons, List.cons.injEq] at h
    obtain ⟨t, rfl⟩ := ab_str h.1
    exact .cons n t (strsAre_of h.2)
  | [], _ :: _, h => by simp at h
  | _ :: _, [], h => by simp at h
theorem ab_ints {vs : List Value} {ns : List Int} (h : IntsAre vs ns) : vs.map ab = ns.map PV.int := by
  induction h with
  | nil => rfl
  | cons n t _ ih => simp [ab, ih]
theorem ab_strs {vs : List Value} {ns : List Str} (h : StrsAre vs ns) : vs.map ab = ns.map PV.str := by
  induction h with
  | nil => rfl
  | cons n t _ ih => simp [ab, ih]

theorem ok_ninL {a : Addr} {ns : List Int} {fz : Bool} {y : Int} {P : PV → KH → Prop} (hd : k a = some (.list fz (ns.map .int))) (h : P (.bool (!decide (y ∈ ns))) k) : OkB prog w A k R (compareOp .NotIn) (.int y) (.ref a) P := fun va vb ea eb s Q H q => by
  cases ab_ref eb; obtain ⟨u, rfl⟩ := ab_int ea
  obtain ⟨arr, hl, r⟩ := H.plainList hd
  have hi := intsAre_of r
  refine notin_list_ints (vs := arr.toList) (by simpa using hl.isList) hi (q (.bool _) s.heap s.toks k ?_ H)
  rw [show (ns.any fun x => x == y) = decide (y ∈ ns) by
    rw [Bool.eq_iff_iff, List.any_eq_true, decide_eq_true_eq]
    exact ⟨fun ⟨x, hx, e⟩ => by rw [← eq_of_beq e]; exact hx, fun hx => ⟨y, hx, by simp⟩⟩]
  exact h
theorem ok_inTup {a : Addr} {ns : List Str} {y : Str} {P : PV → KH → Prop} (hd : k a = some (.tup (ns.map .str))) (h : P (.bool (decide (y ∈ ns))) k) : OkB prog w A k R (compareOp .In) (.str y) (.ref a) P := fun va vb ea eb s Q H q => by
  cases ab_ref eb; obtain ⟨u, rfl⟩ := ab_str ea
  obtain ⟨arr, hl, r⟩ := H.isTup hd
  have hi := strsAre_of r
  refine in_tuple_strs hl hi (q (.bool _) s.heap s.toks k ?_ H)
  rw [show (ns.any fun x => x == y) = decide (y ∈ ns) by
    rw [Bool.eq_iff_iff, List.any_eq_true, decide_eq_true_eq]
    exact ⟨fun ⟨x, hx, e⟩ => by rw [← eq_of_beq e]; exact hx, fun hx => ⟨y, hx, by simp⟩⟩]
  exact h

/-! slices -/
theorem ok_sliceT {value : PySem.Expr} {pos : Pos} {kd : Nat} {p p' : Pos} {n : Nat} {P : PV → KH → Prop}
    (h : OkV prog w A k R (eval value env) fun v k1 => ∃ a l, v = .ref a ∧ k1 a = some (.tup l) ∧ 1 ≤ n ∧ n ≤ l.length ∧ l.length ≤ sizeLine ∧ ∀ c k', New k1 c (.tup (l.drop n)) k' → P (.ref c) k') :
    OkV prog w A k R (eval (.Subscript value (.Slice (some (.Constant (.int n) kd p)) none none p') pos) env) P := fun s Q H q => by
  refine Subscript_ (h _ _ H fun v h' tk' k' px H' => ?_)
  refine cps fun qZ hZ => ?_
  obtain ⟨a, l, ev, ha, h1, h2, h3, hP⟩ := px
  refine hZ ?_
  clear hZ qZ
  cases ab_ref ev
  refine wpAny_Slice ?_
  refine wpAny_evalPart_some (wpAny_Constant_int ?_)
  refine wpAny_evalPart_none ?_
  refine wpAny_evalPart_none ?_
  obtain ⟨arr, ht, r⟩ := H'.isTup ha
  subst r
  rw [List.length_map, Array.length_toList] at h2 h3
  have ht' : IsTup (h'.push { cls := .type "slice", data := .fields #[.int n tk', .none, .none] }) a arr := ht.push _
  refine tail_any (ops := [.ref h'.objs.size, .ref a]) (s := { s with heap := h'.push { cls := .type "slice", data := .fields #[.int n tk', .none, .none] }, toks := tk' + 1 }) ht'.typeIs slot_tuple_getitem.lookup
    (getItem_tuple_from ht' (Heap.IsSliceOf.new ..) h1 h2 ?_ h3) rfl
  have H2 := (H'.push { cls := .type "slice", data := .fields #[.int n tk', .none, .none] }).new (rep_tup (prog := prog) (w := w) (vs := arr.toList.drop n) (n := 0))
  rw [List.map_drop] at H2
  exact q _ _ _ _ (hP _ _ (New.mk' (H'.push _).size_none)) H2
theorem ok_sliceL {value : PySem.Expr} {pos : Pos} {kd : Nat} {p p' : Pos} {n : Nat} {P : PV → KH → Prop}
    (h : OkV prog w A k R (eval value env) fun v k1 => ∃ a fz l, v = .ref a ∧ k1 a = some (.list fz l) ∧ l.length ≤ sizeLine ∧ ∃ po, IsListPO po (l.take n) ∧ ∀ c k', New k1 c po k' → P (.ref c) k') :
    OkV prog w A k R (eval (.Subscript value (.Slice none (some (.Constant (.int n) kd p)) none p') pos) env) P := fun s Q H q => by
  refine Subscript_ (h _ _ H fun v h' tk' k' px H' => ?_)
  refine cps fun qZ hZ => ?_
  obtain ⟨a, fz, l, ev, ha, h3, po, hpo, hP⟩ := px
  refine hZ ?_
  clear hZ qZ
  cases ab_ref ev
  refine wpAny_Slice ?_
  refine wpAny_evalPart_none ?_
  refine wpAny_evalPart_some (wpAny_Constant_int ?_)
  refine wpAny_evalPart_none ?_
  obtain ⟨arr, hpl, r⟩ := H'.plainList ha
  have ht := hpl.isList
  subst r
  rw [List.length_map, Array.length_toList] at h3
  have ht' : (h'.push { cls := .type "slice", data := .fields #[.none, .int n tk', .none] }).IsList a arr := ht.push _
  refine tail_any (ops := [.ref h'.objs.size, .ref a]) (s := { s with heap := h'.push { cls := .type "slice", data := .fields #[.none, .int n tk', .none] }, toks := tk' + 1 }) ht'.typeIs slot_list_getitem.lookup
    (wpAny_getItem_list_slice ht' (Heap.IsSliceOf.new ..) .none (.int n tk') .none (by simp) ?_ h3) rfl
  rw [slicePick_upto' arr n]
  rw [← List.map_take] at hpo
  exact q _ _ _ _ (hP _ _ (New.mk' (H'.push _).size_none)) ((H'.push _).new hpo.rep)
end

section
variable {prog : Program} {w : World} {A : Around} {k : KH} {R : RH} {α : Type} {env : Env}

/-! methods -/
noncomputable def notCall : PySem.Expr → Bool
  | .Call .. => false
  | _ => true
theorem base_plain {o : PySem.Expr} (h : notCall o = true) (attr : Str) (env : Env) (t : Sem Value) : attributeBase o attr env t = t := by
  cases o <;> first | rfl | cases h
noncomputable def notStar : PySem.Expr → Bool
  | .Starred .. => false
  | _ => true
theorem star_cons {e : PySem.Expr} (h : notStar e = true) (rest : List PySem.Expr) (env : Env) : starEach (e :: rest) env = (false, eval e env) :: starEach rest env := by
  cases e <;> first | rfl | cases h
theorem trees1 {e : PySem.Expr} (h : notStar e = true) (pos : Pos) (env : Env) : backTo pos (starEach [e] env) = [(false, eval e env)] := by rw [star_cons h]; rfl
theorem trees2 {e f : PySem.Expr} (h : notStar e = true) (h' : notStar f = true) (pos : Pos) (env : Env) : backTo pos (starEach [e, f] env) = [(false, eval e env), (false, eval f env)] := by rw [star_cons h, star_cons h']; rfl

/-- the list there, one longer -/
structure Upd (k : KH) (c : Addr) (p : PO) (k' : KH) : Prop where
  eq : k' = upd k c p
theorem Upd.at {k c p k'} (h : Upd k c p k') : k' c = some p := by rw [h.eq]; exact upd_at
theorem Upd.ne {k c p k' a} (h : Upd k c p k') (n : a ≠ c) : k' a = k a := by rw [h.eq]; exact upd_ne n
theorem Upd.trans {k c p k' q} (h : Upd k c p k') (e : k c = some q) (f : q.frz = false) : Trans (· = c) k k' := by rw [h.eq]; exact Trans.upd e f

theorem ok_append {o elt : PySem.Expr} {apos pos : Pos} {P : PV → KH → Prop} (ho : notCall o = true) (he : notStar elt = true) (hline : (apos.endLine == pos.line) = true)
    (h : OkV prog w A k R (eval o env) fun v k1 => ∃ D l₀ fz₀, v = .ref D ∧ k1 D = some (.list fz₀ l₀) ∧ OkV prog w A k1 R (eval elt env) fun y k2 => ∃ l, k2 D = some (.list false l) ∧ l.length ≤ sizeLine ∧ ∀ k', Upd k2 D (.list false (l ++ [y])) k' → P .none k') :
    OkV prog w A k R (eval (.Call (.Attribute o "append" apos) [elt] [] pos) env) P := fun s Q H q => by
  refine wpAny_Call_append (base_plain ho _ _ _) (by rw [trees1 he]; rfl) hline (trees1 he _ _) (h _ _ H fun v h' tk' k' p H' => ?_)
  refine cps fun qZ hZ => ?_
  obtain ⟨D, l₀, fz₀, ev, hD, hy⟩ := p
  refine hZ ?_
  clear hZ qZ
  cases ab_ref ev
  refine cps fun qZ hZ => ?_
  obtain ⟨o₀, ho₀, arr₀, n₀, rfl, _⟩ := H'.kn D _ hD
  refine hZ ?_
  clear hZ qZ
  refine ⟨D, arr₀, rfl, ⟨_, n₀, ho₀, rfl, rfl, rfl⟩, hy _ _ H' fun y h2 tk2 k2 p2 H2 => ?_⟩
  refine cps fun qZ hZ => ?_
  obtain ⟨l, hl, hz, hP⟩ := p2
  refine hZ ?_
  clear hZ qZ
  obtain ⟨arr, hp, r⟩ := H2.plainList hl
  refine wpAny_list_append_plain hp (fun h3 hp3 hs3 => ?_) (by rw [← Array.length_toList, ← List.length_map (f := ab), r]; exact hz)
  obtain ⟨n3, ho3⟩ := hp3
  refine q _ _ _ _ (hP _ ⟨rfl⟩) (H2.set hl (fun b hb => hs3.2 b hb) ho3 ⟨arr.push y, n3, rfl, ?_⟩)
  simp [r]

theorem ok_get {o e d : PySem.Expr} {apos pos : Pos} {P : PV → KH → Prop} (hS : ∃ o, R sysModules = some o) (ho : notCall o = true) (he : notStar e = true) (hd : notStar d = true) (hline : (apos.endLine == pos.line) = true)
    (h : OkV prog w A k R (eval o env) fun v k1 => ∃ D, v = .ref D ∧ ((∃ fz es, k1 D = some (.dictS fz es) ∧ OkV prog w A k1 R (eval e env) fun x k2 => OkV prog w A k2 R (eval d env) fun y k3 => ∃ z, x = .str z ∧ k3 D = some (.dictS fz es) ∧ P ((es.lookup z).getD y) k3) ∨
      (∃ fz es, k1 D = some (.dictI fz es) ∧ OkV prog w A k1 R (eval e env) fun x k2 => OkV prog w A k2 R (eval d env) fun y k3 => ∃ z, x = .int z ∧ k3 D = some (.dictI fz es) ∧ P ((es.lookup z).getD y) k3))) :
    OkV prog w A k R (eval (.Call (.Attribute o "get" apos) [e, d] [] pos) env) P := fun s Q H q => by
  refine wpAny_Call_method2_late (base_plain ho _ _ _) hline (trees2 he hd _ _) (h _ _ H fun v h' tk' k' p H' => ?_)
  obtain ⟨D, ev, p⟩ := p
  cases ab_ref ev
  rcases p with ⟨fz, es, hD, hx⟩ | ⟨fz, es, hD, hx⟩
  · obtain ⟨kvs, hO, _⟩ := H'.dictS hD
    refine ⟨"dict", "dict.get", F.plainAttrs_dict, F.slot_dict_get, F.type_dict_get, hO.typeIs, hO.mapOf.noDict, wpAny_dict_get2 (knd := strKind prog w) (sys_ne H' hS hD) (hx _ _ H' fun x h2 tk2 k2 p2 H2 => p2 _ _ H2 fun y h3 tk3 k3 p3 H3 => ?_)⟩
    refine cps fun qZ hZ => ?_
    obtain ⟨z, ez, hD3, hP⟩ := p3
    refine hZ ?_
    clear hZ qZ
    obtain ⟨u, rfl⟩ := ab_str ez
    obtain ⟨kvs3, hO3, e3⟩ := H3.dictS hD3
    refine ⟨z, _, strKind_is prog w z u, hO3.mapOf, ?_⟩
    refine q _ _ _ _ ?_ H3
    rw [← e3, ← valueAt_map] at hP
    cases hv : valueAt kvs3 z with
    | none => rw [hv] at hP; exact hP
    | some v => rw [hv] at hP; exact hP
  · obtain ⟨kvs, hO, _⟩ := H'.dictI hD
    refine ⟨"dict", "dict.get", F.plainAttrs_dict, F.slot_dict_get, F.type_dict_get, hO.typeIs, hO.mapOf.noDict, wpAny_dict_get2 (knd := intKind prog w) (sys_ne H' hS hD) (hx _ _ H' fun x h2 tk2 k2 p2 H2 => p2 _ _ H2 fun y h3 tk3 k3 p3 H3 => ?_)⟩
    refine cps fun qZ hZ => ?_
    obtain ⟨z, ez, hD3, hP⟩ := p3
    refine hZ ?_
    clear hZ qZ
    obtain ⟨u, rfl⟩ := ab_int ez
    obtain ⟨kvs3, hO3, e3⟩ := H3.dictI hD3
    refine ⟨z, _, intKind_is prog w z u, hO3.mapOf, ?_⟩
    refine q _ _ _ _ ?_ H3
    rw [← e3, ← valueAt_map] at hP
    cases hv : valueAt kvs3 z with
    | none => rw [hv] at hP; exact hP
    | some v => rw [hv] at hP; exact hP

/-! stores into objects -/
noncomputable def OkU (prog : Program) (w : World) (A : Around) (k : KH) (R : RH) (t : Sem Unit) (P : KH → Prop) : Prop := Ok prog w A k R t fun _ k' => P k'
theorem set_toList (arr : Array Value) (i : Nat) (v : Value) : (arr.setIfInBounds i v).toList = arr.toList.set i v := by simp

theorem ok_setW {a : Addr} {l : List PV} {p : PO} {i : Int} {va vi vv : Value} {x : PV} {P : KH → Prop} (ha : k a = some p) (hp : IsListPO p l) (h0 : 0 ≤ i) (hhi : i < 2 ^ 63) (hn : i < l.length) (ea : ab va = .ref a) (ei : ab vi = .int i) (ev : ab vv = x)
    (h : ∀ k', Upd k a (.wlist (l.set i.toNat x)) k' → P k') : OkU prog w A k R (setItem va vi vv) P := fun s Q H q => by
  cases ab_ref ea; obtain ⟨u, rfl⟩ := ab_int ei
  obtain ⟨arr, hl, r⟩ := H.isList ha hp
  subst r
  rw [List.length_map, Array.length_toList] at hn
  refine wpAny_setItem_list hl h0 hhi hn fun h' hl' hs' => ?_
  refine cps fun qZ hZ => ?_
  obtain ⟨o', ho', hc', n', hd'⟩ := hl'
  refine hZ ?_
  clear hZ qZ
  refine q _ _ s.toks _ (h _ ⟨rfl⟩) (H.set ha (fun b hb => hs'.2 b hb) ho' ⟨hc', _, n', hd', ?_⟩)
  rw [set_toList, List.map_set, ev]

theorem stored_map {K : Type} [DecidableEq K] (kvs : List (K × Value)) (x : K) (v : Value) :
    (stored kvs x v).map (fun p => (p.1, ab p.2)) = if ((kvs.map fun p => (p.1, ab p.2)).any fun p => p.1 = x) then (kvs.map fun p => (p.1, ab p.2)).map (fun p => if p.1 = x then (p.1, ab v) else p) else (kvs.map fun p => (p.1, ab p.2)) ++ [(x, ab v)] := by
  unfold stored
  have e : ((kvs.map fun p => (p.1, ab p.2)).any fun p => p.1 = x) = kvs.any fun p => p.1 = x := by rw [List.any_map]; rfl
  rw [e]
  by_cases h : (kvs.any fun p => p.1 = x) = true
  · rw [if_pos h, if_pos h, List.map_map, List.map_map]
    apply List.map_congr_left
    intro p _
    simp only [Function.comp]
    split <;> rfl
  · rw [if_neg h, if_neg h, List.map_append]; rfl
/-- what a store makes of a dict's rows -/
noncomputable def putP {K : Type} [DecidableEq K] (es : List (K × PV)) (x : K) (v : PV) : List (K × PV) :=
  if (es.any fun p => p.1 = x) then es.map (fun p => if p.1 = x then (p.1, v) else p) else es ++ [(x, v)]

theorem ok_setS {d : Addr} {es : List (Str × PV)} {y : Str} {va vi vv : Value} {x : PV} {P : KH → Prop} (hd : k d = some (.dictS false es)) (hz : es.length ≤ sizeLine) (ea : ab va = .ref d) (ei : ab vi = .str y) (ev : ab vv = x)
    (h : ∀ k', Upd k d (.dictS false (putP es y x)) k' → P k') : OkU prog w A k R (setItem va vi vv) P := fun s Q H q => by
  cases ab_ref ea; obtain ⟨u, rfl⟩ := ab_str ei
  obtain ⟨kvs, hD, e⟩ := H.dictS hd
  subst e
  rw [List.length_map] at hz
  refine wpAny_setItem_pairs (strKind_is prog w y u) hD (fun h' hD' hs' => ?_) hz
  obtain ⟨o', ho', r'⟩ := Heap.dictOf_iff.mp hD'
  refine q _ _ _ _ (h _ ⟨rfl⟩) (H.set hd (fun b hb => hs'.2 b hb) ho' ⟨_, r', ?_⟩)
  rw [stored_map, ev]; rfl
theorem ok_setI {d : Addr} {es : List (Int × PV)} {y : Int} {va vi vv : Value} {x : PV} {P : KH → Prop} (hd : k d = some (.dictI false es)) (hz : es.length ≤ sizeLine) (ea : ab va = .ref d) (ei : ab vi = .int y) (ev : ab vv = x)
    (h : ∀ k', Upd k d (.dictI false (putP es y x)) k' → P k') : OkU prog w A k R (setItem va vi vv) P := fun s Q H q => by
  cases ab_ref ea; obtain ⟨u, rfl⟩ := ab_int ei
  obtain ⟨kvs, hD, e⟩ := H.dictI hd
  subst e
  rw [List.length_map] at hz
  refine wpAny_setItem_pairs (intKind_is prog w y u) hD (fun h' hD' hs' => ?_) hz
  obtain ⟨o', ho', r'⟩ := Heap.dictOf_iff.mp hD'
  refine q _ _ _ _ (h _ ⟨rfl⟩) (H.set hd (fun b hb => hs'.2 b hb) ho' ⟨_, r', ?_⟩)
  rw [stored_map, ev]; rfl

/-! built-in functions -/
theorem ok_len {a : Addr} {l : List PV} {p : PO} {va : Value} {P : PV → KH → Prop} (ha : k a = some p) (hp : IsListPO p l) (hz : l.length ≤ sizeLine) (ea : ab va = .ref a) (h : P (.int l.length) k) : OkV prog w A k R (call (.builtin "len") [va]) P := fun s Q H q => by
  cases ab_ref ea
  obtain ⟨arr, hl, r⟩ := H.isList ha hp
  subst r
  rw [List.length_map, Array.length_toList] at hz h
  refine Calls.call_function_entry kind_len plain_len entry_len (args_len1 _) (wpAny_mono (wpAny_len_body_list (Q := Q) hl (by rw [sizeLine_eq] at hz; (first | lia | omega)) ?_) (fun _ _ x => x) fun _ _ x => x)
  exact q _ _ _ _ h H
theorem ok_range {n : Int} {va : Value} {P : PV → KH → Prop} (ea : ab va = .int n) (h : ∀ c k', New k c (.range n) k' → P (.ref c) k') : OkV prog w A k R (call (.type "range") [va]) P := fun s Q H q => by
  obtain ⟨u, rfl⟩ := ab_int ea
  refine call_range_1 ?_
  exact q _ _ _ _ (h _ _ (New.mk' H.size_none)) (H.new ⟨_, _, _, rfl⟩)

theorem ok_isTup {v : PV} {va : Value} {b : Bool} {P : PV → KH → Prop} (ea : ab va = v)
    (hb : (b = true ∧ ∃ a l, v = .ref a ∧ k a = some (.tup l)) ∨ (b = false ∧ (v = .none ∨ (∃ i, v = .int i) ∨ (∃ x, v = .str x) ∨ ∃ a fz l, v = .ref a ∧ k a = some (.list fz l)))) (h : P (.bool b) k) :
    OkV prog w A k R (call (.builtin "isinstance") [va, .type "tuple"]) P := fun s Q H q => by
  rcases hb with ⟨rfl, a, l, rfl, ha⟩ | ⟨rfl, rfl | ⟨i, rfl⟩ | ⟨x, rfl⟩ | ⟨a, fz, l, rfl, ha⟩⟩
  · cases ab_ref ea
    refine cps fun qZ hZ => ?_
    obtain ⟨o, ho, arr, n, rfl, r⟩ := H.kn a _ ha
    refine hZ ?_
    clear hZ qZ
    exact IsiPair.tuple_tuple ho rfl (q (.bool true) s.heap s.toks k h H)
  · cases ab_none ea; exact IsiPair.NoneType_tuple (q (.bool false) _ _ k h H)
  · obtain ⟨u, rfl⟩ := ab_int ea; exact IsiPair.int_tuple (q (.bool false) _ _ k h H)
  · obtain ⟨u, rfl⟩ := ab_str ea; exact IsiPair.str_tuple (q (.bool false) _ _ k h H)
  · cases ab_ref ea
    refine cps fun qZ hZ => ?_
    obtain ⟨o, ho, arr, n, rfl, r⟩ := H.kn a _ ha
    refine hZ ?_
    clear hZ qZ
    exact IsiPair.list_tuple ho rfl (q (.bool false) _ _ k h H)
theorem ok_isInt {v : PV} {va : Value} {b : Bool} {P : PV → KH → Prop} (ea : ab va = v)
    (hb : (b = true ∧ ∃ i, v = .int i) ∨ (b = false ∧ (v = .none ∨ (∃ x, v = .str x) ∨ ∃ a l, v = .ref a ∧ k a = some (.tup l)))) (h : P (.bool b) k) :
    OkV prog w A k R (call (.builtin "isinstance") [va, .type "int"]) P := fun s Q H q => by
  rcases hb with ⟨rfl, i, rfl⟩ | ⟨rfl, rfl | ⟨x, rfl⟩ | ⟨a, l, rfl, ha⟩⟩
  · obtain ⟨u, rfl⟩ := ab_int ea; exact IsiPair.int_int (q (.bool true) s.heap s.toks k h H)
  · cases ab_none ea; exact IsiPair.NoneType_int (q (.bool false) _ _ k h H)
  · obtain ⟨u, rfl⟩ := ab_str ea; exact IsiPair.str_int (q (.bool false) _ _ k h H)
  · cases ab_ref ea
    refine cps fun qZ hZ => ?_
    obtain ⟨o, ho, arr, n, rfl, r⟩ := H.kn a _ ha
    refine hZ ?_
    clear hZ qZ
    exact IsiPair.tuple_int ho rfl (q (.bool false) _ _ k h H)

theorem ok_sortedI {a : Addr} {ns : List Int} {fz : Bool} {va : Value} {P : PV → KH → Prop} (ha : k a = some (.list fz (ns.map .int))) (hz : ns.length < 64) (ea : ab va = .ref a)
    (h : ∀ ns' : List Int, ns'.Perm ns → ns'.Pairwise (· ≤ ·) → ∃ p, IsListPO p (ns'.map .int) ∧ ∀ c k', New k c p k' → P (.ref c) k') : OkV prog w A k R (call (.builtin "sorted") [va]) P := fun s Q H q => by
  cases ab_ref ea
  obtain ⟨arr, hl, r⟩ := H.plainList ha
  have hi := intsAre_of r
  refine sorted_ints (vs := arr.toList) (by simpa using hl.isList) hi (by rw [hi.length]; exact hz) fun out ns' a1 a2 a3 => ?_
  obtain ⟨e, he⟩ := sortedAll_at s.heap arr.toList out
  obtain ⟨p, hp, hP⟩ := h ns' a2 a3
  rw [← ab_ints a1] at hp
  refine q _ _ s.toks _ (hP _ _ (New.mk' (H.fresh (Nat.le_succ _)))) (H.newAt (fun _ _ => sortedAll_old) (Nat.le_succ _) he ?_)
  have := hp.rep (prog := prog) (w := w) (n := e)
  simpa using this
end

section
open Builtin
theorem pairs_put {prog : Program} {w : World} (name : Str) (hsh : Int) (t : Tok) (v : Value) : ∀ {es : List DictEntry} {kvs : List (Str × Value)}, Pairs (strKind prog w) es kvs → (kvs.map (·.1)).Nodup →
    Pairs (strKind prog w) (putL name hsh (.str name t) v es) (stored kvs name v)
  | [], [], _, _ => by
    show Pairs _ [_] _
    unfold stored; simp only [List.any_nil, Bool.false_eq_true, if_false, List.nil_append]
    exact Pairs.cons (strKind_is prog w name t) rfl .nil
  | e :: es, kv :: kvs, h, hn => by
    cases h with
    | cons h1 h2 ht =>
      rw [List.map_cons, List.nodup_cons] at hn
      have his : e.key.isStr name = decide (kv.1 = name) := by
        rw [isStr_of]
        obtain ⟨u, hu⟩ := Value.isStrOf_shape (show Value.isStrOf kv.1 e.key = true from h1)
        rw [hu]
        show (kv.1 == name) = decide (kv.1 = name)
        rfl
      unfold putL
      rw [his]
      by_cases hk : kv.1 = name
      · subst hk
        simp only [decide_true, if_true]
        have : stored (kv :: kvs) kv.1 v = (kv.1, v) :: kvs := by
          unfold stored
          simp only [List.any_cons, decide_true, Bool.true_or, if_true, List.map_cons]
          congr 1
          exact map_store_of_not_mem kvs _ v hn.1
        rw [this]
        exact Pairs.cons h1 rfl ht
      · simp only [decide_eq_false hk, Bool.false_eq_true, if_false]
        have : stored (kv :: kvs) name v = kv :: stored kvs name v := by
          unfold stored
          simp only [List.any_cons, decide_eq_false hk, Bool.false_or, List.map_cons, if_neg hk]
          split <;> rfl
        rw [this]
        exact Pairs.cons h1 h2 (pairs_put name hsh t v ht hn.2)

theorem putL_mem {name : Str} {hsh : Int} {key v : Value} {e : DictEntry} : ∀ {es : List DictEntry}, e ∈ putL name hsh key v es → (∃ e' ∈ es, e.key = e'.key ∧ e.hash = e'.hash) ∨ (e.key = key ∧ e.hash = hsh)
  | [], h => by rw [putL, List.mem_singleton] at h; subst h; exact .inr ⟨rfl, rfl⟩
  | x :: es, h => by
    unfold putL at h
    split at h
    · rcases List.mem_cons.mp h with rfl | h
      · exact .inl ⟨x, .head _, rfl, rfl⟩
      · exact .inl ⟨e, .tail _ h, rfl, rfl⟩
    · rcases List.mem_cons.mp h with rfl | h
      · exact .inl ⟨e, .head _, rfl, rfl⟩
      · rcases putL_mem h with ⟨e', he', x⟩ | x
        · exact .inl ⟨e', .tail _ he', x⟩
        · exact .inr x

/-- what is asked of an own class -/
structure PlainCls (K : Frag) (C : Addr) : Prop where
  get : plainGet K C (Str.ofString "x") = true
  dict : hasDictIn K C = true
  set : findIn K (.ref C) "__setattr__" = some (some (.builtin "object.__setattr__"))
  over : plainOver K C = true

section
variable {prog : Program} {w : World} {A : Around} {k : KH} {R : RH} {α : Type} {env : Env} {K : Frag}

theorem isDict_shape {o : Obj} {kvs : List (Str × Value)} (h : o.IsDictOf (strKind prog w) kvs) : ∃ es n, o = dictOf es n ∧ KeysOf (strKind prog w) es.toArray ∧ Pairs (strKind prog w) es kvs ∧ (kvs.map (·.1)).Nodup := by
  refine cps fun qZ hZ => ?_
  obtain ⟨arr, n, ⟨h1, h2, h3⟩, hd, hk, hp, hn⟩ := h
  refine hZ ?_
  clear hZ qZ
  refine cps fun qZ hZ => ?_
  obtain ⟨c, d, dt, sl⟩ := o
  refine hZ ?_
  clear hZ qZ
  simp only at h1 h2 h3 hd
  subst h1 h2 h3 hd
  exact ⟨arr.toList, n, by simp [dictOf], by simpa using hk, hp, hn⟩

theorem lookIn_pairs {es : List DictEntry} {n : Nat} {kvs : List (Str × Value)} (name : Str) (hk : KeysOf (strKind prog w) es.toArray) (hp : Pairs (strKind prog w) es kvs) : lookIn name (dictOf es n) = some (valueAt kvs name) := by
  have h1 := hp.find name
  unfold lookIn dictOf
  dsimp only
  have e : (fun e : DictEntry => (strKind prog w).is name e.key) = fun x => x.key.isStr name := funext fun x => (isStr_of name x.key).symm
  rw [e] at h1
  cases hf : es.find? (fun x => x.key.isStr name) with
  | some x => rw [hf] at h1; dsimp only; rw [← h1]; rfl
  | none =>
    rw [hf] at h1
    dsimp only
    have : es.any (·.refKey) = false := by
      rw [List.any_eq_false]
      intro x hx
      obtain ⟨y, hy, _⟩ := hk x (by simpa using hx)
      obtain ⟨t, ht⟩ := Value.isStrOf_shape (show Value.isStrOf y x.key = true from hy)
      simp [DictEntry.refKey, ht]
    rw [this, ← h1]; rfl

theorem ok_getAttr {x C dx : Addr} {fz : Bool} {es : List (Str × PV)} {name : Str} {expr : Bool} {v : PV} {va : Value} {P : PV → KH → Prop} (hK : ∀ a o, K.lookup a = some o → R a = some o) (hC : PlainCls K C) (hn : findIn K (.ref C) name = some none)
    (hx : k x = some (.inst C dx)) (hd : k dx = some (.dictS fz es)) (hl : es.lookup name = some v) (hv : v ≠ .other) (ea : ab va = .ref x) (h : P v k) : OkV prog w A k R (getAttr va name expr) P := fun s Q H q => by
  cases ab_ref ea
  have X : K.In s.heap := fun a o e => H.fr a o (hK a o e)
  obtain ⟨ox, hox, rfl⟩ := H.kn x _ hx
  refine cps fun qZ hZ => ?_
  obtain ⟨od, hod, kvs, hD, e⟩ := H.kn dx _ hd
  refine hZ ?_
  clear hZ qZ
  refine cps fun qZ hZ => ?_
  obtain ⟨el, n, rfl, hk, hp, _⟩ := isDict_shape hD
  refine hZ ?_
  clear hZ qZ
  subst e
  rw [← valueAt_map, Option.map_eq_some_iff] at hl
  obtain ⟨y, hy, rfl⟩ := hl
  have I : W.InstAt s.heap x (instObj C dx) C (some (dictOf el n)) := ⟨hox, rfl, rfl, hod⟩
  refine get_value X I (plainGet_of hC.get).1 (findObj_own hC.dict hn rfl ((lookIn_pairs name hk hp).trans (by rw [hy]))) ?_ (q _ _ _ _ h H)
  cases y <;> first | rfl | exact absurd rfl hv

theorem ok_setAttr {x C dx : Addr} {es : List (Str × PV)} {name : Str} {vx vv : Value} {v : PV} {P : KH → Prop} (hK : ∀ a o, K.lookup a = some o → R a = some o) (hC : PlainCls K C) (hn : findIn K (.ref C) name = some none)
    (hx : k x = some (.inst C dx)) (hd : k dx = some (.dictS false es)) (hz : es.length < 900) (ea : ab vx = .ref x) (ev : ab vv = v) (h : ∀ k', Upd k dx (.dictS false (putP es name v)) k' → P k') : OkU prog w A k R (setAttr vx name vv) P := fun s Q H q => by
  cases ab_ref ea
  have X : K.In s.heap := fun a o e => H.fr a o (hK a o e)
  obtain ⟨ox, hox, rfl⟩ := H.kn x _ hx
  refine cps fun qZ hZ => ?_
  obtain ⟨od, hod, kvs, hD, e⟩ := H.kn dx _ hd
  refine hZ ?_
  clear hZ qZ
  refine cps fun qZ hZ => ?_
  obtain ⟨el, n, rfl, hk, hp, hnd⟩ := isDict_shape hD
  refine hZ ?_
  clear hZ qZ
  have I : W.InstAt s.heap x (instObj C dx) C (some (dictOf el n)) := ⟨hox, rfl, rfl, hod⟩
  have hz' : el.length < 900 := by rw [hp.length, ← List.length_map (f := fun p : Str × Value => (p.1, ab p.2)), e]; exact hz
  have lenPut : ∀ (l : List DictEntry) (a : Int) (b c : Value), (putL name a b c l).length ≤ l.length + 1 := by
    intro l a b c
    induction l with
    | nil => exact Nat.le_refl _
    | cons y r ih => unfold putL; split <;> simp only [List.length_cons] <;> (first | lia | omega)
  refine W.set_plain X I hC.set (osa_open (s := { s with toks := s.toks + 1 }) X I hC.over (by unfold takerIn; rw [hn]; rfl) fun b => ?_)
  obtain ⟨cd, hc, hd'⟩ := any_some hC.dict
  refine wpAny_bind (wpAny_pure (wpAny_bind (wpAny_bind (wpAny_loadPart hox (wpAny_bind (Looks.here (s := { s with toks := s.toks + 1 }) (looks_clsIn X hc) ?_))))))
  rw [hd']
  refine wpAny_pure (a := some dx) (wpAny_bind (wpAny_pure (wpAny_bind ?_)))
  unfold nsSet
  refine wpAny_bind (wpAny_bind (wpAny_askSetting (wpAny_pure (wpAny_bind (wpAny_mkText (wpAny_bind (wpAny_loadPart hod ?_)))))))
  have keyless : el.any (·.refKey) = false := by
    rw [List.any_eq_false]
    intro x hx
    obtain ⟨y, hy, _⟩ := hk x (by simpa using hx)
    obtain ⟨t, ht⟩ := Value.isStrOf_shape (show Value.isStrOf y x.key = true from hy)
    simp [DictEntry.refKey, ht]
  dsimp only
  rw [aRefKeyMayBeTheName_at, show (!el.toArray.any (·.key.isStr name) && el.toArray.any (·.refKey)) = false by rw [show el.toArray.any (·.refKey) = false from by simpa using keyless, Bool.and_false]]
  refine wpAny_updatePart hod ?_
  have od' := Heap.get?_update_self (Obj.putName name (PyData.keyHash w.params name) (.str name (s.toks + 1)) vv) hod (by rw [putName_dict]; rfl)
  rw [putName_dict] at od'
  refine wpAny_bind (wpAny_lookBehind od' (pastItsLine_dict (by rw [List.size_toArray, sizeLine_eq]; have := lenPut el (PyData.keyHash w.params name) (.str name (s.toks + 1)) vv; (first | lia | omega))) ?_)
  refine wpAny_pure ?_
  refine q _ _ _ _ (h _ ⟨rfl⟩) (H.set hd (fun b hb => Heap.get?_update_ne _ _ _ _ hb) od' ⟨stored kvs name vv, ?_, ?_⟩)
  · refine ⟨_, _, ⟨rfl, rfl, rfl⟩, rfl, ?_, ?_, ?_⟩
    · intro y hy
      rw [List.mem_toArray] at hy
      rcases putL_mem hy with ⟨y', hy', e1, e2⟩ | ⟨e1, e2⟩
      · obtain ⟨z, h1, h2⟩ := hk y' (by simpa using hy')
        exact ⟨z, by rw [e1]; exact h1, by rw [e2]; exact h2⟩
      · exact ⟨name, by rw [e1]; exact strKind_is prog w name _, by rw [e2]; rfl⟩
    · rw [List.toList_toArray]; exact pairs_put name _ _ vv hp hnd
    · unfold stored
      split
      · rw [List.map_map]
        have : ((fun x : Str × Value => x.1) ∘ fun kv => if kv.1 = name then (kv.1, vv) else kv) = fun x => x.1 := by
          funext kv; simp only [Function.comp]; split <;> rfl
        rw [this]; exact hnd
      · rename_i hno
        rw [List.map_append, List.nodup_append]
        refine ⟨hnd, List.nodup_cons.mpr ⟨by simp, List.nodup_nil⟩, fun a ha b hb => ?_⟩
        rw [List.map_cons, List.map_nil, List.mem_singleton] at hb
        subst hb
        obtain ⟨p, hp', rfl⟩ := List.mem_map.mp ha
        intro e3
        exact hno (List.any_eq_true.mpr ⟨p, hp', by simp [e3]⟩)
  · rw [stored_map, e, ev]; rfl
end
end

section
variable {prog : Program} {w : World} {A : Around} {k : KH} {R : RH} {α : Type} {env : Env}

theorem fst_ab {K : Type} (kvs : List (K × Value)) : (kvs.map fun p => (p.1, ab p.2)).map (·.1) = kvs.map (·.1) := by rw [List.map_map]; rfl
theorem keys_strs {kvs : List (Str × Value)} : ∀ {vs : List Value}, vs.length = kvs.length → (∀ (j : Nat) (v : Value), vs[j]? = some v → ∃ k x, kvs[j]? = some (k, x) ∧ (strKind prog w).is k v = true) → StrsAre vs (kvs.map (·.1)) := by
  induction kvs with
  | nil => intro vs h _; rw [List.eq_nil_of_length_eq_zero h]; exact .nil
  | cons p r ih =>
    intro vs h hk
    match vs, h with
    | v :: vs, h =>
      refine cps fun qZ hZ => ?_
      obtain ⟨x, y, e, hx⟩ := hk 0 v rfl
      refine hZ ?_
      clear hZ qZ
      simp only [List.getElem?_cons_zero, Option.some.injEq] at e
      subst e
      obtain ⟨t, rfl⟩ := Value.isStrOf_shape (show Value.isStrOf x v = true from hx)
      exact .cons x t (ih (by simpa using h) fun j u hu => by simpa using hk (j + 1) u (by simpa using hu))
theorem keys_ints {kvs : List (Int × Value)} : ∀ {vs : List Value}, vs.length = kvs.length → (∀ (j : Nat) (v : Value), vs[j]? = some v → ∃ k x, kvs[j]? = some (k, x) ∧ (intKind prog w).is k v = true) → IntsAre vs (kvs.map (·.1)) := by
  induction kvs with
  | nil => intro vs h _; rw [List.eq_nil_of_length_eq_zero h]; exact .nil
  | cons p r ih =>
    intro vs h hk
    match vs, h with
    | v :: vs, h =>
      refine cps fun qZ hZ => ?_
      obtain ⟨x, y, e, hx⟩ := hk 0 v rfl
      refine hZ ?_
      clear hZ qZ
      simp only [List.getElem?_cons_zero, Option.some.injEq] at e
      subst e
      have : ∃ t, v = .int x t := by
        cases v <;> simp [intKind, Value.isInt] at hx
        subst hx; exact ⟨_, rfl⟩
      obtain ⟨t, rfl⟩ := this
      exact .cons x t (ih (by simpa using h) fun j u hu => by simpa using hk (j + 1) u (by simpa using hu))

theorem ok_listI {d : Addr} {es : List (Int × PV)} {fz : Bool} {va : Value} {P : PV → KH → Prop} (hh : A.handled = none) (hS : ∃ o, R sysModules = some o) (hd : k d = some (.dictI fz es)) (hz : es.length ≤ sizeLine) (ea : ab va = .ref d)
    (h : ∃ p, IsListPO p ((es.map (·.1)).map .int) ∧ ∀ c k', New k c p k' → P (.ref c) k') : OkV prog w A k R (call (.type "list") [va]) P := fun s Q H q => by
  cases ab_ref ea
  obtain ⟨kvs, hD, e⟩ := H.dictI hd
  obtain ⟨ep, hA⟩ := hD.dictAt
  subst e
  rw [List.length_map] at hz
  refine kdl_call (kdl_dict (knd := intKind prog w) (sys_ne H hS hd)) hh hA hz fun h' tk acc c hk hc hacc => ?_
  have hi : IntsAre acc.toList (kvs.map (·.1)) := keys_ints (by rw [Array.length_toList]; exact hacc.1) fun j v e => hacc.2 j v (by rw [← Array.getElem?_toList]; exact e)
  obtain ⟨p, hp, hP⟩ := h
  rw [fst_ab, ← ab_ints hi] at hp
  refine q _ _ _ _ (hP _ _ (New.mk' H.size_none)) (H.newAt hk (Nat.le_refl _) hc ?_)
  have := hp.rep (prog := prog) (w := w) (n := c)
  simpa using this

theorem ok_sortedS {d : Addr} {es : List (Str × PV)} {fz : Bool} {va : Value} {P : PV → KH → Prop} (hh : A.handled = none) (hS : ∃ o, R sysModules = some o) (hd : k d = some (.dictS fz es)) (hz : es.length < 64) (ea : ab va = .ref d)
    (h : ∀ ns' : List Str, ns'.Perm (es.map (·.1)) → sortedS ns' = true → ∃ p, IsListPO p (ns'.map .str) ∧ ∀ c k', New k c p k' → P (.ref c) k') : OkV prog w A k R (call (.builtin "sorted") [va]) P := fun s Q H q => by
  cases ab_ref ea
  obtain ⟨kvs, hD, e⟩ := H.dictS hd
  obtain ⟨ep, hA⟩ := hD.dictAt
  subst e
  rw [List.length_map] at hz
  rw [fst_ab] at h
  refine call_function_entry kind_sorted plain_sorted entry_sorted (args_sorted1 _) ?_
  unfold Builtin.«sorted»
  refine wpAny_bind (m := checkCount "sorted" 1 1 _) (wpAny_pure ?_)
  refine wpAny_bind (kdu_collect (A := A.in1) (kdl_dict (knd := strKind prog w) (sys_ne H hS hd)) hh hA (by rw [sizeLine_eq]; (first | lia | omega)) fun h' tk acc hk hacc => ?_)
  have hi : StrsAre acc.toList (kvs.map (·.1)) := keys_strs (by rw [Array.length_toList]; exact hacc.1) fun j v e => hacc.2 j v (by rw [← Array.getElem?_toList]; exact e)
  have hl : acc.toList.length < 64 := by rw [hi.length, List.length_map]; exact hz
  refine wpAny_bind (wpAny_newList ?_ (by rw [sizeLine_eq]; (first | lia | omega)))
  have ho : (h'.push (seqObj "list" acc.toList.toArray 0)).get? h'.objs.size = some (seqObj "list" acc.toList.toArray 0) := Heap.get?_push_size _ rfl
  refine wpAny_bind (wpAny_holding (wpAny_call_entry slot_list_sort ⟨_, ho, rfl⟩ entry_list_sort (list_sort_treeK strKind_oneLt ho hi.keysOf (fun v₁ v₂ rest e => keyKind_strs (by rw [← e]; exact hi)) hl fun st' hp hs => ⟨_, rfl, ?_⟩) (args_list_sort _)))
  refine wpAny_pure ⟨_, rfl, ?_⟩
  refine cps fun qZ hZ => ?_
  obtain ⟨ss', a1, a2, a3⟩ := sorted_out_str hi hp hs
  refine hZ ?_
  clear hZ qZ
  obtain ⟨e, he⟩ := sortedHeap_at (out := (arrOf st').map (·.2)) ho
  obtain ⟨p, hp, hP⟩ := h ss' a2 a3
  rw [← ab_strs a1] at hp
  have H1 := H.keeps hk
  refine q _ _ _ _ (hP _ _ (New.mk' H1.size_none)) (H1.newAt (fun b o e => ?_) (Nat.le_refl _) he ?_)
  · have hlt := Heap.lt_size e
    rw [sortedHeap_old (Nat.ne_of_lt hlt) (by rw [size_push']; exact Nat.lt_succ_of_lt hlt)]
    exact Heap.get?_push_of_some _ e
  · have := hp.rep (prog := prog) (w := w) (n := e)
    rwa [Array.toArray_toList] at this
end

/-! frames -/
abbrev Loc := Str → Option PV
noncomputable def setL (m : Loc) (x : Str) (v : PV) : Loc := fun y => if y = x then some v else m y

noncomputable def NsObj (o : Obj) (m : Str → Option Value) : Prop := ∃ es ep, o.data = .dict es ep ∧ StrKeys es ∧ ∀ name, nsFind es name = m name
theorem NsObj.ns {h : Heap} {a : Addr} {o : Obj} {m : Str → Option Value} (x : NsObj o m) (e : h.get? a = some o) : h.Ns a m := let ⟨es, ep, r⟩ := x; ⟨o, es, ep, e, r⟩
theorem NsObj.of_ns {h : Heap} {a : Addr} {m : Str → Option Value} (x : h.Ns a m) : ∃ o, h.get? a = some o ∧ NsObj o m := let ⟨o, es, ep, e, r⟩ := x; ⟨o, e, es, ep, r⟩

/-- a frame: its locals' dict and its cells lie in R -/
structure Frm (env : Env) (m : Loc) (R : RH) : Prop where
  kind : env.scope.kind = .function
  loc : ∃ o mL, R env.locals = some o ∧ NsObj o mL ∧ ∀ x, env.kindOf x = some .local → (mL x).map ab = m x
  cell : ∀ x, env.kindOf x = some .cell → ∃ c o rv, env.cells.lookup x = some c ∧ R c = some o ∧ o.data = .cell rv ∧ rv.map ab = m x
  dom : ∀ x v, m x = some v → env.kindOf x = some .local ∨ env.kindOf x = some .cell
  apart : ∀ x y c, env.cells.lookup x = some c → env.cells.lookup y = some c → x = y
  cin : ∀ x c, env.cells.lookup x = some c → ∃ o, R c = some o

/-- the addresses that a frame's stores touch -/
noncomputable def FA (env : Env) (a : Addr) : Prop := a = env.locals ∨ ∃ x, env.cells.lookup x = some a
theorem lookup_mem {K V : Type} [BEq K] [LawfulBEq K] : ∀ {l : List (K × V)} {x : K} {v : V}, l.lookup x = some v → (x, v) ∈ l
  | (y, u) :: r, x, v, h => by
    rw [List.lookup_cons] at h
    split at h
    · rename_i e; cases h; rw [eq_of_beq e]; exact .head _
    · exact .tail _ (lookup_mem h)

/-- a list of texts and other things of the base -/
structure Glob' where
  K : Frag
  mg : Str → Option Value
  mb : Str → Option Value
  base : RH
  lists : Addr → Option (List PV)

/-- what holds of the base -/
structure Good (G : Glob') : Prop where
  kin : ∀ a o, G.K.lookup a = some o → G.base a = some o
  nsg : ∃ o, G.base mainGlobals = some o ∧ NsObj o G.mg
  nsb : ∃ o, G.base builtinsNs = some o ∧ NsObj o G.mb
  sys : ∃ o, G.base sysModules = some o
  nolimit : ∃ o mc, G.base cStatics = some o ∧ NsObj o mc ∧ mc "sys.recursionlimit" = none
  lists : ∀ a l, G.lists a = some l → ∃ o arr n, G.base a = some o ∧ o.cls = .type "list" ∧ o.data = .seq arr n ∧ arr.toList.map ab = l

noncomputable def Over (G : Glob') (R : RH) : Prop := ∀ a o, G.base a = some o → R a = some o

structure Room (A : Around) (d : Nat) : Prop where
  handled : A.handled = none
  depth : A.depth + d < 990
  units : A.units + 10 * d < 9000
theorem Room.le {A : Around} {d d' : Nat} (h : Room A d) (l : d' ≤ d) : Room A d' := ⟨h.handled, by have := h.depth; (first | lia | omega), by have := h.units; (first | lia | omega)⟩
theorem Room.deeper {A : Around} {d : Nat} {env : Env} (h : Room A (d + 1)) : Room (A.deeper env) d :=
  ⟨h.handled, by have := h.depth; show A.depth + 1 + d < 990; (first | lia | omega), by have := h.units; show A.units + 3 + 10 * d < 9000; (first | lia | omega)⟩

section
variable {prog : Program} {w : World} {A : Around} {k : KH} {R : RH} {env : Env} {m : Loc}

theorem ok_load (F : Frm env m R) {x : Str} {v : PV} (hx : m x = some v) {P : PV → KH → Prop} (h : P v k) : OkV prog w A k R (loadName env x) P := fun s Q H q => by
  rcases F.dom x v hx with hk | hk
  · refine cps fun qZ hZ => ?_
    obtain ⟨o, mL, hR, hn, hl⟩ := F.loc
    refine hZ ?_
    clear hZ qZ
    have := hl x hk
    rw [hx, Option.map_eq_some_iff] at this
    obtain ⟨rv, hrv, rfl⟩ := this
    exact wpAny_loadName_local F.kind hk (hn.ns (H.fr _ _ hR)) hrv (q rv s.heap s.toks k h H)
  · refine cps fun qZ hZ => ?_
    obtain ⟨c, o, rv, hc, hR, hd, e⟩ := F.cell x hk
    refine hZ ?_
    clear hZ qZ
    rw [hx, Option.map_eq_some_iff] at e
    obtain ⟨rv, rfl, rfl⟩ := e
    exact wpAny_loadName_cell F.kind hk hc ⟨o, H.fr _ _ hR, hd⟩ (q rv s.heap s.toks k h H)
theorem ok_Name (F : Frm env m R) {x : Str} {pos : Pos} {v : PV} (hx : m x = some v) (hd : (x == ("__debug__" : Str)) = false) {P : PV → KH → Prop} (h : P v k) : OkV prog w A k R (eval (.Name x pos) env) P :=
  fun _ _ H q => wpAny_Name (ok_load F hx h _ _ H q) hd

/-- a global name -/
structure IsGlob (env : Env) (x : Str) : Prop where
  kind : env.scope.kind = .function
  glob : env.kindOf x = some .globalImplicit
  debug : (x == ("__debug__" : Str)) = false
structure GEnv (env : Env) : Prop where
  globals : env.globals = mainGlobals
  builtins : env.builtins = builtinsNs

theorem glob_val {G : Glob'} (g : Good G) (O : Over G R) (E : GEnv env) {x : Str} (hx : IsGlob env x) {pos : Pos} {v : Value} (hv : G.mg x = some v) {s : Shared} {Q : Value → Shared → Prop} (H : Has prog w s.heap k R) (q : Q v s) : wpAny (model prog w) A (eval (.Name x pos) env) Q Fls s := by
  obtain ⟨o, ho, hn⟩ := g.nsg
  exact Name_function_global hx.kind hx.glob (loadGlobal_global (by rw [E.globals]; exact hn.ns (H.fr _ _ (O _ _ ho))) hv q) hx.debug
theorem glob_blt {G : Glob'} (g : Good G) (O : Over G R) (E : GEnv env) {x : Str} (hx : IsGlob env x) {pos : Pos} {v : Value} (hm : G.mg x = none) (hv : G.mb x = some v) {s : Shared} {Q : Value → Shared → Prop} (H : Has prog w s.heap k R) (q : Q v s) : wpAny (model prog w) A (eval (.Name x pos) env) Q Fls s := by
  obtain ⟨o, ho, hn⟩ := g.nsg
  obtain ⟨o', ho', hn'⟩ := g.nsb
  exact Name_function_global hx.kind hx.glob (loadGlobal_builtin (by rw [E.globals]; exact hn.ns (H.fr _ _ (O _ _ ho))) hm (by rw [E.builtins]; exact hn'.ns (H.fr _ _ (O _ _ ho'))) hv q) hx.debug

theorem updR_some {R : RH} {a b : Addr} {o : Obj} (h : ∃ p, R b = some p) : ∃ p, updR R a o b = some p := by
  unfold updR; split
  · exact ⟨_, rfl⟩
  · exact h

/-- the outcome of a statement -/
inductive Fl where
  | next | cont | brk | ret (v : PV)
noncomputable def abF : Flow → Fl
  | .next => .next
  | .cont => .cont
  | .brk => .brk
  | .ret v => .ret (ab v)

/-- the abstract wp of a statement in a frame -/
noncomputable def OkS (prog : Program) (w : World) (A : Around) (env : Env) (k : KH) (R : RH) (m : Loc) {α : Type} (t : Sem α) (P : α → Loc → KH → Prop) : Prop :=
  Frm env m R → ∀ (s : Shared) (Q : α → Shared → Prop), Has prog w s.heap k R →
    (∀ fl h' tk' m' k' R', P fl m' k' → Has prog w h' k' R' → Frm env m' R' → (∀ a, ¬ FA env a → R' a = R a) → Q fl { s with heap := h', toks := tk' }) → wpAny (model prog w) A t Q Fls s

theorem okS_of {α : Type} {t : Sem α} {P : α → Loc → KH → Prop} (h : Frm env m R → Ok prog w A k R t fun a k' => P a m k') : OkS prog w A env k R m t P :=
  fun F s Q H q => h F s Q H fun a h' tk' k' p H' => q a h' tk' m k' R p H' F fun _ _ => rfl
theorem OkS.mono {α : Type} {t : Sem α} {P P' : α → Loc → KH → Prop} (h : OkS prog w A env k R m t P) (s : ∀ a m' k', P a m' k' → P' a m' k') : OkS prog w A env k R m t P' :=
  fun F _ _ H q => h F _ _ H fun a h' tk' m' k' R' p => q a h' tk' m' k' R' (s _ _ _ p)
/-- an expression, then something that stores -/
theorem okS_bindV {α : Type} {e : Sem Value} {f : Value → Sem α} {P : α → Loc → KH → Prop} (h : Frm env m R → OkV prog w A k R e fun v k' => ∀ va, ab va = v → OkS prog w A env k' R m (f va) P) : OkS prog w A env k R m (e >>= f) P :=
  fun F _ _ H q => wpAny_bind (h F _ _ H fun va _ _ _ p H' => p va rfl F _ _ H' q)

theorem store_local (F : Frm env m R) {x : Str} {va : Value} (hk : env.kindOf x = some .local) {s : Shared} {Q : Unit → Shared → Prop} (H : Has prog w s.heap k R)
    (q : ∀ h' tk' R', Has prog w h' k R' → Frm env (setL m x (ab va)) R' → (∀ a, a ≠ env.locals → R' a = R a) → Q () { s with heap := h', toks := tk' }) : wpAny (model prog w) A (storeName env x va) Q Fls s := by
  have hp : (env.scope.kind == .class || (env.scope.kind == .module && env.locals != env.globals)) = false := by rw [F.kind]; rfl
  refine cps fun qZ hZ => ?_
  obtain ⟨oL, mL, hR, hn, hl⟩ := F.loc
  refine hZ ?_
  clear hZ qZ
  have kL : k env.locals = none := (H.dj env.locals).resolve_right (by rw [hR]; exact fun x => nomatch x)
  refine wpAny_storeName_local hk (hn.ns (H.fr _ _ hR)) (fun h' hn' hs' => ?_) hp
  obtain ⟨o', ho', hno'⟩ := NsObj.of_ns hn'
  refine q _ _ (updR R env.locals o') ⟨fun a p e => ?_, fun a o e => ?_, fun a => ?_⟩ ⟨F.kind, ⟨o', _, by simp [updR], hno', fun y hy => ?_⟩, fun y hy => ?_, fun y v hv => ?_, F.apart, fun y c hc => updR_some (F.cin y c hc)⟩ fun a ha => ?_
  · obtain ⟨o, h1, h2⟩ := H.kn a p e
    exact ⟨o, (hs'.2 a (fun x => by subst x; rw [kL] at e; cases e)).trans h1, h2⟩
  · unfold updR at e
    split at e
    · rename_i y; subst y; cases e; exact ho'
    · rename_i y; exact (hs'.2 a y).trans (H.fr a o e)
  · unfold updR
    split
    · rename_i y; subst y; exact .inl kL
    · exact H.dj a
  · unfold setL
    by_cases hyx : y = x
    · rw [if_pos hyx, if_pos hyx]; rfl
    · rw [if_neg hyx, if_neg hyx]; exact hl y hy
  · refine cps fun qZ hZ => ?_
    obtain ⟨c, o, rv, h1, h2, h3, h4⟩ := F.cell y hy
    refine hZ ?_
    clear hZ qZ
    have hcL : c ≠ env.locals := fun z => by
      subst z; rw [hR] at h2; cases h2
      refine cps fun qZ hZ => ?_
      obtain ⟨es, ep, hd, _⟩ := hn
      refine hZ ?_
      clear hZ qZ
      rw [hd] at h3; cases h3
    refine ⟨c, o, rv, h1, by unfold updR; rw [if_neg hcL]; exact h2, h3, ?_⟩
    unfold setL
    rw [if_neg (fun z => by subst z; rw [hk] at hy; cases hy)]; exact h4
  · unfold setL at hv
    by_cases hyx : y = x
    · subst hyx; exact .inl hk
    · rw [if_neg hyx] at hv; exact F.dom y v hv
  · unfold updR; rw [if_neg ha]

theorem okS_store {x : Str} {va : Value} {P : Unit → Loc → KH → Prop} (hk : env.kindOf x = some .local ∨ env.kindOf x = some .cell) (h : P () (setL m x (ab va)) k) : OkS prog w A env k R m (storeName env x va) P := fun F s Q H q => by
  have hp : (env.scope.kind == .class || (env.scope.kind == .module && env.locals != env.globals)) = false := by rw [F.kind]; rfl
  rcases hk with hk | hk
  · exact store_local F hk H fun h' tk' R' H' F' e => q () h' tk' _ k R' h H' F' fun a ha => e a fun y => ha (.inl y)
  refine cps fun qZ hZ => ?_
  obtain ⟨oL, mL, hR, hn, hl⟩ := F.loc
  refine hZ ?_
  clear hZ qZ
  · refine cps fun qZ hZ => ?_
    obtain ⟨c, oc, rv, hc, hRc, hd, hv⟩ := F.cell x hk
    refine hZ ?_
    clear hZ qZ
    have kc : k c = none := (H.dj c).resolve_right (by rw [hRc]; exact fun x => nomatch x)
    have hcL : env.locals ≠ c := fun z => by
      rw [z, hRc] at hR; cases hR
      refine cps fun qZ hZ => ?_
      obtain ⟨es, ep, hd', _⟩ := hn
      refine hZ ?_
      clear hZ qZ
      rw [hd'] at hd; cases hd
    refine wpAny_storeName_cell F.kind hk hc ⟨oc, H.fr _ _ hRc, hd⟩ (fun h' hc' hs' => ?_)
    obtain ⟨o', ho', hd'⟩ := hc'
    refine q () _ s.toks (setL m x (ab va)) k (updR R c o') h ⟨fun a p e => ?_, fun a o e => ?_, fun a => ?_⟩ ⟨F.kind, ⟨oL, mL, by unfold updR; rw [if_neg hcL]; exact hR, hn, fun y hy => ?_⟩, fun y hy => ?_, fun y v hv => ?_, F.apart, fun y c hc => updR_some (F.cin y c hc)⟩ fun a ha => ?_
    · obtain ⟨o, h1, h2⟩ := H.kn a p e
      exact ⟨o, (hs'.2 a (fun x => by subst x; rw [kc] at e; cases e)).trans h1, h2⟩
    · unfold updR at e
      split at e
      · rename_i y; subst y; cases e; exact ho'
      · rename_i y; exact (hs'.2 a y).trans (H.fr a o e)
    · unfold updR
      split
      · rename_i y; subst y; exact .inl kc
      · exact H.dj a
    · unfold setL
      rw [if_neg (fun z => by subst z; rw [hk] at hy; cases hy)]; exact hl y hy
    · by_cases hyx : y = x
      · subst hyx
        exact ⟨c, o', some va, hc, by simp [updR], hd', by simp [setL]⟩
      · refine cps fun qZ hZ => ?_
        obtain ⟨c', o, rv', h1, h2, h3, h4⟩ := F.cell y hy
        refine hZ ?_
        clear hZ qZ
        refine ⟨c', o, rv', h1, ?_, h3, by unfold setL; rw [if_neg hyx]; exact h4⟩
        unfold updR
        rw [if_neg (fun z => hyx (F.apart y x c' h1 (by rw [z]; exact hc)))]; exact h2
    · unfold setL at hv
      by_cases hyx : y = x
      · subst hyx; exact .inr hk
      · rw [if_neg hyx] at hv; exact F.dom y v hv
    · unfold updR; rw [if_neg (fun z => ha (.inr ⟨x, by rw [z]; exact hc⟩))]
end

/-- a frame's addresses lie outside the base -/
noncomputable def Free (G : Glob') (env : Env) : Prop := ∀ a, FA env a → G.base a = none

section
variable (prog : Program) (w : World) (G : Glob')
/-- an expression, in any frame over the base -/
noncomputable def OkE (A : Around) (env : Env) (k : KH) (m : Loc) (t : Sem Value) (P : PV → KH → Prop) : Prop := ∀ R, Over G R → Frm env m R → OkV prog w A k R t P
/-- a test -/
noncomputable def OkC (A : Around) (env : Env) (k : KH) (m : Loc) (t : Sem Bool) (P : Bool → KH → Prop) : Prop := ∀ R, Over G R → Frm env m R → Ok prog w A k R t P
/-- a statement -/
noncomputable def OkX (A : Around) (env : Env) (k : KH) (m : Loc) (t : Sem Flow) (P : Fl → Loc → KH → Prop) : Prop := ∀ R, Over G R → OkS prog w A env k R m t fun fl m' k' => P (abF fl) m' k'
end

section
variable {prog : Program} {w : World} {G : Glob'} {A : Around} {k : KH} {m : Loc} {env : Env}

theorem Over.frame {R R' : RH} (O : Over G R) (hF : Free G env) (e : ∀ a, ¬ FA env a → R' a = R a) : Over G R' := fun a o x => by
  rw [e a (fun y => by rw [hF a y] at x; cases x)]; exact O a o x

theorem okX_nil {P : Fl → Loc → KH → Prop} (h : P .next m k) : OkX prog w G A env k m (execs [] env) P := fun R _ F s _ H q => wpAny_execs_nil (q .next s.heap s.toks m k R h H F fun _ _ => rfl)
theorem okX_cons {st : Stmt} {rest : List Stmt} {P : Fl → Loc → KH → Prop} (hF : Free G env)
    (h : OkX prog w G A env k m (exec st env) fun fl m' k' => match fl with | .next => OkX prog w G A env k' m' (execs rest env) P | fl => P fl m' k') : OkX prog w G A env k m (execs (st :: rest) env) P := fun R O F s Q H q => by
  refine wpAny_execs_cons (h R O F _ _ H fun fl h' tk' m' k' R' p H' F' e' => ?_)
  cases fl with
  | next => exact p R' (O.frame hF e') F' _ _ H' fun fl2 h2 tk2 m2 k2 R2 p2 H2 F2 e2 => q fl2 h2 tk2 m2 k2 R2 p2 H2 F2 fun a ha => (e2 a ha).trans (e' a ha)
  | cont => exact q .cont h' tk' m' k' R' p H' F' e'
  | brk => exact q .brk h' tk' m' k' R' p H' F' e'
  | ret v => exact q (.ret v) h' tk' m' k' R' p H' F' e'
theorem okX_Return {e : PySem.Expr} {pos : Pos} {P : Fl → Loc → KH → Prop} (h : OkE prog w G A env k m (eval e env) fun v k' => P (.ret v) m k') : OkX prog w G A env k m (exec (.Return (some e) pos) env) P :=
  fun R O F _ _ H q => wpAny_Return_some (h R O F _ _ H fun v h' tk' k' p H' => q (.ret v) h' tk' m k' R p H' F fun _ _ => rfl)
theorem okX_Return0 {pos : Pos} {P : Fl → Loc → KH → Prop} (h : P (.ret .none) m k) : OkX prog w G A env k m (exec (.Return none pos) env) P :=
  fun R _ F s _ H q => wpAny_Return_none (q (.ret .none) s.heap s.toks m k R h H F fun _ _ => rfl)
theorem okX_If {test : PySem.Expr} {body orelse : List Stmt} {pos : Pos} {P : Fl → Loc → KH → Prop}
    (h : OkC prog w G A env k m (isTrue test env (eval test env)) fun b k' => if b then OkX prog w G A env k' m (execs body env) P else OkX prog w G A env k' m (execs orelse env) P) : OkX prog w G A env k m (exec (.If test body orelse pos) env) P :=
  fun R O F _ _ H q => wpAny_If (h R O F _ _ H fun b h' tk' k' p H' => by
    cases b with
    | true => rw [if_pos rfl] at p ⊢; exact p R O F _ _ H' q
    | false => rw [if_neg Bool.false_ne_true] at p ⊢; exact p R O F _ _ H' q)

noncomputable def notComp : PySem.Expr → Bool
  | .ListComp .. | .SetComp .. | .DictComp .. => false
  | _ => true
theorem swaps_plain {value : PySem.Expr} (h : notComp value = true) (t : Option PySem.Expr) (n : Nat) (env : Env) : swapsWith value t n env = pure false := by
  cases value <;> first | rfl | cases h

theorem okX_Assign {x : Str} {px pos : Pos} {e : PySem.Expr} {P : Fl → Loc → KH → Prop} (he : notComp e = true) (hk : env.kindOf x = some .local ∨ env.kindOf x = some .cell)
    (h : OkE prog w G A env k m (eval e env) fun v k' => P .next (setL m x v) k') : OkX prog w G A env k m (exec (.Assign [.Name x px] e pos) env) P :=
  fun R O F _ _ H q => wpAny_Assign_Name (h R O F _ _ H fun v h' tk' k' p H' => okS_store (P := fun _ m' k' => P .next m' k') hk p F _ _ H' fun _ h2 tk2 m2 k2 R2 p2 H2 F2 e2 => q .next h2 tk2 m2 k2 R2 p2 H2 F2 e2) (swaps_plain he _ _ _)
theorem okX_Expr {e : PySem.Expr} {pos : Pos} {P : Fl → Loc → KH → Prop} (he : notComp e = true) (hi : interactive env = false) (h : OkE prog w G A env k m (eval e env) fun _ k' => P .next m k') : OkX prog w G A env k m (exec (.Expr e pos) env) P :=
  fun R O F _ _ H q => wpAny_Expr_any (h R O F _ _ H fun v h' tk' k' p H' => q .next h' tk' m k' R p H' F fun _ _ => rfl) hi (swaps_plain he _ _ _)
theorem okX_AssignAttr {o e : PySem.Expr} {attr : Str} {px pos : Pos} {P : Fl → Loc → KH → Prop} (he : notComp e = true)
    (h : OkE prog w G A env k m (eval e env) fun v k1 => OkE prog w G A env k1 m (eval o env) fun x k2 => ∀ R, Over G R → ∀ vx vv, ab vx = x → ab vv = v → OkU prog w A k2 R (setAttr vx attr vv) fun k' => P .next m k') :
    OkX prog w G A env k m (exec (.Assign [.Attribute o attr px] e pos) env) P :=
  fun R O F _ _ H q => plainObj_wpAny_Assign_Attribute (h R O F _ _ H fun v h1 tk1 k1 p1 H1 => p1 R O F _ _ H1 fun x h2 tk2 k2 p2 H2 => p2 R O _ _ rfl rfl _ _ H2 fun _ h3 tk3 k3 p3 H3 => q .next h3 tk3 m k3 R p3 H3 F fun _ _ => rfl) (swaps_plain he _ _ _)
theorem okX_AssignIdx {o i e : PySem.Expr} {px pos : Pos} {P : Fl → Loc → KH → Prop} (he : notComp e = true)
    (h : OkE prog w G A env k m (eval e env) fun v k1 => OkE prog w G A env k1 m (eval o env) fun x k2 => OkE prog w G A env k2 m (eval i env) fun y k3 => ∀ R, Over G R → ∀ vx vy vv, ab vx = x → ab vy = y → ab vv = v → OkU prog w A k3 R (setItem vx vy vv) fun k' => P .next m k') :
    OkX prog w G A env k m (exec (.Assign [.Subscript o i px] e pos) env) P :=
  fun R O F _ _ H q => wpAny_Assign_Subscript (h R O F _ _ H fun v h1 tk1 k1 p1 H1 => p1 R O F _ _ H1 fun x h2 tk2 k2 p2 H2 => p2 R O F _ _ H2 fun y h3 tk3 k3 p3 H3 => p3 R O _ _ _ rfl rfl rfl _ _ H3 fun _ h4 tk4 k4 p4 H4 => q .next h4 tk4 m k4 R p4 H4 F fun _ _ => rfl) (swaps_plain he _ _ _)
theorem okX_Aug {x : Str} {px pos : Pos} {e : PySem.Expr} {a : Int} {P : Fl → Loc → KH → Prop} (hk : env.kindOf x = some .local ∨ env.kindOf x = some .cell) (hx : m x = some (.int a))
    (h : OkE prog w G A env k m (eval e env) fun v k' => ∃ b, v = .int b ∧ P .next (setL m x (.int (a + b))) k') : OkX prog w G A env k m (exec (.AugAssign (.Name x px) .Add e pos) env) P :=
  fun R O F _ _ H q => wpAny_AugAssign_Name (ok_load F hx (P := fun v k1 => v = .int a ∧ k1 = k) ⟨rfl, rfl⟩ _ _ H fun va h1 tk1 k1 p1 H1 => by
    obtain ⟨ea, rfl⟩ := p1
    obtain ⟨t, rfl⟩ := ab_int ea
    refine h R O F _ _ H1 fun vb h2 tk2 k2 p2 H2 => ?_
    obtain ⟨b, eb, p2⟩ := p2
    obtain ⟨u, rfl⟩ := ab_int eb
    exact iadd_int (okS_store (P := fun _ m' k' => P .next m' k') hk p2 F _ _ H2 fun _ h3 tk3 m3 k3 R3 p3 H3 F3 e3 => q .next h3 tk3 m3 k3 R3 p3 H3 F3 e3))

/-! tests -/
theorem okC_val {e : PySem.Expr} {P : Bool → KH → Prop} (he : isTrue e env (eval e env) = (do let v ← eval e env; standAt e.pos; holding [v] (truthy v))) (h : OkE prog w G A env k m (eval e env) fun v k' => ∃ b, v = .bool b ∧ P b k') : OkC prog w G A env k m (isTrue e env (eval e env)) P :=
  fun R O F _ _ H q => wpAny_isTrue_value (h R O F _ _ H fun v h' tk' k' p H' => by
    obtain ⟨b, ev, p⟩ := p
    cases ab_bool ev
    exact wpAny_truthy_bool (q b h' tk' k' p H')) he
theorem okC_Not {e : PySem.Expr} {pos : Pos} {t : Sem Value} {P : Bool → KH → Prop} (h : OkC prog w G A env k m (isTrue e env (eval e env)) fun b k' => P (!b) k') : OkC prog w G A env k m (isTrue (.UnaryOp .Not e pos) env t) P :=
  fun R O F _ _ H q => wpAny_isTrue_Not (h R O F _ _ H fun b h' tk' k' p H' => q (!b) h' tk' k' p H')
theorem okC_Compare {l r : PySem.Expr} {op : CmpOp} {pos : Pos} {t : Sem Value} {P : Bool → KH → Prop} (hm : behindInMarks op r = false)
    (h : OkE prog w G A env k m (eval l env) fun a k1 => OkE prog w G A env k1 m (eval r env) fun b k2 => ∀ R, Over G R → OkB prog w A k2 R (compareOp op) a b fun v k' => ∃ b, v = .bool b ∧ P b k') : OkC prog w G A env k m (isTrue (.Compare l [op] [r] pos) env t) P :=
  fun R O F _ _ H q => wpAny_isTrue_Compare1 (h R O F _ _ H fun a h1 tk1 k1 p1 H1 => p1 R O F _ _ H1 fun b h2 tk2 k2 p2 H2 => p2 R O _ _ rfl rfl _ _ H2 fun v h3 tk3 k3 p3 H3 => by
    obtain ⟨b, ev, p⟩ := p3
    cases ab_bool ev
    exact wpAny_truthy_bool (q b h3 tk3 k3 p H3)) hm
theorem okC_Bool {op : BoolOp} {l : List PySem.Expr} {pos : Pos} {t : Sem Value} {P : Bool → KH → Prop} (h : OkC prog w G A env k m (allTrue op l env) P) : OkC prog w G A env k m (isTrue (.BoolOp op l pos) env t) P :=
  fun R O F _ _ H q => wpAny_isTrue_BoolOp (h R O F _ _ H q)
theorem okC_and_nil {P : Bool → KH → Prop} (h : P true k) : OkC prog w G A env k m (allTrue .And [] env) P := fun _ _ _ s _ H q => wpAny_allTrue_And_nil (q true s.heap s.toks k h H)
theorem okC_and_cons {e : PySem.Expr} {r : List PySem.Expr} {P : Bool → KH → Prop} (h : OkC prog w G A env k m (isTrue e env (eval e env)) fun b k' => if b then OkC prog w G A env k' m (allTrue .And r env) P else P false k') : OkC prog w G A env k m (allTrue .And (e :: r) env) P :=
  fun R O F _ _ H q => wpAny_allTrue_And_cons (h R O F _ _ H fun b h' tk' k' p H' => by
    cases b with
    | true => rw [if_pos rfl] at p ⊢; exact p R O F _ _ H' q
    | false => rw [if_neg Bool.false_ne_true] at p ⊢; exact q false h' tk' k' p H')
theorem okC_or_nil {P : Bool → KH → Prop} (h : P false k) : OkC prog w G A env k m (allTrue .Or [] env) P := fun _ _ _ s _ H q => by
  have e : allTrue .Or [] env = pure false := by unfold allTrue; rfl
  rw [e]; exact wpAny_pure (q false s.heap s.toks k h H)
theorem okC_or_cons {e : PySem.Expr} {r : List PySem.Expr} {P : Bool → KH → Prop} (h : OkC prog w G A env k m (isTrue e env (eval e env)) fun b k' => if b then P true k' else OkC prog w G A env k' m (allTrue .Or r env) P) : OkC prog w G A env k m (allTrue .Or (e :: r) env) P :=
  fun R O F _ _ H q => wpAny_allTrue_Or_cons (h R O F _ _ H fun b h' tk' k' p H' => by
    cases b with
    | true => rw [if_pos rfl] at p ⊢; exact q true h' tk' k' p H'
    | false => rw [if_neg Bool.false_ne_true] at p ⊢; exact p R O F _ _ H' q)
theorem okE_IfExp {c a b : PySem.Expr} {pos : Pos} {P : PV → KH → Prop} (h : OkC prog w G A env k m (isTrue c env (eval c env)) fun t k' => if t then OkE prog w G A env k' m (eval a env) P else OkE prog w G A env k' m (eval b env) P) : OkE prog w G A env k m (eval (.IfExp c a b pos) env) P :=
  fun R O F _ _ H q => wpAny_IfExp (h R O F _ _ H fun t h' tk' k' p H' => by
    cases t with
    | true => rw [if_pos rfl] at p ⊢; exact p R O F _ _ H' q
    | false => rw [if_neg Bool.false_ne_true] at p ⊢; exact p R O F _ _ H' q)
end

/-! freezing at a call's end -/
noncomputable def PO.fz : PO → PO
  | .list _ l => .list true l
  | .dictS _ es => .dictS true es
  | .dictI _ es => .dictI true es
  | p => p
noncomputable def Frzs (k k' : KH) : Prop := ∀ a, k' a = k a ∨ ∃ p, k a = some p ∧ k' a = some p.fz
theorem Frzs.refl {k : KH} : Frzs k k := fun _ => .inl rfl
theorem Has.frzs {prog : Program} {w : World} {h : Heap} {k k' : KH} {R : RH} (H : Has prog w h k R) (f : Frzs k k') : Has prog w h k' R where
  kn := fun a p e => by
    rcases f a with x | ⟨q, h1, h2⟩
    · exact H.kn a p (x ▸ e)
    · obtain ⟨o, ho, r⟩ := H.kn a q h1
      rw [h2] at e; cases e
      exact ⟨o, ho, by cases q <;> exact r⟩
  fr := H.fr
  dj := fun a => by
    rcases f a with x | ⟨q, h1, _⟩
    · rw [x]; exact H.dj a
    · exact .inr ((H.dj a).resolve_left (by rw [h1]; exact fun x => nomatch x))

/-! a call of a def -/
noncomputable def CodeR (base : RH) (cd : Value) (q : Str) : Prop := ∃ c o vs t, cd = .ref c ∧ base c = some o ∧ o.data = .fields vs ∧ vs[1]? = some (.str q t)
structure FnAt (base : RH) (a : Addr) (ps : List Str) (body : List Stmt) (scope : Scope) : Prop where
  ex : ∃ o fd, base a = some o ∧ o.data = .func fd ∧ fd.body = .stmts body ∧ fd.scope = scope ∧ fd.globals = mainGlobals ∧ fd.closure = [] ∧ fd.builtins = builtinsNs ∧ CodeR base fd.code fd.qualname ∧
    ∀ vs : List Value, vs.length = ps.length → bindArgs fd ⟨vs, []⟩ = pure (ps.zip vs)
noncomputable def scopeOk (scope : Scope) (ps : List Str) : Bool :=
  !scope.isCoroutine && !scope.isGenerator && decide (scope.kind = .function) && ps.all fun p => decide (scope.names.lookup p = some .local) || decide (scope.names.lookup p = some .cell)
noncomputable def bindLoc : List Str → List PV → Loc → Loc
  | p :: ps, v :: vs, m => bindLoc ps vs (setL m p v)
  | _, _, m => m

theorem bindLoc_L (kindOf : Str → Option NameKind) : ∀ (ps : List Str) (vs : List Value) (m : Loc) (mL : Str → Option Value), (∀ x, kindOf x = some .local → (mL x).map ab = m x) →
    ∀ x, kindOf x = some .local → (bindL kindOf (ps.zip vs) mL x).map ab = bindLoc ps (vs.map ab) m x
  | [], _, _, _, h => by intro x hx; exact h x hx
  | _ :: _, [], _, _, h => by intro x hx; exact h x hx
  | p :: ps, v :: vs, m, mL, h => by
    intro x hx
    rw [List.zip_cons_cons, bindL, List.map_cons, bindLoc]
    refine bindLoc_L kindOf ps vs _ _ (fun y hy => ?_) x hx
    unfold setL
    split
    · dsimp only
      by_cases e : y = p
      · rw [if_pos e, if_pos e]; rfl
      · rw [if_neg e, if_neg e]; exact h y hy
    · rename_i hk
      rw [if_neg (fun e => hk (by rw [← e]; exact hy))]; exact h y hy
theorem bindLoc_C (kindOf : Str → Option NameKind) : ∀ (ps : List Str) (vs : List Value) (m : Loc) (mC : Str → Option Value), (∀ x, kindOf x ≠ some .local → (mC x).map ab = m x) →
    ∀ x, kindOf x ≠ some .local → (bindC kindOf (ps.zip vs) mC x).map ab = bindLoc ps (vs.map ab) m x
  | [], _, _, _, h => by intro x hx; exact h x hx
  | _ :: _, [], _, _, h => by intro x hx; exact h x hx
  | p :: ps, v :: vs, m, mC, h => by
    intro x hx
    rw [List.zip_cons_cons, bindC, List.map_cons, bindLoc]
    refine bindLoc_C kindOf ps vs _ _ (fun y hy => ?_) x hx
    unfold setL
    split
    · rename_i hk
      rw [if_neg (fun e => hy (by rw [e]; exact hk))]; exact h y hy
    · dsimp only
      by_cases e : y = p
      · rw [if_pos e, if_pos e]; rfl
      · rw [if_neg e, if_neg e]; exact h y hy
theorem bindLoc_dom : ∀ (ps : List Str) (vs : List PV) (m : Loc) (x : Str) (v : PV), bindLoc ps vs m x = some v → x ∈ ps ∨ m x = some v
  | [], _, _, _, _, h => by unfold bindLoc at h; exact .inr h
  | _ :: _, [], _, _, _, h => by unfold bindLoc at h; exact .inr h
  | p :: ps, w :: vs, m, x, v, h => by
    rw [bindLoc] at h
    rcases bindLoc_dom ps vs _ x v h with h | h
    · exact .inl (.tail _ h)
    · unfold setL at h
      by_cases e : x = p
      · exact .inl (e ▸ .head _)
      · rw [if_neg e] at h; exact .inr h

theorem apart_mem {cs : List (Str × Addr)} (h : cs.Pairwise fun x y => x.2 ≠ y.2) {x y : Str} {c : Addr} (hx : (x, c) ∈ cs) (hy : (y, c) ∈ cs) : x = y := by
  induction cs with
  | nil => cases hx
  | cons p r ih =>
    rw [List.pairwise_cons] at h
    rcases List.mem_cons.mp hx with e | hx'
    · rcases List.mem_cons.mp hy with e' | hy'
      · rw [← e] at e'; exact (Prod.mk.inj e').1.symm
      · exact absurd (by rw [← e]) (h.1 _ hy')
    · rcases List.mem_cons.mp hy with e' | hy'
      · exact absurd (by rw [← e']) (h.1 _ hx')
      · exact ih h.2 hx' hy'
theorem apart_of {cs : List (Str × Addr)} (h : cs.Pairwise fun x y => x.2 ≠ y.2) {x y : Str} {c : Addr} (hx : cs.lookup x = some c) (hy : cs.lookup y = some c) : x = y := apart_mem h (lookup_mem hx) (lookup_mem hy)

/-- a def, called: what its body does in a frame of its own -/
theorem ok_code {prog : Program} {w : World} {G : Glob'} {A : Around} {k : KH} {R : RH} {d : Nat} {a : Addr} {ps : List Str} {body : List Stmt} {scope : Scope} {vs : List Value} {P : PV → KH → Prop} {RR : Result → Shared → Prop} {s : Shared} (g : Good G) (O : Over G R) (hR : Room A (d + 1))
    (hf : FnAt G.base a ps body scope) (hs : scopeOk scope ps = true) (hl : vs.length = ps.length)
    (h : ∀ env A', env.scope = scope → GEnv env → Free G env → Room A' d → OkX prog w G A' env k (bindLoc ps (vs.map ab) fun _ => none) (execs body env) fun fl _ k' => ∃ k'', Frzs k' k'' ∧ P (match fl with | .ret v => v | _ => .none) k'') (H : Has prog w s.heap k R)
    (q : ∀ rv h' tk' k', P (ab rv) k' → Has prog w h' k' R → RR (.ok (.ret rv)) { s with heap := h', toks := tk' }) : codeAny (model prog w) A (.call (.ref a) ⟨vs, []⟩) RR s := by
  refine cps fun qZ hZ => ?_
  obtain ⟨o, fd, ho, hd, hb, hsc, hgl, hcl, hbl, hcd, hba⟩ := hf.ex
  refine hZ ?_
  clear hZ qZ
  simp only [scopeOk, Bool.and_eq_true, Bool.not_eq_true', decide_eq_true_eq] at hs
  refine cps fun qZ hZ => ?_
  obtain ⟨⟨⟨h1, h2⟩, h3⟩, h4⟩ := hs
  refine hZ ?_
  clear hZ qZ
  have hkind : ∀ x ∈ ps, scope.names.lookup x = some .local ∨ scope.names.lookup x = some .cell := fun x hx => by
    have := List.all_eq_true.mp h4 x hx
    simpa using this
  refine cps fun qZ hZ => ?_
  obtain ⟨oc, mc, hoc, hnc, hmc⟩ := g.nolimit
  refine hZ ?_
  clear hZ qZ
  refine cps fun qZ hZ => ?_
  obtain ⟨c, o', fs, t, e1, e2, e3, e4⟩ := hcd
  refine hZ ?_
  clear hZ qZ
  have hmemz : ∀ x ∈ ps.zip vs, x.1 ∈ ps := fun x hx => (List.of_mem_zip hx).1
  refine (codeAny_call_cells (fd := fd) (body := body) (binds := ps.zip vs) (by have := hR.depth; show A.depth < 1000; (first | lia | omega)) (H.fr _ _ (O _ _ ho)) hd ⟨mc, hnc.ns (H.fr _ _ (O _ _ hoc)), hmc⟩ ⟨c, o', fs, t, e1, H.fr _ _ (O _ _ e2), e3, e4⟩ hb (hba vs hl) hcl (fun x hx => ?_) (fun s₁ X => ?_)
    (by rw [hsc]; exact h1) (by rw [hsc]; exact h2) (by rw [hsc]; exact h3))
  · rw [hsc]
    rcases hkind x.1 (hmemz x hx) with y | y
    · exact .inl y
    · exact .inr ⟨y, cellsFrom_some _ _ _ (.inl y)⟩
  · refine cps fun qZ hZ => ?_
    obtain ⟨hh, tk, rfl, hkeep⟩ := X.done
    refine hZ ?_
    clear hZ qZ
    have hns := X.toInCall.ns
    obtain ⟨oL, hoL, hnL⟩ := NsObj.of_ns hns
    have H1 : Has prog w hh k R := H.keeps hkeep
    have hfreshL : s.heap.objs.size ≤ (callEnvC fd s.heap.objs.size a).locals := X.toInCall.fresh
    let env := callEnvC fd s.heap.objs.size a
    have hFA : ∀ b, FA env b → s.heap.objs.size ≤ b := fun b hb => by
      rcases hb with rfl | ⟨x, hx⟩
      · exact hfreshL
      · exact Nat.le_of_lt (X.above x b (lookup_mem hx))
    have hk0 : ∀ b, FA env b → k b = none := fun b hb => H.fresh (hFA b hb)
    have hR0 : ∀ b, FA env b → R b = none := fun b hb => by
      cases e : R b with
      | none => rfl
      | some o => exact absurd (Nat.lt_of_lt_of_le (H.ltR e) (hFA b hb)) (Nat.lt_irrefl _)
    have hEsc : env.scope = scope := hsc
    classical
    let R1 : RH := fun b => if FA env b then hh.get? b else R b
    have e1 : ∀ b, FA env b → R1 b = hh.get? b := fun b hb => if_pos hb
    have e2 : ∀ b, ¬ FA env b → R1 b = R b := fun b hb => if_neg hb
    have O1 : Over G R1 := fun b o e => by
      have z := O b o e
      rw [e2 b (fun y => by rw [hR0 b y] at z; cases z)]; exact z
    have H2 : Has prog w hh k R1 := ⟨H1.kn, fun b o e => by
      by_cases hb : FA env b
      · rw [e1 b hb] at e; exact e
      · rw [e2 b hb] at e; exact H1.fr b o e, fun b => by
      by_cases hb : FA env b
      · exact .inl (hk0 b hb)
      · rw [e2 b hb]; exact H1.dj b⟩
    have hcl : ∀ x c, env.cells.lookup x = some c → R1 c = hh.get? c := fun x c e => e1 c (.inr ⟨x, e⟩)
    have F1 : Frm env (bindLoc ps (vs.map ab) fun _ => none) R1 := by
      refine ⟨by rw [hEsc]; exact h3, ⟨oL, _, (e1 _ (.inl rfl)).trans hoL, hnL, fun x hx => bindLoc_L _ ps vs _ _ (fun _ _ => rfl) x hx⟩, fun x hx => ?_, fun x v hv => ?_, fun x y c hx hy => apart_of X.apart hx hy, fun x c hx => let ⟨o, ho, _⟩ := X.cell x c hx; ⟨o, (hcl x c hx).trans ho⟩⟩
      · have hx' : scope.names.lookup x = some .cell := by rw [← hEsc]; exact hx
        have hsome := cellsFrom_some (x := x) scope.names (s.heap.objs.size + 1) [] (.inl hx')
        obtain ⟨c, hc⟩ := Option.isSome_iff_exists.mp hsome
        have hc' : env.cells.lookup x = some c := by show (cellsFrom _ fd.scope.names []).lookup x = _; rw [hsc]; exact hc
        obtain ⟨oc, hoc, hdc⟩ := X.cell x c hc'
        exact ⟨c, oc, _, hc', (hcl x c hc').trans hoc, hdc, bindLoc_C _ ps vs _ _ (fun _ _ => rfl) x (by rw [show env.kindOf x = some .cell from hx]; simp)⟩
      · rcases bindLoc_dom ps _ _ x v hv with y | y
        · have := hkind x y
          rw [← hEsc] at this; exact this
        · cases y
    have Fr1 : Free G env := fun b hb => by
      cases e : G.base b with
      | none => rfl
      | some o => have := O b o e; rw [hR0 b hb] at this; cases this
    refine wpAny_mono (h env (A.deeper env) hEsc ⟨hgl, hbl⟩ Fr1 hR.deeper R1 O1 F1 { s with heap := hh, toks := tk } (fun fl s' => RR (.ok (.ret (match fl with | .ret v => v | _ => .none))) s') H2 fun fl h' tk' m' k' R' p H' F' e' => ?_) (fun fl s' x => x) fun _ _ x => False.elim x
    obtain ⟨k'', fz, p⟩ := p
    have H3 : Has prog w h' k'' R := (H'.frzs fz).less (fun _ _ e => e) fun b o e => by
      have hb : ¬ FA env b := fun y => by rw [hR0 b y] at e; cases e
      rw [e' b hb, e2 b hb]; exact e
    cases fl <;> exact q _ h' tk' k'' p H3
theorem ok_call {prog : Program} {w : World} {G : Glob'} {A : Around} {k : KH} {R : RH} {d : Nat} {a : Addr} {ps : List Str} {body : List Stmt} {scope : Scope} {vs : List Value} {P : PV → KH → Prop} (g : Good G) (O : Over G R) (hR : Room A (d + 1))
    (hf : FnAt G.base a ps body scope) (hs : scopeOk scope ps = true) (hl : vs.length = ps.length)
    (h : ∀ env A', env.scope = scope → GEnv env → Free G env → Room A' d → OkX prog w G A' env k (bindLoc ps (vs.map ab) fun _ => none) (execs body env) fun fl _ k' => ∃ k'', Frzs k' k'' ∧ P (match fl with | .ret v => v | _ => .none) k'') :
    OkV prog w A k R (call (.ref a) vs) P := fun s Q H q => wpAny_call (ok_code g O hR hf hs hl h H fun rv h' tk' k' p H' => q rv h' tk' k' p H')

theorem updR_at {R : RH} {a o} : updR R a o a = some o := by simp [updR]
theorem updR_ne {R : RH} {a o b} (h : b ≠ a) : updR R a o b = R b := by simp [updR, h]
noncomputable def remR (R : RH) (a : Addr) : RH := fun b => if b = a then none else R b
theorem remR_at {R : RH} {a} : remR R a a = none := by simp [remR]
theorem remR_ne {R : RH} {a b} (h : b ≠ a) : remR R a b = R b := by simp [remR, h]
theorem Frm.agree {env : Env} {m : Loc} {R R' : RH} (F : Frm env m R) (h : ∀ a, FA env a → R' a = R a) : Frm env m R' := by
  refine cps fun qZ hZ => ?_
  obtain ⟨o, mL, h1, h2, h3⟩ := F.loc
  refine hZ ?_
  clear hZ qZ
  exact ⟨F.kind, ⟨o, mL, (h _ (.inl rfl)).trans h1, h2, h3⟩, fun x hx => by
    refine cps fun qZ hZ => ?_
    obtain ⟨c, o, rv, a1, a2, a3, a4⟩ := F.cell x hx
    refine hZ ?_
    clear hZ qZ
    exact ⟨c, o, rv, a1, (h c (.inr ⟨x, a1⟩)).trans a2, a3, a4⟩, F.dom, F.apart, fun x c hx => let ⟨o, ho⟩ := F.cin x c hx; ⟨o, (h c (.inr ⟨x, hx⟩)).trans ho⟩⟩

section
variable (prog : Program) (w : World)
/-- an iterator at I over items: its i-th state is ob i -/
structure Itr (fx : RH) (items : List PV) (st : KH → Prop) (I : Addr) (ob : Nat → Obj → Prop) : Prop where
  self : ∀ {A : Around} {E : Value → Shared → Prop} {s : Shared} {Q : Value → Shared → Prop} {k : KH} {R : RH} {o : Obj} {i : Nat}, Has prog w s.heap k R → R I = some o → ob i o → Q (.ref I) s → wpAny (model prog w) A (pyIter (.ref I)) Q E s
  item : ∀ {A : Around} (hh : A.handled = none) {i : Nat} {s : Shared} {Q : Option Value → Shared → Prop} {k : KH} {R : RH} {o : Obj} {v : PV}, items[i]? = some v → Has prog w s.heap k R → R I = some o → ob i o → st k → (∀ a o, fx a = some o → R a = some o) →
    (∀ rv h' tk' o', ab rv = v → ob (i + 1) o' → Has prog w h' k (updR R I o') → Q (some rv) { s with heap := h', toks := tk' }) → wpAny (model prog w) A (pyNext (.ref I)) Q Fls s
  done : ∀ {A : Around} (hh : A.handled = none) {s : Shared} {Q : Option Value → Shared → Prop} {k : KH} {R : RH} {o : Obj}, Has prog w s.heap k R → R I = some o → ob items.length o → st k → (∀ a o, fx a = some o → R a = some o) →
    (∀ h' tk', Has prog w h' k (remR R I) → Q none { s with heap := h', toks := tk' }) → wpAny (model prog w) A (pyNext (.ref I)) Q Fls s
/-- what can be walked -/
structure Src (fx : RH) (v : PV) (items : List PV) (k : KH) (st : KH → Prop) : Prop where
  ex : ∃ ob : Nat → Obj → Prop, (∀ {A : Around} (hh : A.handled = none) {R : RH} {s : Shared} {Q : Value → Shared → Prop} {va : Value}, ab va = v → Has prog w s.heap k R → (∀ a o, fx a = some o → R a = some o) →
      (∀ I h' tk' o, k I = none → R I = none → ob 0 o → (∀ elts x pos rv (s' : Shared) (Q' : Unit → Shared → Prop) i o', ob i o' → s'.heap.get? I = some o' → Q' () s' → wpAny (model prog w) A (letOwnedTupleGo (.Tuple elts x pos) (.ref I) rv) Q' Fls s') →
        Has prog w h' k (updR R I o) → Q (.ref I) { s with heap := h', toks := tk' }) → wpAny (model prog w) A (pyIter va) Q Fls s) ∧
    ∀ I, fx I = none → Itr prog w fx items st I ob
end

section
variable {prog : Program} {w : World} {k : KH}

theorem Has.upR {h h' : Heap} {R : RH} (H : Has prog w h k R) {I : Addr} {o o' : Obj} (e : R I = some o) (hs : ∀ b, b ≠ I → h'.get? b = h.get? b) (ho : h'.get? I = some o') : Has prog w h' k (updR R I o') where
  kn := fun a p x => let ⟨q, h1, h2⟩ := H.kn a p x; ⟨q, (hs a (H.neR x e)).trans h1, h2⟩
  fr := fun a q x => by
    unfold Mine.updR at x
    split at x
    · rename_i y; subst y; cases x; exact ho
    · rename_i y; exact (hs a y).trans (H.fr a q x)
  dj := fun a => by
    unfold Mine.updR
    split
    · rename_i y; subst y; exact .inl ((H.dj a).resolve_right (by rw [e]; exact fun x => nomatch x))
    · exact H.dj a
theorem Has.rmR {h h' : Heap} {R : RH} (H : Has prog w h k R) {I : Addr} {o : Obj} (e : R I = some o) (hs : ∀ b p, b ≠ I → h.get? b = some p → h'.get? b = some p) : Has prog w h' k (remR R I) where
  kn := fun a p x => let ⟨q, h1, h2⟩ := H.kn a p x; ⟨q, hs a q (H.neR x e) h1, h2⟩
  fr := fun a q x => by
    unfold Mine.remR at x
    split at x
    · cases x
    · rename_i y; exact hs a q y (H.fr a q x)
  dj := fun a => by
    unfold Mine.remR
    split
    · exact .inr rfl
    · exact H.dj a
theorem Has.pushR {h : Heap} {R : RH} (H : Has prog w h k R) {o : Obj} (hf : o.isFreed = false) : Has prog w (h.push o) k (updR R h.objs.size o) where
  kn := (H.push o).kn
  fr := fun a q x => by
    unfold Mine.updR at x
    split at x
    · rename_i y; subst y; cases x; exact Heap.get?_push_size _ hf
    · exact (H.push o).fr a q x
  dj := fun a => by
    unfold Mine.updR
    split
    · rename_i y; subst y; exact .inl H.size_none
    · exact H.dj a

theorem src_list {a : Addr} {p : PO} {items : List PV} (ha : k a = some p) (hp : IsListPO p items) : Src prog w (fun _ => none) (.ref a) items k (fun k' => ∃ p', k' a = some p' ∧ IsListPO p' items) where
  ex := ⟨fun i o => o.cls = .type "list_iterator" ∧ o.data = .fields #[.ref a, .int i 0] ∧ o.isFreed = false, fun {A} hh {R s Q va} ea H _ q => by
      cases ab_ref ea
      obtain ⟨arr, hl, r⟩ := H.isList ha hp
      refine wpAny_pyIter_list hl (q _ _ s.toks _ H.size_none H.sizeR_none ⟨rfl, rfl, rfl⟩ (fun elts x pos rv s' Q' i o' ho' hs' hq => ?_) (H.pushR rfl))
      cases rv with
      | ref T => exact wpAny_letOwnedTupleGo_listiter (l := a) (i := i) ⟨o', hs', ho'.1, ho'.2.1⟩ hq
      | _ => exact wpAny_pure hq,
    fun I _ => ⟨fun {A E s Q k' R o i} H hR ho q => wpAny_pyIter_listiter (l := a) (i := i) ⟨o, H.fr _ _ hR, ho.1, ho.2.1⟩ q, fun {A} hh {i s Q k' R o v} hv H hR ho hst _ q => by
      obtain ⟨p', ha', hp'⟩ := hst
      obtain ⟨arr, hl, r⟩ := H.isList ha' hp'
      subst r
      rw [List.getElem?_map, Option.map_eq_some_iff] at hv
      obtain ⟨rv, hrv, rfl⟩ := hv
      refine wpAny_pyNext_list_item (l := a) (i := i) ⟨o, H.fr _ _ hR, ho.1, ho.2.1⟩ hl (by rw [← Array.getElem?_toList]; exact hrv) fun h' hi' hs' => ?_
      refine cps fun qZ hZ => ?_
      obtain ⟨o', ho', hc', hd'⟩ := hi'
      refine hZ ?_
      clear hZ qZ
      exact q rv h' s.toks o' rfl ⟨hc', hd', by obtain ⟨_, _, d, _⟩ := o'; simp only at hd'; subst hd'; rfl⟩ (H.upR hR (fun b hb => hs'.2 b hb) ho'),
     fun {A} hh {s Q k' R o} H hR ho hst _ q => by
      obtain ⟨p', ha', hp'⟩ := hst
      obtain ⟨arr, hl, r⟩ := H.isList ha' hp'
      subst r
      rw [List.length_map, Array.length_toList] at ho
      exact wpAny_pyNext_list_end hh (l := a) ⟨o, H.fr _ _ hR, ho.1, ho.2.1⟩ hl (by simp) fun h' he => q h' s.toks (H.rmR hR fun b p hb e => he b p hb e)⟩⟩

theorem src_tup {a : Addr} {items : List PV} (ha : k a = some (.tup items)) : Src prog w (fun _ => none) (.ref a) items k (fun k' => k' a = some (.tup items)) where
  ex := ⟨fun i o => o.cls = .type "tuple_iterator" ∧ o.data = .fields #[.ref a, .int i 0], fun {A} hh {R s Q va} ea H _ q => by
      cases ab_ref ea
      obtain ⟨arr, hl, r⟩ := H.isTuple ha
      refine wpAny_pyIter_tuple hl (q _ _ s.toks _ H.size_none H.sizeR_none ⟨rfl, rfl⟩ (fun elts x pos rv s' Q' i o' ho' hs' hq => ?_) (H.pushR rfl))
      cases rv with
      | ref T =>
        unfold letOwnedTupleGo
        refine wpAny_bind (wpAny_load hs' ?_)
        rw [ho'.1, ho'.2]
        show wpAny _ A (if (["enumerate", "zip", "dict_itemiterator", "dict_reverseitemiterator", "odict_iterator", "itertools.zip_longest", "itertools.pairwise"].contains "tuple_iterator" &&
          (#[.ref a, .int i 0] : Array Value)[0]? == some (rawInt T)) = true then _ else _) _ _ _
        rw [if_neg (by rw [show (["enumerate", "zip", "dict_itemiterator", "dict_reverseitemiterator", "odict_iterator", "itertools.zip_longest", "itertools.pairwise"].contains "tuple_iterator") = false from by decide, Bool.false_and]; exact Bool.false_ne_true)]
        exact wpAny_pure hq
      | _ => exact wpAny_pure hq,
    fun I _ => ⟨fun {A E s Q k' R o i} H hR ho q => wpAny_pyIter_tupleiter (t := a) (i := i) ⟨o, H.fr _ _ hR, ho.1, ho.2⟩ q, fun {A} hh {i s Q k' R o v} hv H hR ho hst _ q => by
      obtain ⟨arr, hl, r⟩ := H.isTuple hst
      subst r
      rw [List.getElem?_map, Option.map_eq_some_iff] at hv
      obtain ⟨rv, hrv, rfl⟩ := hv
      refine wpAny_pyNext_tuple_item (t := a) (i := i) ⟨o, H.fr _ _ hR, ho.1, ho.2⟩ hl (by rw [← Array.getElem?_toList]; exact hrv) fun h' hi' hs' => ?_
      refine cps fun qZ hZ => ?_
      obtain ⟨o', ho', hc', hd'⟩ := hi'
      refine hZ ?_
      clear hZ qZ
      exact q rv h' s.toks o' rfl ⟨hc', hd'⟩ (H.upR hR (fun b hb => hs'.2 b hb) ho'),
     fun {A} hh {s Q k' R o} H hR ho hst _ q => by
      obtain ⟨arr, hl, r⟩ := H.isTuple hst
      subst r
      rw [List.length_map, Array.length_toList] at ho
      exact wpAny_pyNext_tuple_end hh (t := a) ⟨o, H.fr _ _ hR, ho.1, ho.2⟩ hl (by simp) fun h' he => q h' s.toks (H.rmR hR fun b p hb e => he b p hb e)⟩⟩

theorem src_range {a : Addr} {n : Nat} (hz : n < 2 ^ 40) (ha : k a = some (.range n)) : Src prog w (fun _ => none) (.ref a) ((List.range n).map fun i => .int (i : Nat)) k (fun _ => True) where
  ex := ⟨fun i o => o = { cls := .type "range_iterator", dict := none, data := .fields #[rawInt (i : Nat), rawInt ((n : Int) - (i : Nat)), rawInt 1], slots := #[] }, fun {A} hh {R s Q va} ea H _ q => by
      cases ab_ref ea
      refine cps fun qZ hZ => ?_
      obtain ⟨o, ho, t, u, v, rfl⟩ := H.kn a _ ha
      refine hZ ?_
      clear hZ qZ
      refine wpAny_pyIter_range (a := 0) (b := n) (c := 1) ho ?_ ?_
      · exact small_one (by omega) (by omega) (by omega) (by omega)
      · rw [rangeSize_nat, show ((n : Int) - 0).toNat = n by omega]
        refine q _ _ s.toks _ H.size_none H.sizeR_none ?_ (fun elts x pos rv s' Q' i o' ho' hs' hq => ?_) (H.pushR rfl)
        · simp
        · cases rv with
          | ref T =>
            unfold letOwnedTupleGo
            refine wpAny_bind (wpAny_load hs' ?_)
            subst ho'
            show wpAny _ A (if (["enumerate", "zip", "dict_itemiterator", "dict_reverseitemiterator", "odict_iterator", "itertools.zip_longest", "itertools.pairwise"].contains "range_iterator" && _) = true then _ else _) _ _ _
            rw [if_neg (by rw [show (["enumerate", "zip", "dict_itemiterator", "dict_reverseitemiterator", "odict_iterator", "itertools.zip_longest", "itertools.pairwise"].contains "range_iterator") = false from by decide, Bool.false_and]; exact Bool.false_ne_true)]
            exact wpAny_pure hq
          | _ => exact wpAny_pure hq,
    fun I _ => ⟨fun {A E s Q k' R o i} H hR ho q => wpAny_pyIter_rangeiter (ho ▸ H.fr _ _ hR) q, fun {A} hh {i s Q k' R o v} hv H hR ho hst _ q => by
      subst ho
      rw [List.getElem?_map, Option.map_eq_some_iff] at hv
      obtain ⟨j, hj, rfl⟩ := hv
      have hi : i < n := by
        have := (List.getElem?_eq_some_iff.mp hj).1
        simpa using this
      rw [List.getElem?_range hi] at hj
      cases hj
      refine wpAny_pyNext_range_item (H.fr _ _ hR) (by omega) fun h' hi' hs' => ?_
      refine q _ h' _ _ rfl ?_ (H.upR hR (fun b hb => hs'.2 b hb) hi')
      have e1 : ((i : Nat) : Int) + 1 = ((i + 1 : Nat) : Int) := by omega
      have e2 : (n : Int) - (i : Nat) - 1 = (n : Int) - ((i + 1 : Nat) : Int) := by omega
      rw [e1, e2],
     fun {A} hh {s Q k' R o} H hR ho hst _ q => by
      subst ho
      rw [List.length_map, List.length_range] at hR
      exact wpAny_pyNext_range_end hh (H.fr _ _ hR) (by omega) fun h' he => q h' s.toks (H.rmR hR fun b p hb e => he b p hb e)⟩⟩
end

section
variable {prog : Program} {w : World} {k : KH}
/-- a dict's keys; the dict lies, as it is, in the frame R -/
theorem src_dict {K : Type} [DecidableEq K] {knd : PySem.KeyKind prog w K} {d : Addr} {od : Obj} {kvs : List (K × Value)} (enc : K → PV) (henc : ∀ x v, knd.is x v = true → ab v = enc x) (hd : od.IsDictOf knd kvs) (hs : (d == sysModules) = false) :
    Src prog w (fun a => if a = d then some od else none) (.ref d) (kvs.map fun p => enc p.1) k (fun _ => True) where
  ex := by
    obtain ⟨es, ep, r⟩ := hd
    have at_ : ∀ {h : Heap} {R : RH}, Has prog w h k R → (∀ a o, (if a = d then some od else none) = some o → R a = some o) → h.DictAt knd d kvs ep := fun H e => ⟨od, es, H.fr _ _ (e d od (if_pos rfl)), r⟩
    have at' : ∀ {h : Heap} {k : KH} {R : RH}, Has prog w h k R → (∀ a o, (if a = d then some od else none) = some o → R a = some o) → h.DictAt knd d kvs ep := fun H e => ⟨od, es, H.fr _ _ (e d od (if_pos rfl)), r⟩
    refine ⟨fun i o => o.cls = .type "dict_keyiterator" ∧ o.data = .fields #[.ref d, .int i 0, .int kvs.length 0, .int ep 0], fun {A} hh {R s Q va} ea H hfx q => ?_,
      fun I hI => ⟨fun {A E s Q k' R o i} H hR ho q => wpAny_pyIter_keyiter (d := d) (i := i) (n := kvs.length) (ep := ep) ⟨o, H.fr _ _ hR, ho.1, ho.2⟩ q, fun {A} hh {i s Q k' R o v} hv H hR ho _ hfx q => ?_, fun {A} hh {s Q k' R o} H hR ho _ hfx q => ?_⟩⟩
    · cases ab_ref ea
      refine wpAny_pyIter_dict hs (at_ H hfx) (q _ _ s.toks _ H.size_none H.sizeR_none ⟨rfl, rfl⟩ (fun elts x pos rv s' Q' i o' ho' hs' hq => ?_) (H.pushR rfl))
      cases rv with
      | ref T =>
        unfold letOwnedTupleGo
        refine wpAny_bind (wpAny_load hs' ?_)
        rw [ho'.1, ho'.2]
        show wpAny _ A (if (["enumerate", "zip", "dict_itemiterator", "dict_reverseitemiterator", "odict_iterator", "itertools.zip_longest", "itertools.pairwise"].contains "dict_keyiterator" && _) = true then _ else _) _ _ _
        rw [if_neg (by rw [show (["enumerate", "zip", "dict_itemiterator", "dict_reverseitemiterator", "odict_iterator", "itertools.zip_longest", "itertools.pairwise"].contains "dict_keyiterator") = false from by decide, Bool.false_and]; exact Bool.false_ne_true)]
        exact wpAny_pure hq
      | _ => exact wpAny_pure hq
    · rw [List.getElem?_map, Option.map_eq_some_iff] at hv
      refine cps fun qZ hZ => ?_
      obtain ⟨⟨x, y⟩, hx, rfl⟩ := hv
      refine hZ ?_
      clear hZ qZ
      refine wpAny_pyNext_dict_item (i := i) ⟨o, H.fr _ _ hR, ho.1, ho.2⟩ (at' H hfx) hx fun key h' hkey hi' hs' => ?_
      refine cps fun qZ hZ => ?_
      obtain ⟨o', ho', hc', hd'⟩ := hi'
      refine hZ ?_
      clear hZ qZ
      exact q key h' s.toks o' (henc x key hkey) ⟨hc', hd'⟩ (H.upR hR (fun b hb => hs'.2 b hb) ho')
    · rw [List.length_map] at ho
      exact wpAny_pyNext_dict_end hh ⟨o, H.fr _ _ hR, ho.1, ho.2⟩ (at' H hfx) (by simp) fun h' he => q h' s.toks (H.rmR hR fun b p hb e => he b p hb e)
end

/-! the loop -/
noncomputable def wpLoop (st : KH → Prop) (B : PV → Loc → KH → (Fl → Loc → KH → Prop) → Prop) (P : Fl → Loc → KH → Prop) : List PV → Loc → KH → Prop
  | [], m, k => st k ∧ P .next m k
  | v :: vs, m, k => st k ∧ B v m k fun fl m' k' => match fl with
    | .next => wpLoop st B P vs m' k'
    | .cont => wpLoop st B P vs m' k'
    | .brk => P .next m' k'
    | .ret r => P (.ret r) m' k'

section
variable {prog : Program} {w : World} {G : Glob'} {A : Around} {env : Env}

/-- one turn: the target bound, the body run -/
noncomputable def OkT (prog : Program) (w : World) (G : Glob') (A : Around) (env : Env) (target : PySem.Expr) (body : List Stmt) (B : PV → Loc → KH → (Fl → Loc → KH → Prop) → Prop) : Prop :=
  ∀ v m k P, B v m k P → ∀ rv, ab rv = v → ∀ R, Over G R → Frm env m R → ∀ (s : Shared) (Q : Flow → Shared → Prop), Has prog w s.heap k R →
    (∀ fl h' tk' m' k' R', P (abF fl) m' k' → Has prog w h' k' R' → Frm env m' R' → (∀ a, ¬ FA env a → R' a = R a) → Q fl { s with heap := h', toks := tk' }) →
    wpAny (model prog w) A (assign target env rv) (fun _ s₂ => wpAny (model prog w) A (execs body env) Q Fls s₂) Fls s

theorem loop_core {items : List PV} {st : KH → Prop} {I : Addr} {ob : Nat → Obj → Prop} {target : PySem.Expr} {body : List Stmt} {B : PV → Loc → KH → (Fl → Loc → KH → Prop) → Prop} {P : Fl → Loc → KH → Prop} (hh : A.handled = none)
    (it : Itr prog w (fun _ => none) items st I ob) (hFree : Free G env) (hT : OkT prog w G A env target body B)
    (hgo : ∀ rv (s' : Shared) (Q' : Unit → Shared → Prop) i o', ob i o' → s'.heap.get? I = some o' → Q' () s' → wpAny (model prog w) A (letOwnedTupleGo target (.ref I) rv) Q' Fls s')
    {R0 : RH} (O0 : Over G R0) (hI0 : R0 I = none) (hIF : ¬ FA env I) {s₀ : Shared} {Q : Flow → Shared → Prop}
    (q : ∀ fl h' tk' m' k' R', P (abF fl) m' k' → Has prog w h' k' R' → Frm env m' R' → (∀ a, ¬ FA env a → R' a = R0 a) → Q fl { s₀ with heap := h', toks := tk' }) {m : Loc} {k : KH} {R : RH} {o : Obj} {tk : Nat} {h : Heap}
    (hw : wpLoop st B P items m k) (H : Has prog w h k R) (hR : R I = some o) (ho : ob 0 o) (F : Frm env m R) (hag : ∀ a, ¬ FA env a → a ≠ I → R a = R0 a) :
    codeAny (model prog w) A (.forLoop target (.ref I) body [] env) (fun r s' => match r with | .ok f => Q f s' | .error e => False) { s₀ with heap := h, toks := tk } := by
  have baseI : G.base I = none := by
    cases e : G.base I with
    | none => rfl
    | some o => have := O0 I o e; rw [hI0] at this; cases this
  let Inv : Nat → Shared → Prop := fun n s' => ∃ (i : Nat) (h : Heap) (tk : Nat) (m : Loc) (k : KH) (R : RH) (o : Obj), n = items.length - i ∧ i ≤ items.length ∧ s' = { s₀ with heap := h, toks := tk } ∧ wpLoop st B P (items.drop i) m k ∧ Has prog w h k R ∧ R I = some o ∧ ob i o ∧ Frm env m R ∧ ∀ a, ¬ FA env a → a ≠ I → R a = R0 a
  refine codeAny_forLoop_any Inv ?_ items.length
    ⟨0, h, tk, m, k, R, o, rfl, Nat.zero_le _, rfl, by simpa using hw, H, hR, ho, F, hag⟩
  rintro n s' ⟨i, h, tk, m, k, R, o, rfl, hi, rfl, hw, H, hR, ho, F, hag⟩
  have OR : Over G R := fun a p e => by
    rw [hag a (fun y => by rw [hFree a y] at e; cases e) (fun y => by rw [y, baseI] at e; cases e)]; exact O0 a p e
  rcases Nat.lt_or_ge i items.length with hlt | hge
  · have hd : items.drop i = items[i] :: items.drop (i + 1) := List.drop_eq_getElem_cons hlt
    rw [hd] at hw
    obtain ⟨hst, hB⟩ := hw
    refine wpAny_mono (it.item hh (List.getElem?_eq_getElem hlt) H hR ho hst (fun _ _ e => nomatch e) (Q := fun r s₁ => ∃ rv h1 tk1 o1, r = some rv ∧ s₁ = { s₀ with heap := h1, toks := tk1 } ∧ ab rv = items[i] ∧ ob (i + 1) o1 ∧ Has prog w h1 k (updR R I o1)) fun rv h1 tk1 o1 a1 a2 a3 => ⟨rv, h1, tk1, o1, rfl, rfl, a1, a2, a3⟩) ?_ (fun _ _ x => False.elim x)
    rintro r s₁ ⟨rv, h1, tk1, o1, rfl, rfl, a1, a2, H1⟩
    dsimp only
    refine wpAny_mono (hgo rv _ (fun _ s2 => s2 = { s₀ with heap := h1, toks := tk1 }) (i + 1) o1 a2 (H1.fr _ _ updR_at) rfl) ?_ (fun _ _ x => False.elim x)
    rintro _ _ rfl
    have F1 : Frm env m (updR R I o1) := F.agree fun a ha => updR_ne (fun y => hIF (y ▸ ha))
    have O1 : Over G (updR R I o1) := fun a p e => by
      rw [updR_ne (fun y => by rw [y, baseI] at e; cases e)]; exact OR a p e
    refine wpAny_mono (hT _ _ _ _ hB rv a1 _ O1 F1 _ (fun f s₃ => match f with
            | .next | .cont => ∃ m, m < items.length - i ∧ Inv m s₃
            | .brk => Q .next s₃
            | .ret v => Q (.ret v) s₃) H1 fun fl h2 tk2 m2 k2 R2 p2 H2 F2 e2 => ?_) (fun _ _ x => wpAny_mono x (fun f s3 y => by
              cases f <;> exact y) (fun _ _ x => False.elim x)) (fun _ _ x => False.elim x)
    have hR2 : R2 I = some o1 := (e2 I hIF).trans updR_at
    have hag2 : ∀ a, ¬ FA env a → a ≠ I → R2 a = R0 a := fun a h1 h2 => ((e2 a h1).trans (updR_ne h2)).trans (hag a h1 h2)
    have hend : ∀ {fl'} (p : P (abF fl') m2 k2), Q fl' { s₀ with heap := h2, toks := tk2 } := fun {fl'} p =>
      q fl' h2 tk2 m2 k2 (remR R2 I) p (H2.less (fun _ _ e => e) fun a o e => by
        unfold remR at e; split at e
        · cases e
        · exact e) (F2.agree fun a ha => remR_ne (fun y => hIF (y ▸ ha))) fun a ha => by
        by_cases y : a = I
        · subst y; rw [remR_at, hI0]
        · rw [remR_ne y]; exact hag2 a ha y
    cases fl with
    | next => exact ⟨items.length - (i + 1), by omega, i + 1, h2, tk2, m2, k2, R2, o1, rfl, hlt, rfl, p2, H2, hR2, a2, F2, hag2⟩
    | cont => exact ⟨items.length - (i + 1), by omega, i + 1, h2, tk2, m2, k2, R2, o1, rfl, hlt, rfl, p2, H2, hR2, a2, F2, hag2⟩
    | brk => exact hend (fl' := .next) p2
    | ret v => exact hend (fl' := .ret v) p2
  · have hii : i = items.length := by omega
    subst hii
    rw [List.drop_length] at hw
    obtain ⟨hst, hP⟩ := hw
    refine wpAny_mono (it.done hh H hR ho hst (fun _ _ e => nomatch e) (Q := fun r s₁ => ∃ h1 tk1, r = none ∧ s₁ = { s₀ with heap := h1, toks := tk1 } ∧ Has prog w h1 k (remR R I)) fun h1 tk1 a3 => ⟨h1, tk1, rfl, rfl, a3⟩) ?_ (fun _ _ x => False.elim x)
    rintro r s₁ ⟨h1, tk1, rfl, rfl, H1⟩
    dsimp only
    refine wpAny_execs_nil ?_
    exact q .next h1 tk1 m k (remR R I) hP H1 (F.agree fun a ha => remR_ne (fun y => hIF (y ▸ ha))) fun a ha => by
      by_cases y : a = I
      · subst y; rw [remR_at, hI0]
      · rw [remR_ne y]; exact hag a ha y

theorem okX_For {target iter : PySem.Expr} {body : List Stmt} {pos : Pos} {k : KH} {m : Loc} {B : PV → Loc → KH → (Fl → Loc → KH → Prop) → Prop} {P : Fl → Loc → KH → Prop} (hh : A.handled = none) (hFree : Free G env) (hT : OkT prog w G A env target body B)
    (htg : (∃ x p, target = .Name x p) ∨ ∃ es n p, target = .Tuple es n p) (hfold : ∀ x, foldedSetIterable iter env x = pure x)
    (h : OkE prog w G A env k m (eval iter env) fun v k1 => ∃ items st, Src prog w (fun _ => none) v items k1 st ∧ wpLoop st B P items m k1) : OkX prog w G A env k m (exec (.For target iter body [] pos) env) P := fun R O F s Q H q => by
  refine wpAny_For (h R O F _ _ H fun v h1 tk1 k1 p1 H1 => ?_) hfold
  refine cps fun qZ hZ => ?_
  obtain ⟨items, st, S, hw⟩ := p1
  refine hZ ?_
  clear hZ qZ
  obtain ⟨ob, h1', h2'⟩ := S.ex
  refine h1' hh (s := { s with heap := h1, toks := tk1 }) rfl H1 (fun _ _ e => nomatch e) fun I h2 tk2 o kI RI h0 hgo H2 => ?_
  have hIF : ¬ FA env I := fun y => by
    rcases y with rfl | ⟨x, hx⟩
    · refine cps fun qZ hZ => ?_
      obtain ⟨o, _, ho, _⟩ := F.loc
      refine hZ ?_
      clear hZ qZ
      rw [RI] at ho; cases ho
    · obtain ⟨o, ho⟩ := F.cin x I hx
      rw [RI] at ho; cases ho
  refine codeAny_mono (loop_core hh (h2' I rfl) hFree hT (fun rv s' Q' i o' a b c => ?_) O RI hIF (s₀ := s) (Q := Q) q hw H2 updR_at h0 (F.agree fun a ha => updR_ne (fun y => hIF (y ▸ ha))) fun a _ hb => updR_ne hb) fun r s' x => ?_
  · rcases htg with ⟨x, p, rfl⟩ | ⟨es, n, p, rfl⟩
    · exact wpAny_pure c
    · exact hgo es n p rv s' Q' i o' a b c
  · cases r with
    | ok f => exact x
    | error e => exact x.elim
end

noncomputable def wpComp (st : KH → Prop) (B : PV → KH → (Option PV → KH → Prop) → Prop) (Fin : List PV → KH → Prop) : List PV → List PV → KH → Prop
  | [], acc, k => st k ∧ Fin acc k
  | v :: vs, acc, k => st k ∧ acc.length ≤ sizeLine ∧ B v k fun o k' => match o with
    | some y => wpComp st B Fin vs (acc ++ [y]) k'
    | none => wpComp st B Fin vs acc k'

/-- the tests of a clause -/
abbrev testsOf (ifs : List PySem.Expr) (env : Env) : Sem Bool := forIn ifs true fun c r => if r = true then do let ok ← isTrue c env (eval c env); pure (ForInStep.yield ok) else pure (ForInStep.yield r)

section
variable {prog : Program} {w : World} {G : Glob'} {A : Around} {env : Env}

/-- one turn of a comprehension -/
noncomputable def OkG (prog : Program) (w : World) (G : Glob') (A : Around) (cenv : Env) (x : Str) (ifs : List PySem.Expr) (elt : PySem.Expr) (mc : Loc) (B : PV → KH → (Option PV → KH → Prop) → Prop) : Prop :=
  ∀ v k C, B v k C → ∀ R, Over G R → Frm cenv (setL mc x v) R → ∀ (s : Shared) (Q : Option Value → Shared → Prop), Has prog w s.heap k R →
    (∀ o h' tk' k', C (o.map ab) k' → Has prog w h' k' R → Q o { s with heap := h', toks := tk' }) →
    wpAny (model prog w) A (testsOf ifs cenv) (fun ok s₃ => if ok = true then wpAny (model prog w) A (eval elt cenv) (fun y s₄ => Q (some y) s₄) Fls s₃ else Q none s₃) Fls s

theorem comp_core {fx : RH} {items : List PV} {st : KH → Prop} {I D : Addr} {ob : Nat → Obj → Prop} {elt iter : PySem.Expr} {x : Str} {px : Pos} {ifs : List PySem.Expr} {scope : Scope} {pos : Pos} {cenv : Env} {mc : Loc}
    {B : PV → KH → (Option PV → KH → Prop) → Prop} {Fin : List PV → KH → Prop} {RR : Result → Shared → Prop} (hh : A.handled = none) (it : Itr prog w fx items st I ob) (hG : OkG prog w G A cenv x ifs elt mc B) (hx : cenv.kindOf x = some .local)
    {R0 : RH} (O0 : Over G R0) (hC : G.base cenv.locals = none) (hI0 : R0 I = none) (hD0 : R0 D = none) (hfx : ∀ a o, fx a = some o → R0 a = some o) (hfC : fx cenv.locals = none) (hcell : ∀ y c, cenv.cells.lookup y = some c → R0 c ≠ none)
    {s₀ : Shared}
    (q : ∀ h tk k R acc n (arr : Array Value) oC mC, Fin acc k → Has prog w h k R → R D = some { cls := .type "list", data := .seq arr n } → arr.toList.map ab = acc → R cenv.locals = some oC → NsObj oC mC → (∀ a, a ≠ cenv.locals → a ≠ I → a ≠ D → R a = R0 a) → RR (.ok .next) { s₀ with heap := h, toks := tk })
    {k : KH} {R : RH} {o : Obj} {tk : Nat} {h : Heap} {vx : Option PV} (hID : I ≠ D) (hIC : I ≠ cenv.locals) (hDC : D ≠ cenv.locals)
    (hw : wpComp st B Fin items [] k) (H : Has prog w h k R) (hR : R I = some o) (ho : ob 0 o) (hRD : R D = some { cls := .type "list", data := .seq #[] }) (F : Frm cenv (fun y => if y = x then vx else mc y) R) (hag : ∀ a, a ≠ cenv.locals → a ≠ I → a ≠ D → R a = R0 a) :
    codeAny (model prog w) A (.compLoop (.ListComp elt [⟨.Name x px, iter, ifs, 0⟩] scope pos) 0 (.ref I) (.ref D) cenv) RR { s₀ with heap := h, toks := tk } := by
  have baseN : ∀ a, R0 a = none → G.base a = none := fun a ha => by
    cases e : G.base a with
    | none => rfl
    | some o => have := O0 a o e; rw [ha] at this; cases this
  let Inv : Nat → Shared → Prop := fun n s' => ∃ (i : Nat) (h : Heap) (tk : Nat) (k : KH) (R : RH) (o : Obj) (acc : List PV) (arr : Array Value) (c : Nat) (vx : Option PV), n = items.length - i ∧ i ≤ items.length ∧ s' = { s₀ with heap := h, toks := tk } ∧
    wpComp st B Fin (items.drop i) acc k ∧ Has prog w h k R ∧ R I = some o ∧ ob i o ∧ R D = some { cls := .type "list", data := .seq arr c } ∧ arr.toList.map ab = acc ∧ Frm cenv (fun y => if y = x then vx else mc y) R ∧ ∀ a, a ≠ cenv.locals → a ≠ I → a ≠ D → R a = R0 a
  refine codeAny_compLoop_tests Inv ?_ items.length ⟨0, h, tk, k, R, o, [], #[], 0, vx, rfl, Nat.zero_le _, rfl, by simpa using hw, H, hR, ho, hRD, rfl, F, hag⟩
  rintro n s' ⟨i, h, tk, k, R, o, acc, arr, c, vx, rfl, hi, rfl, hw, H, hR, ho, hRD, hacc, F, hag⟩
  have OR : Over G R := fun a p e => by
    rw [hag a (fun y => by rw [y, hC] at e; cases e) (fun y => by rw [y, baseN I hI0] at e; cases e) (fun y => by rw [y, baseN D hD0] at e; cases e)]; exact O0 a p e
  have fxR : ∀ a o, fx a = some o → R a = some o := fun a o e => by
    have e0 := hfx a o e
    rw [hag a (fun y => by rw [y, hfC] at e; cases e) (fun y => by rw [y, hI0] at e0; cases e0) (fun y => by rw [y, hD0] at e0; cases e0)]; exact e0
  rcases Nat.lt_or_ge i items.length with hlt | hge
  · have hd : items.drop i = items[i] :: items.drop (i + 1) := List.drop_eq_getElem_cons hlt
    rw [hd] at hw
    obtain ⟨hst, hz, hB⟩ := hw
    refine wpAny_mono (it.item hh (List.getElem?_eq_getElem hlt) H hR ho hst fxR (Q := fun r s₁ => ∃ rv h1 tk1 o1, r = some rv ∧ s₁ = { s₀ with heap := h1, toks := tk1 } ∧ ab rv = items[i] ∧ ob (i + 1) o1 ∧ Has prog w h1 k (updR R I o1)) fun rv h1 tk1 o1 a1 a2 a3 => ⟨rv, h1, tk1, o1, rfl, rfl, a1, a2, a3⟩) ?_ (fun _ _ x => False.elim x)
    rintro r s₁ ⟨rv, h1, tk1, o1, rfl, rfl, a1, a2, H1⟩
    dsimp only
    have cne : ∀ y d, cenv.cells.lookup y = some d → d ≠ I ∧ d ≠ D := fun y d e => ⟨fun z => hcell y d e (by rw [z]; exact hI0), fun z => hcell y d e (by rw [z]; exact hD0)⟩
    have F1 : Frm cenv (fun y => if y = x then vx else mc y) (updR R I o1) := F.agree fun a ha => updR_ne fun y => by
      rcases ha with ha | ⟨z, hz⟩
      · exact hIC (y.symm.trans ha)
      · exact (cne z a hz).1 y
    refine wpAny_mono (wpAny_assign_Name (store_local F1 hx (va := rv) (s := { s₀ with heap := h1, toks := tk1 }) (Q := fun _ s₂ => ∃ h2 tk2 R2, s₂ = { s₀ with heap := h2, toks := tk2 } ∧ Has prog w h2 k R2 ∧ Frm cenv (setL (fun y => if y = x then vx else mc y) x (ab rv)) R2 ∧ ∀ a, a ≠ cenv.locals → R2 a = updR R I o1 a) H1
      fun h2 tk2 R2 H2 F2 e2 => ⟨h2, tk2, R2, rfl, H2, F2, e2⟩)) ?_ (fun _ _ x => False.elim x)
    rintro _ s₂ ⟨h2, tk2, R2, rfl, H2, F2, e2⟩
    have em : setL (fun y => if y = x then vx else mc y) x (ab rv) = setL mc x items[i] := by
      funext y
      unfold setL
      by_cases hy : y = x
      · rw [if_pos hy, if_pos hy, a1]
      · rw [if_neg hy, if_neg hy]; show (if y = x then vx else mc y) = mc y; rw [if_neg hy]
    rw [em] at F2
    have hag2 : ∀ a, a ≠ cenv.locals → a ≠ I → a ≠ D → R2 a = R0 a := fun a h1 h2 h3 => ((e2 a h1).trans (updR_ne h2)).trans (hag a h1 h2 h3)
    have O2 : Over G R2 := fun a p e => by
      rw [hag2 a (fun y => by rw [y, hC] at e; cases e) (fun y => by rw [y, baseN I hI0] at e; cases e) (fun y => by rw [y, baseN D hD0] at e; cases e)]; exact O0 a p e
    have hR2 : R2 I = some o1 := (e2 I hIC).trans updR_at
    have hD2 : R2 D = some { cls := .type "list", data := .seq arr c } := ((e2 D hDC).trans (updR_ne hID.symm)).trans hRD
    have F3 : ∀ v, Frm cenv (setL mc x v) R2 → ∃ vx, Frm cenv (fun y => if y = x then vx else mc y) R2 := fun v f => ⟨some v, f⟩
    refine wpAny_mono (hG _ _ _ hB R2 O2 F2 _ (fun o s₄ => ∃ h4 tk4 k4, s₄ = { s₀ with heap := h4, toks := tk4 } ∧ Has prog w h4 k4 R2 ∧ (match o.map ab with | some y => wpComp st B Fin (items.drop (i + 1)) (acc ++ [y]) k4 | none => wpComp st B Fin (items.drop (i + 1)) acc k4)) H2
      fun o h4 tk4 k4 p4 H4 => ⟨h4, tk4, k4, rfl, H4, p4⟩) (fun ok s₃ p3 => ?_) (fun _ _ x => False.elim x)
    cases ok with
    | false =>
      rw [if_neg Bool.false_ne_true] at p3 ⊢
      refine cps fun qZ hZ => ?_
      obtain ⟨h4, tk4, k4, rfl, H4, p4⟩ := p3
      refine hZ ?_
      clear hZ qZ
      obtain ⟨vx', F4⟩ := F3 _ F2
      exact ⟨items.length - (i + 1), by omega, i + 1, h4, tk4, k4, R2, o1, acc, arr, c, vx', rfl, hlt, rfl, p4, H4, hR2, a2, hD2, hacc, F4, hag2⟩
    | true =>
      rw [if_pos rfl] at p3 ⊢
      refine wpAny_mono p3 ?_ (fun _ _ x => False.elim x)
      rintro y s₄ ⟨h4, tk4, k4, rfl, H4, p4⟩
      refine wpAny_list_append_plain (l := D) (items := arr) ⟨c, H4.fr _ _ hD2⟩ (fun h5 hp5 hs5 => ?_) (by rw [← Array.length_toList, ← List.length_map (f := ab), hacc]; exact hz)
      obtain ⟨c5, ho5⟩ := hp5
      have F5 : Frm cenv (fun y => if y = x then some items[i] else mc y) (updR R2 D { cls := .type "list", data := .seq (arr.push y) c5 }) := Frm.agree (m := setL mc x items[i]) F2 fun a ha => updR_ne fun z => by
        rcases ha with ha | ⟨z', hz'⟩
        · exact hDC (z.symm.trans ha)
        · exact (cne z' a hz').2 z
      exact ⟨items.length - (i + 1), by omega, i + 1, h5, tk4, k4, updR R2 D _, o1, acc ++ [ab y], arr.push y, c5, some items[i], rfl, hlt, rfl, p4, H4.upR hD2 (fun b hb => hs5.2 b hb) ho5, (updR_ne hID).trans hR2, a2, updR_at, by simp [hacc], F5, fun a h1 h2 h3 => (updR_ne h3).trans (hag2 a h1 h2 h3)⟩
  · have hii : i = items.length := by omega
    subst hii
    rw [List.drop_length] at hw
    obtain ⟨hst, hF⟩ := hw
    refine wpAny_mono (it.done hh H hR ho hst fxR (Q := fun r s₁ => ∃ h1 tk1, r = none ∧ s₁ = { s₀ with heap := h1, toks := tk1 } ∧ Has prog w h1 k (remR R I)) fun h1 tk1 a3 => ⟨h1, tk1, rfl, rfl, a3⟩) ?_ (fun _ _ x => False.elim x)
    rintro r s₁ ⟨h1, tk1, rfl, rfl, H1⟩
    dsimp only
    refine cps fun qZ hZ => ?_
    obtain ⟨oC, mC, hoC, hnC, _⟩ := F.loc
    refine hZ ?_
    clear hZ qZ
    exact q h1 tk1 k (remR R I) acc c arr oC mC hF H1 ((remR_ne hID.symm).trans hRD) hacc ((remR_ne hIC.symm).trans hoC) hnC fun a h1 h2 h3 => (remR_ne h2).trans (hag a h1 h2 h3)
end

/-! a comprehension as an expression -/
noncomputable def compOk (scope sc : Scope) (x : Str) (caps : List Str) : Bool :=
  decide (scope.kind = .function) && scope.names.all (fun p => !decide (p.2 = .cell)) && decide ((scope.names.map (·.1)).Nodup) && decide (scope.names.lookup x = some .local) &&
  decide (caps = (scope.names.filter fun p => decide (p.2 = .free)).map (·.1)) && caps.all fun y => decide (sc.names.lookup y = some .cell)
noncomputable def capL (caps : List Str) (m : Loc) : Loc := fun y => if y ∈ caps then m y else none

theorem lookup_nodup {V : Type} : ∀ {l : List (Str × V)} {x : Str} {v : V}, (l.map (·.1)).Nodup → (x, v) ∈ l → l.lookup x = some v
  | (y, u) :: r, x, v, hn, h => by
    rw [List.map_cons, List.nodup_cons] at hn
    rw [List.lookup_cons]
    rcases List.mem_cons.mp h with e | h
    · cases e; simp
    · have : (x == y) = false := beq_eq_false_iff_ne.mpr fun e => hn.1 (by rw [← e]; exact List.mem_map_of_mem (f := (·.1)) h)
      rw [this]; exact lookup_nodup hn.2 h

structure CompFacts (scope : Scope) (env : Env) (x : Str) (caps : List Str) : Prop where
  kind : scope.kind = .function
  nocell : ∀ y ∈ scope.names, y.2 ≠ .cell
  nodup : (scope.names.map (·.1)).Nodup
  var : scope.names.lookup x = some .local
  capsEq : ∀ y, y ∈ caps ↔ scope.names.lookup y = some .free
  cells : ∀ y ∈ caps, env.kindOf y = some .cell
theorem compOk_facts {scope : Scope} {env : Env} {x : Str} {caps : List Str} (h : compOk scope env.scope x caps = true) : CompFacts scope env x caps := by
  simp only [compOk, Bool.and_eq_true, decide_eq_true_eq, List.all_eq_true, Bool.not_eq_true', decide_eq_false_iff_not] at h
  refine cps fun qZ hZ => ?_
  obtain ⟨⟨⟨⟨⟨h1, h2⟩, h3⟩, h4⟩, h5⟩, h6⟩ := h
  refine hZ ?_
  clear hZ qZ
  refine ⟨h1, h2, h3, h4, fun y => ?_, h6⟩
  rw [h5, List.mem_map]
  constructor
  · rintro ⟨⟨z, q⟩, hz, rfl⟩
    rw [List.mem_filter, decide_eq_true_eq] at hz
    obtain ⟨hz, e⟩ := hz
    dsimp only at e
    subst e
    exact lookup_nodup h3 hz
  · intro e
    exact ⟨(y, .free), List.mem_filter.mpr ⟨lookup_mem e, by simp⟩, rfl⟩

section
variable {scope : Scope} {env : Env} {x : Str} {caps : List Str}

theorem relabel_lookup (hk : env.scope.kind = .function) : ∀ (names : List (Str × NameKind)), (∀ y, (y, NameKind.free) ∈ names → env.kindOf y = some .cell) → ∀ y,
    (names.map fun (n, k) => if (k == NameKind.free && env.scope.kind == .function && env.kindOf n == some .cell) then (n, NameKind.cell) else (n, k)).lookup y = (names.lookup y).map fun k => if k = .free then .cell else k
  | [], _, _ => rfl
  | (n, q) :: r, h, y => by
    have ih := relabel_lookup hk r (fun z hz => h z (.tail _ hz)) y
    rw [List.map_cons]
    show List.lookup y ((if (q == NameKind.free && env.scope.kind == .function && env.kindOf n == some .cell) = true then (n, NameKind.cell) else (n, q)) :: _) = _
    by_cases hq : q = .free
    · subst hq
      have e := h n (.head _)
      rw [if_pos (by rw [hk, e]; rfl), List.lookup_cons, List.lookup_cons]
      split
      · rfl
      · exact ih
    · rw [if_neg (by rw [show (q == NameKind.free) = false from beq_eq_false_iff_ne.mpr hq]; simp), List.lookup_cons, List.lookup_cons]
      split
      · simp [hq]
      · exact ih

/-- the captured cells -/
theorem closure_is (hc : ∀ y, (y, NameKind.free) ∈ scope.names → ∃ c, env.cells.lookup y = some c) : ∃ cl, closureFor scope env = pure cl ∧ (∀ y c, (y, c) ∈ cl → env.cells.lookup y = some c) ∧ ∀ y, (y, NameKind.free) ∈ scope.names → ∃ c, (y, c) ∈ cl := by
  unfold closureFor
  have gen : ∀ (names : List (Str × NameKind)) (acc : List (Str × Addr)), (∀ y, (y, NameKind.free) ∈ names → ∃ c, env.cells.lookup y = some c) → (∀ y c, (y, c) ∈ acc → env.cells.lookup y = some c) →
      ∃ cl, (forIn names acc fun (x : Str × NameKind) (r : List (Str × Addr)) => if (x.2 == NameKind.free) = true then do let c ← cellOf env x.1; pure (ForInStep.yield ((x.1, c) :: r)) else pure (ForInStep.yield r) : Sem _) = pure cl ∧
        (∀ y c, (y, c) ∈ cl → env.cells.lookup y = some c) ∧ (∀ y, (y, NameKind.free) ∈ names → ∃ c, (y, c) ∈ cl) ∧ ∀ p ∈ acc, p ∈ cl := by
    intro names
    induction names with
    | nil => intro acc _ ha; exact ⟨acc, by rw [List.forIn_nil], ha, (fun y h => nomatch h), fun p hp => hp⟩
    | cons p r ih =>
      intro acc h ha
      obtain ⟨n, q⟩ := p
      rw [List.forIn_cons]
      by_cases hq : q = .free
      · subst hq
        obtain ⟨c, hcl⟩ := h n (.head _)
        obtain ⟨cl, e1, e2, e3, e4⟩ := ih ((n, c) :: acc) (fun y hy => h y (.tail _ hy)) (fun y d hd => by
          rcases List.mem_cons.mp hd with e | hd
          · cases e; exact hcl
          · exact ha y d hd)
        refine ⟨cl, ?_, e2, fun y hy => ?_, fun p hp => e4 p (.tail _ hp)⟩
        · have : cellOf env n = pure c := by unfold cellOf; rw [hcl]
          simp only [beq_self_eq_true, if_true, this, pure_bind]
          exact e1
        · rcases List.mem_cons.mp hy with e | hy
          · cases e; exact ⟨c, e4 _ (.head _)⟩
          · exact e3 y hy
      · refine cps fun qZ hZ => ?_
        obtain ⟨cl, e1, e2, e3, e4⟩ := ih acc (fun y hy => h y (.tail _ hy)) ha
        refine hZ ?_
        clear hZ qZ
        refine ⟨cl, ?_, e2, fun y hy => ?_, e4⟩
        · rw [if_neg (by rw [show (q == NameKind.free) = false from beq_eq_false_iff_ne.mpr hq]; exact Bool.false_ne_true), pure_bind]
          exact e1
        · rcases List.mem_cons.mp hy with e | hy
          · cases e; exact absurd rfl hq
          · exact e3 y hy
  refine cps fun qZ hZ => ?_
  obtain ⟨cl, e1, e2, e3, _⟩ := gen scope.names [] hc (fun _ _ h => nomatch h)
  refine hZ ?_
  clear hZ qZ
  refine ⟨cl, ?_, e2, e3⟩
  simpa using e1
end

section
variable {prog : Program} {w : World} {G : Glob'} {A : Around} {env : Env} {m : Loc}

/-- the turn, whatever the comprehension's own frame -/
noncomputable def OkGs (prog : Program) (w : World) (G : Glob') (A : Around) (env : Env) (scope : Scope) (x : Str) (ifs : List PySem.Expr) (elt : PySem.Expr) (mc : Loc) (B : PV → KH → (Option PV → KH → Prop) → Prop) : Prop :=
  ∀ cenv : Env, cenv.scope = relabel scope env → GEnv cenv → OkG prog w G A cenv x ifs elt mc B

theorem comp_tail {fx : RH} {v : PV} {va : Value} {items : List PV} {st : KH → Prop} {elt iter : PySem.Expr} {x : Str} {px : Pos} {ifs : List PySem.Expr} {scope : Scope} {pos : Pos} {caps : List Str} {cl : List (Str × Addr)}
    {B : PV → KH → (Option PV → KH → Prop) → Prop} {Fin : List PV → KH → Prop} {RR : Value → Addr → Result → Shared → Prop} (hh : A.handled = none) (C0 : CompFacts scope env x caps) (E : GEnv env)
    (hcl : ∀ y c, (y, c) ∈ cl → env.cells.lookup y = some c) (hcl' : ∀ y, (y, NameKind.free) ∈ scope.names → ∃ c, (y, c) ∈ cl)
    (hG : OkGs prog w G A env scope x ifs elt (capL caps m) B) {k : KH} {R0 : RH} (O0 : Over G R0) (F : Frm env m R0) (hfx : ∀ a o, fx a = some o → R0 a = some o) (S : Src prog w fx v items k st) (ea : ab va = v) {s₁ : Shared}
    (hw : wpComp st B Fin items [] k) (H : Has prog w s₁.heap k R0)
    (q : ∀ D C h tk k R acc n (arr : Array Value) oC mC, R0 D = none → R0 C = none → D ≠ C → Fin acc k → Has prog w h k R → R D = some { cls := .type "list", data := .seq arr n } → arr.toList.map ab = acc → R C = some oC → NsObj oC mC →
      (∀ a o, R0 a = some o → R a = some o) → RR (.ref D) C (.ok .next) { s₁ with heap := h, toks := tk }) :
    wpAny (model prog w) A (pyIter va) (fun it s₂ => wpAny (model prog w) A (newList []) (fun acc s₃ => wpAny (model prog w) A (newFunctionEnv scope env.globals cl [] env.qual none .none (some env)) (fun cenv s₄ =>
      codeAny (model prog w) A (.compStart (.ListComp elt [⟨.Name x px, iter, ifs, 0⟩] scope pos) 0 it acc { cenv with scope := relabel scope env }) (RR acc cenv.locals) s₄) Fls s₃) Fls s₂) Fls s₁ := by
  obtain ⟨ob, hI, hItr⟩ := S.ex
  refine hI hh ea H hfx fun I h2 tk2 o kI RI h0 _ H2 => ?_
  have it := hItr I (by
    cases e : fx I with
    | none => rfl
    | some o => have := hfx I o e; rw [RI] at this; cases this)
  refine wpAny_newList ?_ (by rw [sizeLine_eq]; simp)
  have H3 := H2.pushR (o := { cls := .type "list", data := .seq ([] : List Value).toArray }) rfl
  have hDI : h2.objs.size ≠ I := fun e => by have := H2.ltR (updR_at (R := R0) (a := I) (o := o)); rw [← e] at this; exact Nat.lt_irrefl _ this
  have hD0 : R0 h2.objs.size = none := by
    cases e : R0 h2.objs.size with
    | none => rfl
    | some o => exact absurd (H2.ltR (a := h2.objs.size) (by rw [updR_ne hDI]; exact e)) (Nat.lt_irrefl _)
  generalize hD : h2.objs.size = D at *
  generalize hh3 : h2.push { cls := .type "list", dict := none, data := .seq ([] : List Value).toArray } = h3 at *
  refine wpAny_newFunctionEnv (fun y hy => C0.nocell y hy) (by intro y hy; simp at hy) (fun h4 hns4 hsb4 => ?_) C0.kind
  dsimp only at hns4 hsb4 ⊢
  have H4 := H3.push { cls := .type (if (some env).isSome then "dict" else "frame"), data := .dict #[] }
  generalize hC : h3.objs.size = C at *
  obtain ⟨oC, hoC, hnC⟩ := NsObj.of_ns hns4
  have hR3D : updR (updR R0 I o) D { cls := .type "list", data := .seq ([] : List Value).toArray } D = some { cls := .type "list", data := .seq ([] : List Value).toArray } := updR_at
  have hR3I : updR (updR R0 I o) D { cls := .type "list", data := .seq ([] : List Value).toArray } I = some o := (updR_ne hDI.symm).trans updR_at
  have ltC : ∀ {a o'}, updR (updR R0 I o) D { cls := .type "list", data := .seq ([] : List Value).toArray } a = some o' → a < C := fun e => by rw [← hC]; exact H3.ltR e
  have hDC : D ≠ C := Nat.ne_of_lt (ltC hR3D)
  have hIC : I ≠ C := Nat.ne_of_lt (ltC hR3I)
  have hC0 : R0 C = none := by
    cases e : R0 C with
    | none => rfl
    | some o' => exact absurd (ltC (a := C) (by rw [updR_ne hDC.symm, updR_ne hIC.symm]; exact e)) (Nat.lt_irrefl _)
  have hkC : k C = none := by
    cases e : k C with
    | none => rfl
    | some p => exact absurd (hC ▸ H3.lt e) (Nat.lt_irrefl _)
  have H5 : Has prog w h4 k (updR (updR (updR R0 I o) D { cls := .type "list", data := .seq ([] : List Value).toArray }) C oC) := by
    refine ⟨fun a p e => ?_, fun a p e => ?_, fun a => ?_⟩
    · obtain ⟨o', h1, h2⟩ := H4.kn a p e
      exact ⟨o', (hsb4.2 a (fun z => by rw [z, hkC] at e; cases e)).trans h1, h2⟩
    · unfold updR at e
      split at e
      · rename_i z; subst z; cases e; exact hoC
      · rename_i z
        exact (hsb4.2 a z).trans (H4.fr a p e)
    · by_cases z : a = C
      · subst z; exact .inl hkC
      · rw [updR_ne z]; exact H4.dj a
  have baseC : G.base C = none := by
    cases e : G.base C with
    | none => rfl
    | some o' => have := O0 C o' e; rw [hC0] at this; cases this
  have fxC : fx C = none := by
    cases e : fx C with
    | none => rfl
    | some o' => have := hfx C o' e; rw [hC0] at this; cases this
  let cenv : Env := { scope := relabel scope env, locals := C, globals := env.globals, cells := cl, qual := env.qual, func := none, code := env.code, frame := env.frame, builtins := env.builtins }
  have relk := relabel_lookup F.kind scope.names (fun y hy => C0.cells y ((C0.capsEq y).mpr (lookup_nodup C0.nodup hy)))
  have kind_of : ∀ y, cenv.kindOf y = (scope.names.lookup y).map fun k => if k = .free then .cell else k := relk
  have hclk : ∀ y c, cl.lookup y = some c → env.cells.lookup y = some c := fun y c e => hcl y c (lookup_mem e)
  have Fc : Frm cenv (fun y => if y = x then none else capL caps m y) (updR (updR (updR R0 I o) D { cls := .type "list", data := .seq ([] : List Value).toArray }) C oC) := by
    refine ⟨C0.kind, ⟨oC, _, updR_at, hnC, fun y hy => ?_⟩, fun y hy => ?_, fun y u hu => ?_, fun y z c h1 h2 => F.apart y z c (hclk y c h1) (hclk z c h2), fun y c hc => ?_⟩
    · show Option.map ab (List.lookup y (List.reverse [])) = _
      rw [kind_of, Option.map_eq_some_iff] at hy
      obtain ⟨q', hq', e⟩ := hy
      have : q' = .local := by
        split at e
        · cases e
        · exact e
      subst this
      by_cases hyx : y = x
      · rw [if_pos hyx]; rfl
      · rw [if_neg hyx]
        unfold capL
        rw [if_neg (fun z => by rw [(C0.capsEq y).mp z] at hq'; cases hq')]; rfl
    · rw [kind_of, Option.map_eq_some_iff] at hy
      obtain ⟨q', hq', e⟩ := hy
      have hfree : scope.names.lookup y = some .free := by
        by_cases hf : q' = .free
        · rw [← hf]; exact hq'
        · rw [if_neg hf] at e
          subst e
          exact absurd rfl (C0.nocell _ (lookup_mem hq'))
      have hcap := (C0.capsEq y).mpr hfree
      refine cps fun qZ hZ => ?_
      obtain ⟨c, oc, rv, h1, h2, h3', h4'⟩ := F.cell y (C0.cells y hcap)
      refine hZ ?_
      clear hZ qZ
      obtain ⟨c', hc'⟩ := hcl' y (lookup_mem hfree)
      have hsome : ∃ d, cl.lookup y = some d := by
        cases e : cl.lookup y with
        | some d => exact ⟨d, rfl⟩
        | none => rw [List.lookup_eq_none_iff] at e; exact absurd (e _ hc') (by simp)
      obtain ⟨d, hd⟩ := hsome
      have hdc : d = c := by have := hclk y d hd; rw [h1] at this; exact (Option.some.inj this).symm
      subst hdc
      have hyx : y ≠ x := fun z => by rw [z, C0.var] at hfree; cases hfree
      have n1 : d ≠ C := fun z => by rw [z, hC0] at h2; cases h2
      have n2 : d ≠ D := fun z => by rw [z, hD0] at h2; cases h2
      have n3 : d ≠ I := fun z => by rw [z, RI] at h2; cases h2
      refine ⟨d, oc, rv, hd, by rw [updR_ne n1, updR_ne n2, updR_ne n3]; exact h2, h3', ?_⟩
      rw [if_neg hyx]; unfold capL; rw [if_pos hcap]; exact h4'
    · by_cases hyx : y = x
      · rw [if_pos hyx] at hu; cases hu
      · rw [if_neg hyx] at hu
        unfold capL at hu
        split at hu
        · rename_i hcap
          right
          rw [kind_of, (C0.capsEq y).mp hcap]; rfl
        · cases hu
    · obtain ⟨o', ho'⟩ := F.cin y c (hclk y c hc)
      have n1 : c ≠ C := fun z => by rw [z, hC0] at ho'; cases ho'
      have n2 : c ≠ D := fun z => by rw [z, hD0] at ho'; cases ho'
      have n3 : c ≠ I := fun z => by rw [z, RI] at ho'; cases ho'
      exact ⟨o', by rw [updR_ne n1, updR_ne n2, updR_ne n3]; exact ho'⟩
  have loop : ∀ tk', codeAny (model prog w) A (.compLoop (.ListComp elt [⟨.Name x px, iter, ifs, 0⟩] scope pos) 0 (.ref I) (.ref D) cenv) (RR (.ref D) C) { s₁ with heap := h4, toks := tk' } := fun tk' => by
    refine comp_core (cenv := cenv) (vx := none) (R0 := R0) hh it (hG cenv rfl ⟨E.globals, E.builtins⟩) (by rw [kind_of, C0.var]; rfl) O0 baseC RI hD0 hfx fxC (fun y c e => ?_) (fun h5 tk5 k5 R5 acc n arr oC5 mC5 a1 a2 a3 a4 a5 a6 a7 => ?_)
      (fun e => hDI e.symm) hIC hDC hw H5 ((updR_ne hIC).trans hR3I) h0 ((updR_ne hDC).trans hR3D) Fc fun a b1 b2 b3 => by rw [updR_ne b1, updR_ne b3, updR_ne b2]
    · obtain ⟨o', ho'⟩ := F.cin y c (hclk y c e)
      rw [ho']; exact fun z => nomatch z
    · exact q D C h5 tk5 k5 R5 acc n arr oC5 mC5 hD0 hC0 hDC a1 a2 a3 a4 a5 a6 fun a o' e => (a7 a (fun z => by rw [z, hC0] at e; cases e) (fun z => by rw [z, RI] at e; cases e) (fun z => by rw [z, hD0] at e; cases e)).trans e
  exact codeAny_compStart_list (loop _) (it.self H5 ((updR_ne hIC).trans hR3I) h0 (loop _))
end

noncomputable def remK (k : KH) (d : Addr) : KH := fun a => if a = d then none else k a
noncomputable def keysPO : PO → Option (List PV)
  | .dictS _ es => some (es.map fun p => .str p.1)
  | .dictI _ es => some (es.map fun p => .int p.1)
  | _ => none
/-- what a comprehension gives, at its end -/
noncomputable def FinC (f : KH → KH) (P : PV → KH → Prop) (acc : List PV) (k : KH) : Prop := ∃ p, IsListPO p acc ∧ ∀ c k', New (f k) c p k' → P (.ref c) k'

section
variable {prog : Program} {w : World} {G : Glob'} {A : Around} {env : Env} {m : Loc} {k : KH}

theorem cells_of {R : RH} (F : Frm env m R) {scope : Scope} {x : Str} {caps : List Str} (C0 : CompFacts scope env x caps) : ∀ y, (y, NameKind.free) ∈ scope.names → ∃ c, env.cells.lookup y = some c := fun y hy => by
  refine cps fun qZ hZ => ?_
  obtain ⟨c, _, _, h, _⟩ := F.cell y (C0.cells y ((C0.capsEq y).mpr (lookup_nodup C0.nodup hy)))
  refine hZ ?_
  clear hZ qZ
  exact ⟨c, h⟩
theorem locals_of {scope : Scope} {x : Str} {caps : List Str} (C0 : CompFacts scope env x caps) : ∀ y ∈ scope.names, y.2 = .local → scope.names.lookup y.1 = some .local := fun y hy e => lookup_nodup C0.nodup (by rw [← e]; exact hy)

/-- the end: the new list known, the comprehension's frame let go -/
theorem has_end {h h' : Heap} {R R0 : RH} {D C : Addr} {n : Nat} {arr : Array Value} {acc : List PV} {p : PO} {oC : Obj} (hD0 : R0 D = none) (hC0 : R0 C = none) (H : Has prog w h k R) (hRD : R D = some { cls := .type "list", data := .seq arr n }) (hacc : arr.toList.map ab = acc)
    (hRC : R C = some oC) (hag : ∀ a o, R0 a = some o → R a = some o) (hp : IsListPO p acc) (hDC : D ≠ C) (hs : ∀ b, b ≠ C → h'.get? b = h.get? b) : Has prog w h' (upd k D p) R0 ∧ k D = none := by
  have hkD : k D = none := (H.dj D).resolve_right (by rw [hRD]; exact fun z => nomatch z)
  have hkC : k C = none := (H.dj C).resolve_right (by rw [hRC]; exact fun z => nomatch z)
  subst hacc
  refine ⟨⟨fun a q e => ?_, fun a o e => ?_, fun a => ?_⟩, hkD⟩
  · unfold upd at e
    split at e
    · rename_i z; subst z; cases e
      refine ⟨_, (hs a hDC).trans (H.fr _ _ hRD), ?_⟩
      have := hp.rep (prog := prog) (w := w) (n := n)
      rwa [Array.toArray_toList] at this
    · obtain ⟨o, h1, h2⟩ := H.kn a q e
      exact ⟨o, (hs a (fun z => by rw [z, hkC] at e; cases e)).trans h1, h2⟩
  · exact (hs a (fun z => by rw [z, hC0] at e; cases e)).trans (H.fr _ _ (hag a o e))
  · unfold upd
    split
    · rename_i z; subst z; exact .inr hD0
    · rcases H.dj a with z | z
      · exact .inl z
      · right
        cases e : R0 a with
        | none => rfl
        | some o => rw [hag a o e] at z; cases z

theorem okE_comp {elt iter : PySem.Expr} {x : Str} {px : Pos} {ifs : List PySem.Expr} {scope : Scope} {pos : Pos} {caps : List Str} {B : PV → KH → (Option PV → KH → Prop) → Prop} {P : PV → KH → Prop} (hh : A.handled = none) (E : GEnv env) (hC : compOk scope env.scope x caps = true)
    (hG : OkGs prog w G A env scope x ifs elt (capL caps m) B) (hfold : ∀ x, foldedSetIterable iter env x = pure x)
    (h : OkE prog w G A env k m (eval iter env) fun v k1 => ∃ items st, Src prog w (fun _ => none) v items k1 st ∧ wpComp st B (FinC id P) items [] k1) :
    OkE prog w G A env k m (eval (.ListComp elt [⟨.Name x px, iter, ifs, 0⟩] scope pos) env) P := fun R O F s Q H q => by
  have C0 := compOk_facts hC
  refine cps fun qZ hZ => ?_
  obtain ⟨cl, c1, c2, c3⟩ := closure_is (cells_of F C0)
  refine hZ ?_
  clear hZ qZ
  rw [eval_ListComp]
  refine wpAny_comprehension_free (use := none) rfl hfold c1 C0.kind (locals_of C0) (h R O F _ _ H fun v h1 tk1 k1 p1 H1 => ?_)
  refine cps fun qZ hZ => ?_
  obtain ⟨items, st, S, hw⟩ := p1
  refine hZ ?_
  clear hZ qZ
  refine comp_tail (RR := fun acc C => compPost (model prog w) A Fls none Q acc C) (s₁ := { s with heap := h1, toks := tk1 }) hh C0 E c2 c3 hG O F (fun _ _ e => by cases e) S rfl hw H1 fun D C h2 tk2 k2 R2 acc n arr oC mC a1 a2 a3 a4 a5 a6 a7 a8 a9 a10 => ?_
  obtain ⟨p, hp, hP⟩ := a4
  refine ⟨mC, a9.ns (a5.fr _ _ a8), fun h3 hs3 => ?_⟩
  obtain ⟨H3, hkD⟩ := has_end a1 a2 a5 a6 a7 a8 a10 hp a3 hs3.2
  exact q _ h3 tk2 _ (hP D _ (New.mk' hkD)) H3

theorem okE_compD {elt iter : PySem.Expr} {x : Str} {px : Pos} {ifs : List PySem.Expr} {scope : Scope} {pos : Pos} {caps : List Str} {B : PV → KH → (Option PV → KH → Prop) → Prop} {P : PV → KH → Prop} (g : Good G) (hh : A.handled = none) (E : GEnv env) (hC : compOk scope env.scope x caps = true)
    (hG : OkGs prog w G A env scope x ifs elt (capL caps m) B) (hfold : ∀ x, foldedSetIterable iter env x = pure x)
    (h : OkE prog w G A env k m (eval iter env) fun v k1 => ∃ d pd items, v = .ref d ∧ k1 d = some pd ∧ keysPO pd = some items ∧ wpComp (fun _ => True) B (FinC (fun k' => upd k' d pd) P) items [] (remK k1 d)) :
    OkE prog w G A env k m (eval (.ListComp elt [⟨.Name x px, iter, ifs, 0⟩] scope pos) env) P := fun R O F s Q H q => by
  have C0 := compOk_facts hC
  refine cps fun qZ hZ => ?_
  obtain ⟨cl, c1, c2, c3⟩ := closure_is (cells_of F C0)
  refine hZ ?_
  clear hZ qZ
  rw [eval_ListComp]
  refine wpAny_comprehension_free (use := none) rfl hfold c1 C0.kind (locals_of C0) (h R O F _ _ H fun v h1 tk1 k1 p1 H1 => ?_)
  refine cps fun qZ hZ => ?_
  obtain ⟨d, pd, items, ev, hd, hk, hw⟩ := p1
  refine hZ ?_
  clear hZ qZ
  obtain ⟨osys, hsys⟩ := g.sys
  have hsd : (d == sysModules) = false := beq_eq_false_iff_ne.mpr (H1.neR hd (O _ _ hsys))
  obtain ⟨od, hod, rod⟩ := H1.kn d pd hd
  have hRd : R d = none := (H1.dj d).resolve_left (by rw [hd]; exact fun z => nomatch z)
  have Hx : Has prog w h1 (remK k1 d) (updR R d od) := by
    refine ⟨fun a p e => ?_, fun a o e => ?_, fun a => ?_⟩
    · unfold remK at e
      split at e
      · cases e
      · exact H1.kn a p e
    · unfold updR at e
      split at e
      · rename_i z; subst z; cases e; exact hod
      · exact H1.fr a o e
    · unfold remK updR
      split
      · exact .inl rfl
      · exact H1.dj a
  have S : Src prog w (fun a => if a = d then some od else none) (.ref d) items (remK k1 d) (fun _ => True) := by
    cases pd <;> simp only [keysPO] at hk <;> first | cases hk | skip
    · obtain ⟨kvs, hD, e⟩ := rod
      subst e
      have := src_dict (w := w) (k := remK k1 d) (knd := strKind prog w) PV.str (fun x v hx => by obtain ⟨t, rfl⟩ := Value.isStrOf_shape (show Value.isStrOf x v = true from hx); rfl) hD hsd
      rwa [List.map_map]
    · obtain ⟨kvs, hD, e⟩ := rod
      subst e
      have := src_dict (w := w) (k := remK k1 d) (knd := intKind prog w) PV.int (fun x v hx => by
        cases v <;> simp [intKind, Value.isInt] at hx
        subst hx; rfl) hD hsd
      rwa [List.map_map]
  have hbd : G.base d = none := by
    cases e : G.base d with
    | none => rfl
    | some o => have := O d o e; rw [hRd] at this; cases this
  have O' : Over G (updR R d od) := fun a o e => by
    rw [updR_ne (fun z => by rw [z, hbd] at e; cases e)]; exact O a o e
  have F' : Frm env m (updR R d od) := F.agree fun a ha => updR_ne fun z => by
    rcases ha with ha | ⟨y, hy⟩
    · refine cps fun qZ hZ => ?_
      obtain ⟨o, _, ho, _⟩ := F.loc
      refine hZ ?_
      clear hZ qZ
      rw [← ha, z, hRd] at ho; cases ho
    · obtain ⟨o, ho⟩ := F.cin y a hy
      rw [z, hRd] at ho; cases ho
  refine comp_tail (RR := fun acc C => compPost (model prog w) A Fls none Q acc C) (s₁ := { s with heap := h1, toks := tk1 }) hh C0 E c2 c3 hG O' F' (fun a o e => ?_) S ev hw Hx fun D C h2 tk2 k2 R2 acc n arr oC mC a1 a2 a3 a4 a5 a6 a7 a8 a9 a10 => ?_
  · split at e
    · rename_i z; subst z; cases e; exact updR_at
    · cases e
  · obtain ⟨p, hp, hP⟩ := a4
    refine ⟨mC, a9.ns (a5.fr _ _ a8), fun h3 hs3 => ?_⟩
    obtain ⟨H3, hkD⟩ := has_end a1 a2 a5 a6 a7 a8 a10 hp a3 hs3.2
    have hDd : D ≠ d := fun z => by rw [z, updR_at] at a1; cases a1
    have hk2d : k2 d = none := (a5.dj d).resolve_right (by rw [a10 d od updR_at]; exact fun z => nomatch z)
    have H4 : Has prog w h3 (upd (upd k2 d pd) D p) R := by
      refine ⟨fun a u e => ?_, fun a o e => ?_, fun a => ?_⟩
      · by_cases za : a = D
        · subst za; rw [upd_at] at e; cases e; exact H3.kn a p upd_at
        · rw [upd_ne za] at e
          by_cases zd : a = d
          · subst zd; rw [upd_at] at e; cases e
            exact ⟨od, H3.fr _ _ updR_at, rod⟩
          · rw [upd_ne zd] at e
            exact H3.kn a u (by rw [upd_ne za]; exact e)
      · exact H3.fr a o (by rw [updR_ne (fun z => by rw [z, hRd] at e; cases e)]; exact e)
      · by_cases zd : a = d
        · subst zd; exact .inr hRd
        · rcases H3.dj a with z | z
          · by_cases za : a = D
            · subst za; rw [upd_at] at z; cases z
            · left; rw [upd_ne za, upd_ne zd]; rw [upd_ne za] at z; exact z
          · right; rw [updR_ne zd] at z; exact z
    exact q _ h3 tk2 _ (hP D _ ⟨by show upd k2 d pd D = none; rw [upd_ne hDd]; exact hkD, rfl⟩) H4

/-- a comprehension bound to a name on its own line -/
theorem okX_AssignComp {elt iter : PySem.Expr} {x y : Str} {px py : Pos} {ifs : List PySem.Expr} {scope : Scope} {pos spos : Pos} {caps : List Str} {B : PV → KH → (Option PV → KH → Prop) → Prop} {P : Fl → Loc → KH → Prop} (hh : A.handled = none) (E : GEnv env) (hC : compOk scope env.scope x caps = true)
    (hG : OkGs prog w G A env scope x ifs elt (capL caps m) B) (hfold : ∀ x, foldedSetIterable iter env x = pure x) (hy : env.kindOf y = some .local)
    (hsw : swapsWith (.ListComp elt [⟨.Name x px, iter, ifs, 0⟩] scope pos) (some (.Name y py)) spos.line env = pure true)
    (h : OkE prog w G A env k m (eval iter env) fun v k1 => ∃ items st, Src prog w (fun _ => none) v items k1 st ∧ wpComp st B (FinC id fun v' k' => P .next (setL m y v') k') items [] k1) :
    OkX prog w G A env k m (exec (.Assign [.Name y py] (.ListComp elt [⟨.Name x px, iter, ifs, 0⟩] scope pos) spos) env) P := fun R O F s Q H q => by
  have C0 := compOk_facts hC
  refine cps fun qZ hZ => ?_
  obtain ⟨cl, c1, c2, c3⟩ := closure_is (cells_of F C0)
  refine hZ ?_
  clear hZ qZ
  rw [exec_Assign_Name_used _ _ _ _ hsw]
  refine wpAny_bind (wpAny_standAt (wpAny_bind ?_))
  show wpAny _ A (do let _ ← comprehension (.ListComp elt [⟨.Name x px, iter, ifs, 0⟩] scope pos) scope env _ (newList []) false (eval iter env) (some (assign (.Name y py) env))) _ _ s
  refine wpAny_bind (wpAny_mono (wpAny_comprehension_free (use := some (assign (.Name y py) env)) (Q := fun _ s' => Q .next s') rfl hfold c1 C0.kind (locals_of C0) (h R O F _ _ H fun v h1 tk1 k1 p1 H1 => ?_)) (fun _ s' hq => wpAny_pure (wpAny_pure hq)) fun _ _ e => e)
  refine cps fun qZ hZ => ?_
  obtain ⟨items, st, S, hw⟩ := p1
  refine hZ ?_
  clear hZ qZ
  refine comp_tail (RR := fun acc C => compPost (model prog w) A Fls (some (assign (.Name y py) env)) (fun _ s' => Q .next s') acc C) (s₁ := { s with heap := h1, toks := tk1 }) hh C0 E c2 c3 hG O F (fun _ _ e => by cases e) S rfl hw H1 fun D C h2 tk2 k2 R2 acc n arr oC mC a1 a2 a3 a4 a5 a6 a7 a8 a9 a10 => ?_
  obtain ⟨p, hp, hP⟩ := a4
  show wpAny _ A (assign (.Name y py) env (.ref D)) _ _ _
  -- the frame, with C beside it
  have hkC : k2 C = none := (a5.dj C).resolve_right (by rw [a8]; exact fun z => nomatch z)
  have F2 : Frm env m R2 := by
    refine cps fun qZ hZ => ?_
    obtain ⟨o, mL, h1', h2', h3'⟩ := F.loc
    refine hZ ?_
    clear hZ qZ
    exact ⟨F.kind, ⟨o, mL, a10 _ _ h1', h2', h3'⟩, fun z hz => let ⟨c, oc, rv, b1, b2, b3, b4⟩ := F.cell z hz; ⟨c, oc, rv, b1, a10 _ _ b2, b3, b4⟩, F.dom, F.apart, fun z c hz => let ⟨o', ho'⟩ := F.cin z c hz; ⟨o', a10 _ _ ho'⟩⟩
  have hLC : C ≠ env.locals := fun z => by
    refine cps fun qZ hZ => ?_
    obtain ⟨o, _, ho, _⟩ := F.loc
    refine hZ ?_
    clear hZ qZ
    rw [← z, a2] at ho; cases ho
  have hLD : D ≠ env.locals := fun z => by
    refine cps fun qZ hZ => ?_
    obtain ⟨o, _, ho, _⟩ := F.loc
    refine hZ ?_
    clear hZ qZ
    rw [← z, a1] at ho; cases ho
  refine wpAny_assign_Name (store_local F2 hy (va := .ref D) (s := { s with heap := h2, toks := tk2 }) a5 fun h3 tk3 R3 H3 F3 e3 => ?_)
  have hR3C : R3 C = some oC := (e3 C hLC).trans a8
  have hR3D : R3 D = some { cls := .type "list", data := .seq arr n } := (e3 D hLD).trans a6
  refine ⟨mC, a9.ns (H3.fr _ _ hR3C), fun h4 hs4 => ?_⟩
  -- what is handed on: R with the frame's own part of R3
  classical
  have hkD : k2 D = none := (H3.dj D).resolve_right (by rw [hR3D]; exact fun z => nomatch z)
  let R4 : RH := fun a => if a = env.locals then R3 a else R a
  have H4 : Has prog w h4 (upd k2 D p) R4 := by
    refine ⟨fun a u e => ?_, fun a o e => ?_, fun a => ?_⟩
    · unfold upd at e
      split at e
      · rename_i z; subst z; cases e
        refine ⟨_, (hs4.2 a a3).trans (H3.fr _ _ hR3D), ?_⟩
        subst a7
        have := hp.rep (prog := prog) (w := w) (n := n)
        rwa [Array.toArray_toList] at this
      · obtain ⟨o, b1, b2⟩ := H3.kn a u e
        exact ⟨o, (hs4.2 a (fun z => by rw [z, hkC] at e; cases e)).trans b1, b2⟩
    · show h4.get? a = some o
      change (if a = env.locals then R3 a else R a) = some o at e
      split at e
      · rename_i z
        exact (hs4.2 a (fun z' => hLC (z'.symm.trans z))).trans (H3.fr a o e)
      · rename_i z
        exact (hs4.2 a (fun z' => by rw [z', a2] at e; cases e)).trans (H3.fr a o ((e3 a z).trans (a10 a o e)))
    · by_cases z : a = env.locals
      · left
        subst z
        rw [upd_ne (fun y => hLD y.symm)]
        exact (H3.dj _).resolve_right (by obtain ⟨o, _, ho, _⟩ := F3.loc; rw [ho]; exact fun z => nomatch z)
      · show upd k2 D p a = none ∨ (if a = env.locals then R3 a else R a) = none
        rw [if_neg z]
        by_cases z' : a = D
        · subst z'; exact .inr a1
        · rw [upd_ne z']
          rcases a5.dj a with y | y
          · exact .inl y
          · right
            cases e : R a with
            | none => rfl
            | some o => rw [a10 a o e] at y; cases y
  refine q .next h4 tk3 (setL m y (.ref D)) _ R4 (hP D _ (New.mk' hkD)) H4 ?_ fun a ha => if_neg fun z => ha (.inl z)
  refine cps fun qZ hZ => ?_
  obtain ⟨o3, mL3, b1, b2, b3⟩ := F3.loc
  refine hZ ?_
  clear hZ qZ
  refine ⟨F3.kind, ⟨o3, mL3, (if_pos rfl).trans b1, b2, b3⟩, fun z hz => ?_, F3.dom, F3.apart, fun z c hz => ?_⟩
  · refine cps fun qZ hZ => ?_
    obtain ⟨c, oc, rv, c1', c2', c3', c4'⟩ := F.cell z hz
    refine hZ ?_
    clear hZ qZ
    have hzy : z ≠ y := fun e => by rw [e, hy] at hz; cases hz
    have hcL : c ≠ env.locals := fun e => by
      refine cps fun qZ hZ => ?_
      obtain ⟨o, mL, d1, ⟨es, ep, d2, _⟩, _⟩ := F.loc
      refine hZ ?_
      clear hZ qZ
      rw [e, d1] at c2'; cases c2'
      rw [d2] at c3'; cases c3'
    exact ⟨c, oc, rv, c1', (if_neg hcL).trans c2', c3', by unfold setL; rw [if_neg hzy]; exact c4'⟩
  · obtain ⟨o, ho⟩ := F.cin z c hz
    by_cases e : c = env.locals
    · exact ⟨o3, (if_pos e).trans (by rw [e]; exact b1)⟩
    · exact ⟨o, (if_neg e).trans ho⟩
end

/-! names -/
theorem lk_here {m : Loc} {x : Str} {v : PV} : setL m x v x = some v := by simp [setL]
theorem lk_there {m : Loc} {x y : Str} {v u : PV} (h : y ≠ x) (e : m y = some v) : setL m x u y = some v := by simp [setL, h, e]
theorem kd_of {env : Env} {sc : Scope} (hs : env.scope = sc) {x : Str} {o : Option NameKind} (h : sc.names.lookup x = o) : env.kindOf x = o := by unfold Env.kindOf; rw [hs]; exact h
noncomputable def globOk (sc : Scope) (x : Str) : Bool := decide (sc.kind = .function) && decide (sc.names.lookup x = some .globalImplicit) && !(x == ("__debug__" : Str))
theorem glob_of {env : Env} {sc : Scope} (hs : env.scope = sc) {x : Str} (h : globOk sc x = true) : IsGlob env x := by
  simp only [globOk, Bool.and_eq_true, decide_eq_true_eq, Bool.not_eq_true'] at h
  exact ⟨by rw [hs]; exact h.1.1, kd_of hs h.1.2, h.2⟩
noncomputable def storeOk (sc : Scope) (x : Str) : Bool := decide (sc.names.lookup x = some .local) || decide (sc.names.lookup x = some .cell)
theorem store_of {env : Env} {sc : Scope} (hs : env.scope = sc) {x : Str} (h : storeOk sc x = true) : env.kindOf x = some .local ∨ env.kindOf x = some .cell := by
  simp only [storeOk, Bool.or_eq_true, decide_eq_true_eq] at h
  exact h.imp (kd_of hs) (kd_of hs)

section
variable (prog : Program) (w : World) (G : Glob')
noncomputable def OkEs (A : Around) (env : Env) (k : KH) (m : Loc) (l : List PySem.Expr) (P : List PV → KH → Prop) : Prop := ∀ pos R, Over G R → Frm env m R → OkVs prog w A k R (spliced (backTo pos (starEach l env))) P
/-- a call of cv on vs -/
noncomputable def OkK (A : Around) (k : KH) (cv : Value) (vs : List PV) (P : PV → KH → Prop) : Prop := ∀ R, Over G R → ∀ vas, vas.map ab = vs → OkV prog w A k R (call cv vas) P
/-- an operation on two values -/
noncomputable def OkO (A : Around) (k : KH) (t : Value → Value → Sem Value) (a b : PV) (P : PV → KH → Prop) : Prop := ∀ R, Over G R → OkB prog w A k R t a b P
end

section
variable {prog : Program} {w : World} {G : Glob'} {A : Around} {k : KH} {m : Loc} {env : Env} {P : PV → KH → Prop}

theorem okE_lift {t : Sem Value} (h : ∀ R, Over G R → OkV prog w A k R t P) : OkE prog w G A env k m t P := fun R O _ => h R O
theorem okE_mono {t : Sem Value} {P' : PV → KH → Prop} (h : OkE prog w G A env k m t P) (s : ∀ v k', P v k' → P' v k') : OkE prog w G A env k m t P' := fun R O F => (h R O F).mono s
theorem okX_mono {t : Sem Flow} {P P' : Fl → Loc → KH → Prop} (h : OkX prog w G A env k m t P) (s : ∀ f m' k', P f m' k' → P' f m' k') : OkX prog w G A env k m t P' := fun R O => (h R O).mono fun a m' k' => s (abF a) m' k'
theorem okE_Name {x : Str} {pos : Pos} {v : PV} (hx : m x = some v) (hd : (x == ("__debug__" : Str)) = false) (h : P v k) : OkE prog w G A env k m (eval (.Name x pos) env) P := fun R O F => ok_Name F hx hd h
theorem okE_gint (g : Good G) (E : GEnv env) {x : Str} (hx : IsGlob env x) {pos : Pos} {i : Int} {t : Tok} (hv : G.mg x = some (.int i t)) (h : P (.int i) k) : OkE prog w G A env k m (eval (.Name x pos) env) P := fun R O F s Q H q =>
  glob_val g O E hx hv H (q (.int i t) s.heap s.toks k h H)
theorem okE_int {i : Int} {kd : Nat} {pos : Pos} (h : P (.int i) k) : OkE prog w G A env k m (eval (.Constant (.int i) kd pos) env) P := fun _ _ _ => ok_int h
theorem okE_str {x : Str} {kd : Nat} {pos : Pos} (h : P (.str x) k) : OkE prog w G A env k m (eval (.Constant (.str x) kd pos) env) P := fun _ _ _ => ok_str h
theorem okE_none {kd : Nat} {pos : Pos} (h : P .none k) : OkE prog w G A env k m (eval (.Constant .none kd pos) env) P := fun _ _ _ => ok_none h
theorem okE_bool {b : Bool} {kd : Nat} {pos : Pos} (h : P (.bool b) k) : OkE prog w G A env k m (eval (.Constant (.bool b) kd pos) env) P := fun _ _ _ => ok_bool h

theorem okEs_nil {Q : List PV → KH → Prop} (h : Q [] k) : OkEs prog w G A env k m [] Q := fun _ _ _ _ => oks_nil h
theorem okEs_cons {e : PySem.Expr} {rest : List PySem.Expr} {Q : List PV → KH → Prop} (he : notStar e = true) (h : OkE prog w G A env k m (eval e env) fun v k1 => OkEs prog w G A env k1 m rest fun vs k2 => Q (v :: vs) k2) : OkEs prog w G A env k m (e :: rest) Q :=
  fun pos R O F => oks_cons (OkV.mono (h R O F) fun v k1 h1 => h1 pos R O F) (star_cons he rest env)
theorem okE_Tup {elts : List PySem.Expr} {kd : Nat} {pos : Pos} (h : OkEs prog w G A env k m elts fun vs k1 => vs.length ≤ sizeLine ∧ ∀ c k', New k1 c (.tup vs) k' → P (.ref c) k') : OkE prog w G A env k m (eval (.Tuple elts kd pos) env) P := fun R O F => ok_tup (h pos R O F)
theorem okE_List {elts : List PySem.Expr} {pos : Pos} (h : OkEs prog w G A env k m elts fun vs k1 => vs.length ≤ sizeLine ∧ ∃ p, IsListPO p vs ∧ ∀ c k', New k1 c p k' → P (.ref c) k') : OkE prog w G A env k m (eval (.List elts pos) env) P := fun R O F => ok_list (h pos R O F)
theorem okE_dict0 {pos : Pos} (h : ∃ p, IsEmptyPO p ∧ ∀ c k', New k c p k' → P (.ref c) k') : OkE prog w G A env k m (eval (.Dict [] [] pos) env) P := fun _ _ _ => ok_dict0 h
theorem okE_BinOp {l r : PySem.Expr} {op : Operator} {pos : Pos} (h : OkE prog w G A env k m (eval l env) fun a k1 => OkE prog w G A env k1 m (eval r env) fun b k2 => OkO prog w G A k2 (binaryOp op) a b P) : OkE prog w G A env k m (eval (.BinOp l op r pos) env) P :=
  fun R O F => ok_BinOp ((h R O F).mono fun a k1 h1 => (h1 R O F).mono fun b k2 h2 => h2 R O)
theorem okE_Compare {l r : PySem.Expr} {op : CmpOp} {pos : Pos} (hm : behindInMarks op r = false) (h : OkE prog w G A env k m (eval l env) fun a k1 => OkE prog w G A env k1 m (eval r env) fun b k2 => OkO prog w G A k2 (compareOp op) a b P) :
    OkE prog w G A env k m (eval (.Compare l [op] [r] pos) env) P := fun R O F => ok_Compare hm ((h R O F).mono fun a k1 h1 => (h1 R O F).mono fun b k2 h2 => h2 R O)
theorem okC_Cmp {l r : PySem.Expr} {op : CmpOp} {pos : Pos} {t : Sem Value} {P : Bool → KH → Prop} (hm : behindInMarks op r = false)
    (h : OkE prog w G A env k m (eval l env) fun a k1 => OkE prog w G A env k1 m (eval r env) fun b k2 => OkO prog w G A k2 (compareOp op) a b fun v k' => ∃ b, v = .bool b ∧ P b k') : OkC prog w G A env k m (isTrue (.Compare l [op] [r] pos) env t) P := okC_Compare hm h
theorem okE_Sub {value slice : PySem.Expr} {pos : Pos} (h : OkE prog w G A env k m (eval value env) fun a k1 => OkE prog w G A env k1 m (eval slice env) fun b k2 => OkO prog w G A k2 (subscriptTail value slice) a b P) : OkE prog w G A env k m (eval (.Subscript value slice pos) env) P :=
  fun R O F => ok_Subscript ((h R O F).mono fun a k1 h1 => (h1 R O F).mono fun b k2 h2 => h2 R O)
theorem okE_sliceT {value : PySem.Expr} {pos : Pos} {kd : Nat} {p p' : Pos} {n : Nat}
    (h : OkE prog w G A env k m (eval value env) fun v k1 => ∃ a l, v = .ref a ∧ k1 a = some (.tup l) ∧ 1 ≤ n ∧ n ≤ l.length ∧ l.length ≤ sizeLine ∧ ∀ c k', New k1 c (.tup (l.drop n)) k' → P (.ref c) k') :
    OkE prog w G A env k m (eval (.Subscript value (.Slice (some (.Constant (.int n) kd p)) none none p') pos) env) P := fun R O F => ok_sliceT (h R O F)
theorem okE_append {o elt : PySem.Expr} {apos pos : Pos} (ho : notCall o = true) (he : notStar elt = true) (hline : (apos.endLine == pos.line) = true)
    (h : OkE prog w G A env k m (eval o env) fun v k1 => ∃ D l₀ fz₀, v = .ref D ∧ k1 D = some (.list fz₀ l₀) ∧ OkE prog w G A env k1 m (eval elt env) fun y k2 => ∃ l, k2 D = some (.list false l) ∧ l.length ≤ sizeLine ∧ ∀ k', Upd k2 D (.list false (l ++ [y])) k' → P .none k') :
    OkE prog w G A env k m (eval (.Call (.Attribute o "append" apos) [elt] [] pos) env) P := fun R O F => ok_append ho he hline ((h R O F).mono fun v k1 ⟨D, l₀, fz₀, e1, e2, h1⟩ => ⟨D, l₀, fz₀, e1, e2, h1 R O F⟩)

theorem okO_of {t : Value → Value → Sem Value} {a b : PV} (h : ∀ R, Over G R → OkB prog w A k R t a b P) : OkO prog w G A k t a b P := h
theorem sys_some (g : Good G) {R : RH} (O : Over G R) : ∃ o, R sysModules = some o := let ⟨o, ho⟩ := g.sys; ⟨o, O _ _ ho⟩

theorem okE_get (g : Good G) {o e d : PySem.Expr} {apos pos : Pos} (ho : notCall o = true) (he : notStar e = true) (hd : notStar d = true) (hline : (apos.endLine == pos.line) = true)
    (h : OkE prog w G A env k m (eval o env) fun v k1 => ∃ D, v = .ref D ∧ ((∃ fz es, k1 D = some (.dictS fz es) ∧ OkE prog w G A env k1 m (eval e env) fun x k2 => OkE prog w G A env k2 m (eval d env) fun y k3 => ∃ z, x = .str z ∧ k3 D = some (.dictS fz es) ∧ P ((es.lookup z).getD y) k3) ∨
      (∃ fz es, k1 D = some (.dictI fz es) ∧ OkE prog w G A env k1 m (eval e env) fun x k2 => OkE prog w G A env k2 m (eval d env) fun y k3 => ∃ z, x = .int z ∧ k3 D = some (.dictI fz es) ∧ P ((es.lookup z).getD y) k3))) :
    OkE prog w G A env k m (eval (.Call (.Attribute o "get" apos) [e, d] [] pos) env) P := fun R O F => ok_get (sys_some g O) ho he hd hline ((h R O F).mono fun v k1 ⟨D, e1, h1⟩ => ⟨D, e1, h1.imp
      (fun ⟨fz, es, a, b⟩ => ⟨fz, es, a, (b R O F).mono fun x k2 c => c R O F⟩) fun ⟨fz, es, a, b⟩ => ⟨fz, es, a, (b R O F).mono fun x k2 c => c R O F⟩⟩)

/-! calls -/
theorem okE_CallF (g : Good G) (E : GEnv env) {f : Str} {p pos : Pos} (hx : IsGlob env f) {a : Addr} {ps : List Str} {body : List Stmt} {scope : Scope} (hv : G.mg f = some (.ref a)) (hf : FnAt G.base a ps body scope) {e : PySem.Expr} {rest : List PySem.Expr} (hs : notStar e = true)
    (h : OkEs prog w G A env k m (e :: rest) fun vs k1 => OkK prog w G A k1 (.ref a) vs P) : OkE prog w G A env k m (eval (.Call (.Name f p) (e :: rest) [] pos) env) P := fun R O F s Q H q => by
  refine cps fun qZ hZ => ?_
  obtain ⟨o, fd, ho, hd, _⟩ := hf.ex
  refine hZ ?_
  clear hZ qZ
  refine Call_Name rfl (glob_val g O E hx hv H (callWith_def hd (h pos R O F _ _ H fun vs h' tk' k' p H' => ⟨H'.fr _ _ (O _ _ ho), p R O vs rfl _ _ H' q⟩) (star_cons hs rest env)))
theorem okE_CallF0 (g : Good G) (E : GEnv env) {f : Str} {p pos : Pos} (hx : IsGlob env f) {a : Addr} {ps : List Str} {body : List Stmt} {scope : Scope} (hv : G.mg f = some (.ref a)) (hf : FnAt G.base a ps body scope)
    (h : OkK prog w G A k (.ref a) [] P) : OkE prog w G A env k m (eval (.Call (.Name f p) [] [] pos) env) P := fun R O F s Q H q => by
  refine cps fun qZ hZ => ?_
  obtain ⟨o, fd, ho, hd, _⟩ := hf.ex
  refine hZ ?_
  clear hZ qZ
  exact Call_Name rfl (glob_val g O E hx hv H (callWith_function (o := o) (fd := fd) (evalArgs_nil3 ⟨⟨H.fr _ _ (O _ _ ho), hd⟩, h R O [] rfl _ _ H q⟩)))
theorem okE_CallB (g : Good G) (E : GEnv env) {f : Str} {p pos : Pos} (hx : IsGlob env f) {id : String} (hm : G.mg f = none) (hv : G.mb f = some (.builtin id)) {e : PySem.Expr} (hs : notStar e = true)
    (h : OkE prog w G A env k m (eval e env) fun v k1 => OkK prog w G A k1 (.builtin id) [v] P) : OkE prog w G A env k m (eval (.Call (.Name f p) [e] [] pos) env) P := fun R O F s Q H q =>
  Call_Name rfl (glob_blt g O E hx hm hv H (callWith_builtin1 (wpAny_items_cons (h R O F _ _ H fun v h' tk' k' p H' => wpAny_items_nil (p R O [v] rfl _ _ H' q)) (star_cons hs [] env)) (star_cons hs [] env)))
theorem okE_CallT (g : Good G) (E : GEnv env) {f : Str} {p pos : Pos} (hx : IsGlob env f) {id : String} (hm : G.mg f = none) (hv : G.mb f = some (.type id)) {e : PySem.Expr} (hs : notStar e = true)
    (h : OkE prog w G A env k m (eval e env) fun v k1 => OkK prog w G A k1 (.type id) [v] P) : OkE prog w G A env k m (eval (.Call (.Name f p) [e] [] pos) env) P := fun R O F s Q H q =>
  Call_Name rfl (glob_blt g O E hx hm hv H (PyProof.Rows.callWith_type1 (wpAny_items_cons (h R O F _ _ H fun v h' tk' k' p H' => wpAny_items_nil (p R O [v] rfl _ _ H' q)) (star_cons hs [] env)) (star_cons hs [] env)))
/-- isinstance(e, T) -/
theorem okE_isinst (g : Good G) (E : GEnv env) {f T : Str} {p p' pos : Pos} (hx : IsGlob env f) (hx' : IsGlob env T) {tn : String} (hm : G.mg f = none) (hv : G.mb f = some (.builtin "isinstance")) (hm' : G.mg T = none) (hv' : G.mb T = some (.type tn)) {e : PySem.Expr} (hs : notStar e = true)
    (h : OkE prog w G A env k m (eval e env) fun v k1 => ∀ R va, ab va = v → OkV prog w A k1 R (call (.builtin "isinstance") [va, .type tn]) P) : OkE prog w G A env k m (eval (.Call (.Name f p) [e, .Name T p'] [] pos) env) P := fun R O F s Q H q =>
  Call_Name rfl (glob_blt g O E hx hm hv H (callWith_builtin1 (wpAny_items_cons (h R O F _ _ H fun v h' tk' k' p H' => wpAny_items_cons (glob_blt g O E hx' hm' hv' H' (wpAny_items_nil (p R v rfl _ _ H' q))) rfl) (star_cons hs _ env)) (star_cons hs _ env)))

/-! tests by a call -/
theorem okC_call {f : PySem.Expr} {args : List PySem.Expr} {pos : Pos} {P : Bool → KH → Prop} (h : OkE prog w G A env k m (eval (.Call f args [] pos) env) fun v k' => ∃ b, v = .bool b ∧ P b k') : OkC prog w G A env k m (isTrue (.Call f args [] pos) env (eval (.Call f args [] pos) env)) P := okC_val (by unfold PySem.isTrue; rfl) h
theorem okC_name {x : Str} {pos : Pos} {P : Bool → KH → Prop} (h : OkE prog w G A env k m (eval (.Name x pos) env) fun v k' => ∃ b, v = .bool b ∧ P b k') : OkC prog w G A env k m (isTrue (.Name x pos) env (eval (.Name x pos) env)) P := okC_val (by unfold PySem.isTrue; rfl) h
end

noncomputable def retOf : Fl → PV
  | .ret v => v
  | _ => .none
/-- what follows a statement -/
noncomputable def Seq (prog : Program) (w : World) (G : Glob') (A : Around) (env : Env) (rest : List Stmt) (P : Fl → Loc → KH → Prop) : Fl → Loc → KH → Prop
  | .next, m, k => OkX prog w G A env k m (execs rest env) P
  | fl, m, k => P fl m k

section
variable {prog : Program} {w : World} {G : Glob'} {A : Around} {k : KH} {m : Loc} {env : Env} {P : Fl → Loc → KH → Prop} {rest : List Stmt}

theorem seq_next (h : OkX prog w G A env k m (execs rest env) P) : Seq prog w G A env rest P .next m k := h
theorem seq_ret {v : PV} (h : P (.ret v) m k) : Seq prog w G A env rest P (.ret v) m k := h
theorem okX_seq {st : Stmt} (hF : Free G env) (h : OkX prog w G A env k m (exec st env) (Seq prog w G A env rest P)) : OkX prog w G A env k m (execs (st :: rest) env) P :=
  okX_cons hF (okX_mono h fun fl m' k' x => by cases fl <;> exact x)
theorem okX_sAssign {x : Str} {px pos : Pos} {e : PySem.Expr} (hF : Free G env) (he : notComp e = true) (hk : env.kindOf x = some .local ∨ env.kindOf x = some .cell)
    (h : OkE prog w G A env k m (eval e env) fun v k' => OkX prog w G A env k' (setL m x v) (execs rest env) P) : OkX prog w G A env k m (execs (.Assign [.Name x px] e pos :: rest) env) P := okX_seq hF (okX_Assign he hk h)
theorem okX_sExpr {e : PySem.Expr} {pos : Pos} (hF : Free G env) (he : notComp e = true) (hi : interactive env = false) (h : OkE prog w G A env k m (eval e env) fun _ k' => OkX prog w G A env k' m (execs rest env) P) : OkX prog w G A env k m (execs (.Expr e pos :: rest) env) P := okX_seq hF (okX_Expr he hi h)
theorem okX_sRet {e : PySem.Expr} {pos : Pos} (hF : Free G env) (h : OkE prog w G A env k m (eval e env) fun v k' => P (.ret v) m k') : OkX prog w G A env k m (execs (.Return (some e) pos :: rest) env) P := okX_seq hF (okX_Return h)
theorem okX_sRet0 {pos : Pos} (hF : Free G env) (h : P (.ret .none) m k) : OkX prog w G A env k m (execs (.Return none pos :: rest) env) P := okX_seq hF (okX_Return0 h)
theorem okX_sIf {test : PySem.Expr} {body orelse : List Stmt} {pos : Pos} (hF : Free G env)
    (h : OkC prog w G A env k m (isTrue test env (eval test env)) fun b k' => (b = true → OkX prog w G A env k' m (execs body env) (Seq prog w G A env rest P)) ∧ (b = false → OkX prog w G A env k' m (execs orelse env) (Seq prog w G A env rest P))) :
    OkX prog w G A env k m (execs (.If test body orelse pos :: rest) env) P := okX_seq hF (okX_If fun R O F => (h R O F).mono fun b k' x => by
      cases b with
      | true => rw [if_pos rfl]; exact x.1 rfl
      | false => rw [if_neg Bool.false_ne_true]; exact x.2 rfl)
theorem okX_sAttr {o e : PySem.Expr} {attr : Str} {px pos : Pos} (hF : Free G env) (he : notComp e = true)
    (h : OkE prog w G A env k m (eval e env) fun v k1 => OkE prog w G A env k1 m (eval o env) fun x k2 => ∀ R, Over G R → ∀ vx vv, ab vx = x → ab vv = v → OkU prog w A k2 R (setAttr vx attr vv) fun k' => OkX prog w G A env k' m (execs rest env) P) :
    OkX prog w G A env k m (execs (.Assign [.Attribute o attr px] e pos :: rest) env) P := okX_seq hF (okX_AssignAttr he h)
theorem okX_sIdx {o i e : PySem.Expr} {px pos : Pos} (hF : Free G env) (he : notComp e = true)
    (h : OkE prog w G A env k m (eval e env) fun v k1 => OkE prog w G A env k1 m (eval o env) fun x k2 => OkE prog w G A env k2 m (eval i env) fun y k3 => ∀ R, Over G R → ∀ vx vy vv, ab vx = x → ab vy = y → ab vv = v → OkU prog w A k3 R (setItem vx vy vv) fun k' => OkX prog w G A env k' m (execs rest env) P) :
    OkX prog w G A env k m (execs (.Assign [.Subscript o i px] e pos :: rest) env) P := okX_seq hF (okX_AssignIdx he h)
theorem okX_sAug {x : Str} {px pos : Pos} {e : PySem.Expr} {a : Int} (hF : Free G env) (hk : env.kindOf x = some .local ∨ env.kindOf x = some .cell) (hx : m x = some (.int a))
    (h : OkE prog w G A env k m (eval e env) fun v k' => ∃ b, v = .int b ∧ OkX prog w G A env k' (setL m x (.int (a + b))) (execs rest env) P) : OkX prog w G A env k m (execs (.AugAssign (.Name x px) .Add e pos :: rest) env) P := okX_seq hF (okX_Aug hk hx h)

/-! tests -/
theorem okC_andc {e : PySem.Expr} {r : List PySem.Expr} {P : Bool → KH → Prop} (h : OkC prog w G A env k m (isTrue e env (eval e env)) fun b k' => (b = true → OkC prog w G A env k' m (allTrue .And r env) P) ∧ (b = false → P false k')) : OkC prog w G A env k m (allTrue .And (e :: r) env) P :=
  okC_and_cons fun R O F => (h R O F).mono fun b k' x => by
    cases b with
    | true => rw [if_pos rfl]; exact x.1 rfl
    | false => rw [if_neg Bool.false_ne_true]; exact x.2 rfl
theorem okC_orc {e : PySem.Expr} {r : List PySem.Expr} {P : Bool → KH → Prop} (h : OkC prog w G A env k m (isTrue e env (eval e env)) fun b k' => (b = true → P true k') ∧ (b = false → OkC prog w G A env k' m (allTrue .Or r env) P)) : OkC prog w G A env k m (allTrue .Or (e :: r) env) P :=
  okC_or_cons fun R O F => (h R O F).mono fun b k' x => by
    cases b with
    | true => rw [if_pos rfl]; exact x.1 rfl
    | false => rw [if_neg Bool.false_ne_true]; exact x.2 rfl
theorem okE_IfE {c a b : PySem.Expr} {pos : Pos} {P : PV → KH → Prop} (h : OkC prog w G A env k m (isTrue c env (eval c env)) fun t k' => (t = true → OkE prog w G A env k' m (eval a env) P) ∧ (t = false → OkE prog w G A env k' m (eval b env) P)) : OkE prog w G A env k m (eval (.IfExp c a b pos) env) P :=
  okE_IfExp fun R O F => (h R O F).mono fun b k' x => by
    cases b with
    | true => rw [if_pos rfl]; exact x.1 rfl
    | false => rw [if_neg Bool.false_ne_true]; exact x.2 rfl

/-! loops -/
theorem okT_name {x : Str} {px : Pos} {body : List Stmt} (hF : Free G env) (hk : env.kindOf x = some .local ∨ env.kindOf x = some .cell) : OkT prog w G A env (.Name x px) body fun v m k C => OkX prog w G A env k (setL m x v) (execs body env) C := fun v m k C h rv ev R O F s Q H q => by
  subst ev
  refine wpAny_assign_Name (okS_store (P := fun _ m' k' => m' = setL m x (ab rv) ∧ k' = k) hk ⟨rfl, rfl⟩ F _ _ H fun _ h' tk' m' k' R' p H' F' e' => ?_)
  obtain ⟨rfl, rfl⟩ := p
  exact h R' (O.frame hF e') F' _ _ H' fun fl h2 tk2 m2 k2 R2 p2 H2 F2 e2 => q fl h2 tk2 m2 k2 R2 p2 H2 F2 fun a ha => (e2 a ha).trans (e' a ha)
theorem okT_three {x y z : Str} {px py pz pos : Pos} {n : Nat} {body : List Stmt} (hh : A.handled = none) (hF : Free G env) (hx : env.kindOf x = some .local ∨ env.kindOf x = some .cell) (hy : env.kindOf y = some .local ∨ env.kindOf y = some .cell) (hz : env.kindOf z = some .local ∨ env.kindOf z = some .cell) :
    OkT prog w G A env (.Tuple [.Name x px, .Name y py, .Name z pz] n pos) body fun v m k C => ∃ a v1 v2 v3, v = .ref a ∧ k a = some (.tup [v1, v2, v3]) ∧ OkX prog w G A env k (setL (setL (setL m x v1) y v2) z v3) (execs body env) C := fun v m k C h rv ev R O F s Q H q => by
  refine cps fun qZ hZ => ?_
  obtain ⟨a, v1, v2, v3, rfl, ha, h⟩ := h
  refine hZ ?_
  clear hZ qZ
  cases ab_ref ev
  obtain ⟨arr, ht, r⟩ := H.isTuple ha
  have hsz : arr.toList.length = 3 := by rw [← List.length_map (f := ab), r]; rfl
  obtain ⟨u1, u2, u3, eu⟩ : ∃ u1 u2 u3, arr.toList = [u1, u2, u3] := by
    match h' : arr.toList, hsz with
    | [a, b, c], _ => exact ⟨a, b, c, rfl⟩
  rw [eu] at r
  simp only [List.map_cons, List.map_nil, List.cons.injEq, and_true] at r
  obtain ⟨r1, r2, r3⟩ := r
  subst r1 r2 r3
  refine wpAny_assign_Tuple hh ht (by rw [← Array.length_toList, eu]; rfl) rfl fun h' hx' => ?_
  have H0 : Has prog w h' k R := H.keeps fun b o hb => hx' b o (Nat.ne_of_lt (Heap.lt_size hb)) hb
  rw [eu]
  show wpAny _ A (assignInOrder [assign (.Name x px) env, assign (.Name y py) env, assign (.Name z pz) env] [u1, u2, u3]) _ _ _
  refine wpAny_assignInOrder_more (wpAny_assign_Name (okS_store (P := fun _ m' k' => m' = setL m x (ab u1) ∧ k' = k) hx ⟨rfl, rfl⟩ F { s with heap := h' } _ H0 fun _ h1 tk1 m1 k1 R1 p1 H1 F1 e1 => ?_))
  obtain ⟨rfl, e⟩ := p1; subst e
  refine wpAny_assignInOrder_more (wpAny_assign_Name (okS_store (P := fun _ m' k' => m' = setL (setL m x (ab u1)) y (ab u2) ∧ k' = k1) hy ⟨rfl, rfl⟩ F1 _ _ H1 fun _ h2 tk2 m2 k2 R2 p2 H2 F2 e2 => ?_))
  obtain ⟨rfl, e⟩ := p2; subst e
  refine wpAny_assignInOrder_more (wpAny_assign_Name (okS_store (P := fun _ m' k' => m' = setL (setL (setL m x (ab u1)) y (ab u2)) z (ab u3) ∧ k' = k2) hz ⟨rfl, rfl⟩ F2 _ _ H2 fun _ h3 tk3 m3 k3 R3 p3 H3 F3 e3 => ?_))
  obtain ⟨rfl, e⟩ := p3; subst e
  refine wpAny_assignInOrder_none ?_
  exact h R3 (((O.frame hF e1).frame hF e2).frame hF e3) F3 _ _ H3 fun fl h4 tk4 m4 k4 R4 p4 H4 F4 e4 => q fl h4 tk4 m4 k4 R4 p4 H4 F4 fun a ha => (((e4 a ha).trans (e3 a ha)).trans (e2 a ha)).trans (e1 a ha)

/-- what the body hands on to the loop -/
noncomputable def LoopQ (J : List PV → Loc → KH → Prop) (P : Fl → Loc → KH → Prop) (its : List PV) : Fl → Loc → KH → Prop
  | .next, m, k => J its m k
  | .cont, m, k => J its m k
  | .brk, m, k => P .next m k
  | .ret r, m, k => P (.ret r) m k
theorem wpLoop_inv {st : KH → Prop} {B : PV → Loc → KH → (Fl → Loc → KH → Prop) → Prop} {J : List PV → Loc → KH → Prop} (hB : ∀ v m k C C', B v m k C → (∀ f m k, C f m k → C' f m k) → B v m k C') (hs : ∀ its m k, J its m k → st k) (hb : ∀ v its m k, J (v :: its) m k → B v m k (LoopQ J P its)) (he : ∀ m k, J [] m k → P .next m k) :
    ∀ its m k, J its m k → wpLoop st B P its m k
  | [], m, k, h => ⟨hs _ _ _ h, he _ _ h⟩
  | v :: its, m, k, h => ⟨hs _ _ _ h, hB _ _ _ _ _ (hb _ _ _ _ h) fun f m' k' x => by
    cases f with
    | next => exact wpLoop_inv hB hs hb he its m' k' x
    | cont => exact wpLoop_inv hB hs hb he its m' k' x
    | brk => exact x
    | ret r => exact x⟩
/-- for x in iter -/
theorem okX_sFor {x : Str} {px pos : Pos} {iter : PySem.Expr} {body : List Stmt} (J : List PV → Loc → KH → Prop) (hh : A.handled = none) (hF : Free G env) (hk : env.kindOf x = some .local ∨ env.kindOf x = some .cell) (hfold : ∀ x, foldedSetIterable iter env x = pure x)
    (h : OkE prog w G A env k m (eval iter env) fun v k1 => ∃ items st, Src prog w (fun _ => none) v items k1 st ∧ (∀ its m k, J its m k → st k) ∧ J items m k1)
    (hb : ∀ v its m k, J (v :: its) m k → OkX prog w G A env k (setL m x v) (execs body env) (LoopQ J (Seq prog w G A env rest P) its)) (he : ∀ m k, J [] m k → OkX prog w G A env k m (execs rest env) P) :
    OkX prog w G A env k m (execs (.For (.Name x px) iter body [] pos :: rest) env) P :=
  okX_seq hF (okX_For hh hF (okT_name hF hk) (.inl ⟨x, px, rfl⟩) hfold (okE_mono h fun v k1 ⟨items, st, S, h1, h2⟩ => ⟨items, st, S, wpLoop_inv (B := fun v m k C => OkX prog w G A env k (setL m x v) (execs body env) C) (fun v m k C C' a b => okX_mono a b) h1 hb he items m k1 h2⟩))
theorem okX_sFor3 {x y z : Str} {px py pz ptt pos : Pos} {n : Nat} {iter : PySem.Expr} {body : List Stmt} (J : List PV → Loc → KH → Prop) (hh : A.handled = none) (hF : Free G env) (hx : env.kindOf x = some .local ∨ env.kindOf x = some .cell) (hy : env.kindOf y = some .local ∨ env.kindOf y = some .cell) (hz : env.kindOf z = some .local ∨ env.kindOf z = some .cell) (hfold : ∀ x, foldedSetIterable iter env x = pure x)
    (h : OkE prog w G A env k m (eval iter env) fun v k1 => ∃ items st, Src prog w (fun _ => none) v items k1 st ∧ (∀ its m k, J its m k → st k) ∧ J items m k1)
    (hb : ∀ v its m k, J (v :: its) m k → ∃ a v1 v2 v3, v = .ref a ∧ k a = some (.tup [v1, v2, v3]) ∧ OkX prog w G A env k (setL (setL (setL m x v1) y v2) z v3) (execs body env) (LoopQ J (Seq prog w G A env rest P) its)) (he : ∀ m k, J [] m k → OkX prog w G A env k m (execs rest env) P) :
    OkX prog w G A env k m (execs (.For (.Tuple [.Name x px, .Name y py, .Name z pz] n ptt) iter body [] pos :: rest) env) P :=
  okX_seq hF (okX_For hh hF (okT_three hh hF hx hy hz) (.inr ⟨_, _, _, rfl⟩) hfold (okE_mono h fun v k1 ⟨items, st, S, h1, h2⟩ => ⟨items, st, S, wpLoop_inv (fun v m k C C' ⟨a, v1, v2, v3, e1, e2, a3⟩ b => ⟨a, v1, v2, v3, e1, e2, okX_mono a3 b⟩) h1 hb he items m k1 h2⟩))

/-! comprehensions -/
/-- one turn, no test -/
noncomputable def TurnE (prog : Program) (w : World) (G : Glob') (A : Around) (env : Env) (scope : Scope) (elt : PySem.Expr) (x : Str) (mc : Loc) (v : PV) (k : KH) (C : Option PV → KH → Prop) : Prop :=
  ∀ cenv : Env, cenv.scope = relabel scope env → GEnv cenv → OkE prog w G A cenv k (setL mc x v) (eval elt cenv) fun y k' => C (some y) k'
theorem okGs_e {scope : Scope} {x : Str} {elt : PySem.Expr} {mc : Loc} : OkGs prog w G A env scope x [] elt mc (TurnE prog w G A env scope elt x mc) := fun cenv hs hE v k C h R O F s Q H q => by
  refine wpAny_pure ?_
  rw [if_pos rfl]
  exact h cenv hs hE R O F _ _ H fun va h' tk' k' p H' => q (some va) h' tk' k' p H'
/-- one turn, one test -/
noncomputable def TurnT (prog : Program) (w : World) (G : Glob') (A : Around) (env : Env) (scope : Scope) (elt c : PySem.Expr) (x : Str) (mc : Loc) (v : PV) (k : KH) (C : Option PV → KH → Prop) : Prop :=
  ∀ cenv : Env, cenv.scope = relabel scope env → GEnv cenv → OkC prog w G A cenv k (setL mc x v) (isTrue c cenv (eval c cenv)) fun b k' => (b = true → OkE prog w G A cenv k' (setL mc x v) (eval elt cenv) fun y k2 => C (some y) k2) ∧ (b = false → C none k')
theorem okGs_t {scope : Scope} {x : Str} {elt c : PySem.Expr} {mc : Loc} : OkGs prog w G A env scope x [c] elt mc (TurnT prog w G A env scope elt c x mc) := fun cenv hs hE v k C h R O F s Q H q => by
  unfold testsOf
  rw [List.forIn_cons, if_pos rfl]
  refine wpAny_bind (wpAny_bind (h cenv hs hE R O F _ _ H fun b h' tk' k' p H' => wpAny_pure (wpAny_pure ?_)))
  cases b with
  | true => rw [if_pos rfl]; exact p.1 rfl R O F _ _ H' fun va h2 tk2 k2 p2 H2 => q (some va) h2 tk2 k2 p2 H2
  | false => rw [if_neg Bool.false_ne_true]; exact q none h' tk' k' (p.2 rfl) H'
theorem wpComp_inv {st : KH → Prop} {B : PV → KH → (Option PV → KH → Prop) → Prop} {Fin : List PV → KH → Prop} {J : List PV → List PV → KH → Prop} (hB : ∀ v k C C', B v k C → (∀ o k, C o k → C' o k) → B v k C') (hs : ∀ its acc k, J its acc k → st k ∧ acc.length ≤ sizeLine)
    (hb : ∀ v its acc k, J (v :: its) acc k → B v k fun o k' => J its (acc ++ o.toList) k') (he : ∀ acc k, J [] acc k → Fin acc k) : ∀ its acc k, J its acc k → wpComp st B Fin its acc k
  | [], acc, k, h => ⟨(hs _ _ _ h).1, he _ _ h⟩
  | v :: its, acc, k, h => ⟨(hs _ _ _ h).1, (hs _ _ _ h).2, hB _ _ _ _ (hb _ _ _ _ h) fun o k' x => by
    cases o with
    | some y => exact wpComp_inv hB hs hb he its _ k' x
    | none => exact wpComp_inv hB hs hb he its _ k' (by simpa using x)⟩
theorem turnE_mono {scope : Scope} {elt : PySem.Expr} {x : Str} {mc : Loc} {v : PV} {C C' : Option PV → KH → Prop} (h : TurnE prog w G A env scope elt x mc v k C) (s : ∀ o k, C o k → C' o k) : TurnE prog w G A env scope elt x mc v k C' := fun cenv a b => okE_mono (h cenv a b) fun _ _ => s _ _
theorem turnT_mono {scope : Scope} {elt c : PySem.Expr} {x : Str} {mc : Loc} {v : PV} {C C' : Option PV → KH → Prop} (h : TurnT prog w G A env scope elt c x mc v k C) (s : ∀ o k, C o k → C' o k) : TurnT prog w G A env scope elt c x mc v k C' := fun cenv a b R O F => (h cenv a b R O F).mono fun t k' y => ⟨fun e => okE_mono (y.1 e) fun _ _ => s _ _, fun e => s _ _ (y.2 e)⟩
end

/-! a def, as a contract -/
section
variable {prog : Program} {w : World} {G : Glob'} {A : Around} {k : KH}
theorem okK_fn {d : Nat} {a : Addr} {ps : List Str} {body : List Stmt} {scope : Scope} {vs : List PV} {P : PV → KH → Prop} (g : Good G) (hR : Room A (d + 1)) (hf : FnAt G.base a ps body scope) (hs : scopeOk scope ps = true) (hl : vs.length = ps.length)
    (h : ∀ env A', env.scope = scope → GEnv env → Free G env → Room A' d → OkX prog w G A' env k (bindLoc ps vs fun _ => none) (execs body env) fun fl _ k' => ∃ k'', Frzs k' k'' ∧ P (retOf fl) k'') : OkK prog w G A k (.ref a) vs P := fun R O vas ev => by
  subst ev
  exact ok_call g O hR hf hs (by simpa using hl) fun env A' a b c e => okX_mono (h env A' a b c e) fun fl m k' ⟨k2, x, y⟩ => ⟨k2, x, by cases fl <;> exact y⟩
theorem okK_fn0 {d : Nat} {a : Addr} {ps : List Str} {body : List Stmt} {scope : Scope} {vs : List PV} {P : PV → KH → Prop} (g : Good G) (hR : Room A (d + 1)) (hf : FnAt G.base a ps body scope) (hs : scopeOk scope ps = true) (hl : vs.length = ps.length)
    (h : ∀ env A', env.scope = scope → GEnv env → Free G env → Room A' d → OkX prog w G A' env k (bindLoc ps vs fun _ => none) (execs body env) fun fl _ k' => P (retOf fl) k') : OkK prog w G A k (.ref a) vs P :=
  okK_fn g hR hf hs hl fun env A' a b c e => okX_mono (h env A' a b c e) fun fl m k' y => ⟨k', Frzs.refl, y⟩
theorem okK_mono {cv : Value} {vs : List PV} {P P' : PV → KH → Prop} (h : OkK prog w G A k cv vs P) (s : ∀ v k', P v k' → P' v k') : OkK prog w G A k cv vs P' := fun R O vas e => (h R O vas e).mono s
end

structure FnG (G : Glob') (f : Str) (ps : List Str) (body : List Stmt) (scope : Scope) : Prop where
  ex : ∃ a, G.mg f = some (.ref a) ∧ FnAt G.base a ps body scope

structure ClsG (G : Glob') (n : Nat) (c : Str) (C : Addr) : Prop where
  at_ : G.mg c = some (.ref C)
  plain : PlainCls G.K C
  makes : makesIn G.K C = true
  own : ∀ f ∈ fieldNames, findIn G.K (.ref C) f = some none
  keep : keepIn G.K (.ref C) = true
  init : ∃ fI, findIn G.K (.ref C) "__init__" = some (some (.ref fI)) ∧ typeIn G.K (.ref fI) = some (.type "function") ∧ FnAt G.base fI (iPs n) (iBody n) (iScope n)

structure Prg (G : Glob') : Prop where
  good : Good G
  fn : ∀ n f, nameN n = some f → FnG G f (psN n) (bodyN n) (scopeN n)
  cls : ∀ n c, clsN n = some c → ∃ C, ClsG G n c C
  i0 : ∃ t, G.mg "INTEGER" = some (.int 0 t)
  i1 : ∃ t, G.mg "REAL" = some (.int 1 t)
  i4 : ∃ t, G.mg "LOGICAL" = some (.int 4 t)
  i5 : ∃ t, G.mg "CHARACTER" = some (.int 5 t)
  sets : ∃ a o arr n, G.mg "CONTROL_SETS" = some (.ref a) ∧ G.base a = some o ∧ o.cls = .type "tuple" ∧ o.data = .seq arr n ∧
    StrsAre arr.toList ["IOSTAT", "EXIST", "OPENED", "NUMBER", "NAMED", "NAME", "ACCESS", "SEQUENTIAL", "DIRECT", "FORM", "FORMATTED", "UNFORMATTED", "RECL", "NEXTREC", "BLANK"]
  words : ∃ a o arr n, G.mg "LABEL_WORDS" = some (.ref a) ∧ G.base a = some o ∧ o.cls = .type "tuple" ∧ o.data = .seq arr n ∧ StrsAre arr.toList ["END", "ERR"]
  len : G.mg "len" = none ∧ G.mb "len" = some (.builtin "len")
  srt : G.mg "sorted" = none ∧ G.mb "sorted" = some (.builtin "sorted")
  isi : G.mg "isinstance" = none ∧ G.mb "isinstance" = some (.builtin "isinstance")
  rng : G.mg "range" = none ∧ G.mb "range" = some (.type "range")
  lst : G.mg "list" = none ∧ G.mb "list" = some (.type "list")
  tup : G.mg "tuple" = none ∧ G.mb "tuple" = some (.type "tuple")
  int : G.mg "int" = none ∧ G.mb "int" = some (.type "int")

theorem Prg.def {G : Glob'} (g : Prg G) {f : Str} (h : isDef f = true) : ∃ n, FnG G f (psN n) (bodyN n) (scopeN n) := by
  obtain ⟨n, _, hn⟩ := List.any_eq_true.mp h
  exact ⟨n, g.fn n f (of_decide_eq_true hn)⟩

/-- an environment whose global names are known -/
structure EnvG (env : Env) (sc : Scope) : Prop where
  e : GEnv env
  gl : ∀ x, globOk sc x = true → IsGlob env x
theorem relabel_plain {scope : Scope} {env : Env} {x : Str} {k : NameKind} (hk : k ≠ .free) (h : scope.names.lookup x = some k) : (relabel scope env).names.lookup x = some k := by
  have gen : ∀ (names : List (Str × NameKind)), names.lookup x = some k → (names.map fun (n, k) => if (k == NameKind.free && env.scope.kind == .function && env.kindOf n == some .cell) then (n, NameKind.cell) else (n, k)).lookup x = some k := by
    intro names
    induction names with
    | nil => intro h; cases h
    | cons p r ih =>
      obtain ⟨n, q⟩ := p
      intro h
      rw [List.lookup_cons] at h
      rw [List.map_cons]
      show List.lookup x ((if (q == NameKind.free && env.scope.kind == .function && env.kindOf n == some .cell) = true then (n, NameKind.cell) else (n, q)) :: _) = _
      by_cases hx : (x == n) = true
      · simp only [hx] at h
        cases h
        have : (k == NameKind.free) = false := beq_eq_false_iff_ne.mpr hk
        rw [if_neg (by rw [this]; simp), List.lookup_cons, hx]
      · have hx' : (x == n) = false := by simpa using hx
        simp only [hx'] at h
        split
        · rw [List.lookup_cons, hx']; exact ih h
        · rw [List.lookup_cons, hx']; exact ih h
  exact gen _ h
theorem envG_of {env : Env} {sc : Scope} (hs : env.scope = sc) (hE : GEnv env) : EnvG env sc := ⟨hE, fun _ h => glob_of hs h⟩
theorem envG_rel {env cenv : Env} {sc : Scope} (hs : cenv.scope = relabel sc env) (hE : GEnv cenv) : EnvG cenv sc := ⟨hE, fun x h => by
  simp only [globOk, Bool.and_eq_true, decide_eq_true_eq, Bool.not_eq_true'] at h
  exact ⟨by rw [hs]; exact h.1.1, by unfold Env.kindOf; rw [hs]; exact relabel_plain (by simp) h.1.2, h.2⟩⟩

structure EnvOk (G : Glob') (env : Env) (A : Around) (sc : Scope) (d : Nat) : Prop where
  s : env.scope = sc
  e : GEnv env
  f : Free G env
  r : Room A d
  i : interactive env = false
theorem EnvOk.g {G env A sc d} (V : EnvOk G env A sc d) : EnvG env sc := envG_of V.s V.e

section
variable (prog : Program) (w : World) (G : Glob')
noncomputable def OkF (A : Around) (k : KH) (f : Str) (vs : List PV) (P : PV → KH → Prop) : Prop := ∀ a, G.mg f = some (.ref a) → OkK prog w G A k (.ref a) vs P
end

section
variable {prog : Program} {w : World} {G : Glob'} {A : Around} {k : KH} {m : Loc} {env : Env} {P : PV → KH → Prop} {sc : Scope}

theorem okF_mono {f : Str} {vs : List PV} {P' : PV → KH → Prop} (h : OkF prog w G A k f vs P) (s : ∀ v k', P v k' → P' v k') : OkF prog w G A k f vs P' := fun a ha => okK_mono (h a ha) s

theorem okF_fn {d n : Nat} {f : Str} {vs : List PV} (g : Prg G) (hn : nameN n = some f) (hR : Room A (d + 1)) (hs : scopeOk (scopeN n) (psN n) = true) (hl : vs.length = (psN n).length)
    (h : ∀ env A', EnvOk G env A' (scopeN n) d → OkX prog w G A' env k (bindLoc (psN n) vs fun _ => none) (execs (bodyN n) env) fun fl _ k' => P (retOf fl) k') : OkF prog w G A k f vs P := fun a ha => by
  obtain ⟨a', ha', hf⟩ := (g.fn n f hn).ex
  rw [ha] at ha'; cases ha'
  refine okK_fn0 g.good hR hf hs hl fun env A' e1 e2 e3 e4 => h env A' ⟨e1, e2, e3, e4, ?_⟩
  unfold interactive
  simp only [scopeOk, Bool.and_eq_true, decide_eq_true_eq] at hs
  rw [e1, hs.1.2]; rfl

theorem okE_CF (g : Prg G) (V : EnvG env sc) {f : Str} {p pos : Pos} (hx : globOk sc f = true) (hf : isDef f = true) {e : PySem.Expr} {rest : List PySem.Expr} (hs : notStar e = true)
    (h : OkEs prog w G A env k m (e :: rest) fun vs k1 => OkF prog w G A k1 f vs P) : OkE prog w G A env k m (eval (.Call (.Name f p) (e :: rest) [] pos) env) P := by
  refine cps fun qZ hZ => ?_
  obtain ⟨n, ⟨a, ha, hf⟩⟩ := g.def hf
  refine hZ ?_
  clear hZ qZ
  exact okE_CallF g.good V.e (V.gl f hx) ha hf hs fun pos R O F => (h pos R O F).mono fun vs k1 h1 => h1 a ha
theorem okE_CF0 (g : Prg G) (V : EnvG env sc) {f : Str} {p pos : Pos} (hx : globOk sc f = true) (hf : isDef f = true)
    (h : OkF prog w G A k f [] P) : OkE prog w G A env k m (eval (.Call (.Name f p) [] [] pos) env) P := by
  refine cps fun qZ hZ => ?_
  obtain ⟨n, ⟨a, ha, hf⟩⟩ := g.def hf
  refine hZ ?_
  clear hZ qZ
  exact okE_CallF0 g.good V.e (V.gl f hx) ha hf (h a ha)

/-! global names -/
theorem okE_g0 (g : Prg G) (V : EnvG env sc) {pos : Pos} (hx : globOk sc "INTEGER" = true) (h : P (.int 0) k) : OkE prog w G A env k m (eval (.Name "INTEGER" pos) env) P := let ⟨_, ht⟩ := g.i0; okE_gint g.good V.e (V.gl _ hx) ht h
theorem okE_g1 (g : Prg G) (V : EnvG env sc) {pos : Pos} (hx : globOk sc "REAL" = true) (h : P (.int 1) k) : OkE prog w G A env k m (eval (.Name "REAL" pos) env) P := let ⟨_, ht⟩ := g.i1; okE_gint g.good V.e (V.gl _ hx) ht h
theorem okE_g4 (g : Prg G) (V : EnvG env sc) {pos : Pos} (hx : globOk sc "LOGICAL" = true) (h : P (.int 4) k) : OkE prog w G A env k m (eval (.Name "LOGICAL" pos) env) P := let ⟨_, ht⟩ := g.i4; okE_gint g.good V.e (V.gl _ hx) ht h
theorem okE_g5 (g : Prg G) (V : EnvG env sc) {pos : Pos} (hx : globOk sc "CHARACTER" = true) (h : P (.int 5) k) : OkE prog w G A env k m (eval (.Name "CHARACTER" pos) env) P := let ⟨_, ht⟩ := g.i5; okE_gint g.good V.e (V.gl _ hx) ht h

/-! built-ins -/
theorem okE_len (g : Prg G) (V : EnvG env sc) {p pos : Pos} (hx : globOk sc "len" = true) {e : PySem.Expr} (hs : notStar e = true)
    (h : OkE prog w G A env k m (eval e env) fun v k1 => ∃ a l po, v = .ref a ∧ k1 a = some po ∧ IsListPO po l ∧ l.length ≤ sizeLine ∧ P (.int l.length) k1) : OkE prog w G A env k m (eval (.Call (.Name "len" p) [e] [] pos) env) P :=
  okE_CallB g.good V.e (V.gl _ hx) g.len.1 g.len.2 hs (okE_mono h fun v k1 ⟨a, l, po, e1, e2, e3, e4, e5⟩ => fun R O vas ev => by
    match vas, ev with
    | [va], ev =>
      rw [List.map_cons, List.map_nil, List.cons.injEq] at ev
      exact ok_len e2 e3 e4 (ev.1.trans e1) e5)
theorem okE_range (g : Prg G) (V : EnvG env sc) {p pos : Pos} (hx : globOk sc "range" = true) {e : PySem.Expr} (hs : notStar e = true)
    (h : OkE prog w G A env k m (eval e env) fun v k1 => ∃ n, v = .int n ∧ ∀ c k', New k1 c (.range n) k' → P (.ref c) k') : OkE prog w G A env k m (eval (.Call (.Name "range" p) [e] [] pos) env) P :=
  okE_CallT g.good V.e (V.gl _ hx) g.rng.1 g.rng.2 hs (okE_mono h fun v k1 ⟨n, e1, e2⟩ => fun R O vas ev => by
    match vas, ev with
    | [va], ev =>
      rw [List.map_cons, List.map_nil, List.cons.injEq] at ev
      exact ok_range (ev.1.trans e1) e2)
theorem okE_listI (g : Prg G) (V : EnvG env sc) (hh : A.handled = none) {p pos : Pos} (hx : globOk sc "list" = true) {e : PySem.Expr} (hs : notStar e = true)
    (h : OkE prog w G A env k m (eval e env) fun v k1 => ∃ d fz es, v = .ref d ∧ k1 d = some (.dictI fz es) ∧ es.length ≤ sizeLine ∧ ∃ p, IsListPO p ((es.map (·.1)).map .int) ∧ ∀ c k', New k1 c p k' → P (.ref c) k') : OkE prog w G A env k m (eval (.Call (.Name "list" p) [e] [] pos) env) P :=
  okE_CallT g.good V.e (V.gl _ hx) g.lst.1 g.lst.2 hs (okE_mono h fun v k1 ⟨d, fz, es, e1, e2, e3, e4⟩ => fun R O vas ev => by
    match vas, ev with
    | [va], ev =>
      rw [List.map_cons, List.map_nil, List.cons.injEq] at ev
      exact ok_listI hh (sys_some g.good O) e2 e3 (ev.1.trans e1) e4)
theorem okE_sortedI (g : Prg G) (V : EnvG env sc) {p pos : Pos} (hx : globOk sc "sorted" = true) {e : PySem.Expr} (hs : notStar e = true)
    (h : OkE prog w G A env k m (eval e env) fun v k1 => ∃ a fz ns, v = .ref a ∧ k1 a = some (.list fz (ns.map .int)) ∧ ns.length < 64 ∧ ∀ ns' : List Int, ns'.Perm ns → ns'.Pairwise (· ≤ ·) → ∃ p, IsListPO p (ns'.map .int) ∧ ∀ c k', New k1 c p k' → P (.ref c) k') :
    OkE prog w G A env k m (eval (.Call (.Name "sorted" p) [e] [] pos) env) P :=
  okE_CallB g.good V.e (V.gl _ hx) g.srt.1 g.srt.2 hs (okE_mono h fun v k1 ⟨a, fz, ns, e1, e2, e3, e4⟩ => fun R O vas ev => by
    match vas, ev with
    | [va], ev =>
      rw [List.map_cons, List.map_nil, List.cons.injEq] at ev
      exact ok_sortedI e2 e3 (ev.1.trans e1) e4)
theorem okE_sortedS (g : Prg G) (V : EnvG env sc) (hh : A.handled = none) {p pos : Pos} (hx : globOk sc "sorted" = true) {e : PySem.Expr} (hs : notStar e = true)
    (h : OkE prog w G A env k m (eval e env) fun v k1 => ∃ d fz es, v = .ref d ∧ k1 d = some (.dictS fz es) ∧ es.length < 64 ∧ ∀ ns' : List Str, ns'.Perm (es.map (·.1)) → sortedS ns' = true → ∃ p, IsListPO p (ns'.map .str) ∧ ∀ c k', New k1 c p k' → P (.ref c) k') :
    OkE prog w G A env k m (eval (.Call (.Name "sorted" p) [e] [] pos) env) P :=
  okE_CallB g.good V.e (V.gl _ hx) g.srt.1 g.srt.2 hs (okE_mono h fun v k1 ⟨a, fz, ns, e1, e2, e3, e4⟩ => fun R O vas ev => by
    match vas, ev with
    | [va], ev =>
      rw [List.map_cons, List.map_nil, List.cons.injEq] at ev
      exact ok_sortedS hh (sys_some g.good O) e2 e3 (ev.1.trans e1) e4)
noncomputable def TupB (k : KH) (v : PV) (b : Bool) : Prop := (b = true ∧ ∃ a l, v = .ref a ∧ k a = some (.tup l)) ∨ (b = false ∧ (v = .none ∨ (∃ i, v = .int i) ∨ (∃ x, v = .str x) ∨ ∃ a fz l, v = .ref a ∧ k a = some (.list fz l)))
noncomputable def IntB (k : KH) (v : PV) (b : Bool) : Prop := (b = true ∧ ∃ i, v = .int i) ∨ (b = false ∧ (v = .none ∨ (∃ x, v = .str x) ∨ ∃ a l, v = .ref a ∧ k a = some (.tup l)))
theorem okE_isT (g : Prg G) (V : EnvG env sc) {p p' pos : Pos} (hx : globOk sc "isinstance" = true) (hx' : globOk sc "tuple" = true) {e : PySem.Expr} (hs : notStar e = true)
    (h : OkE prog w G A env k m (eval e env) fun v k1 => ∃ b, TupB k1 v b ∧ P (.bool b) k1) : OkE prog w G A env k m (eval (.Call (.Name "isinstance" p) [e, .Name "tuple" p'] [] pos) env) P :=
  okE_isinst g.good V.e (V.gl _ hx) (V.gl _ hx') g.isi.1 g.isi.2 g.tup.1 g.tup.2 hs (okE_mono h fun v k1 ⟨b, e1, e2⟩ => fun R va ev => ok_isTup ev e1 e2)
theorem okE_isI (g : Prg G) (V : EnvG env sc) {p p' pos : Pos} (hx : globOk sc "isinstance" = true) (hx' : globOk sc "int" = true) {e : PySem.Expr} (hs : notStar e = true)
    (h : OkE prog w G A env k m (eval e env) fun v k1 => ∃ b, IntB k1 v b ∧ P (.bool b) k1) : OkE prog w G A env k m (eval (.Call (.Name "isinstance" p) [e, .Name "int" p'] [] pos) env) P :=
  okE_isinst g.good V.e (V.gl _ hx) (V.gl _ hx') g.isi.1 g.isi.2 g.int.1 g.int.2 hs (okE_mono h fun v k1 ⟨b, e1, e2⟩ => fun R va ev => ok_isInt ev e1 e2)

/-! minus -/
theorem okE_neg {e : PySem.Expr} {pos : Pos} (h : OkE prog w G A env k m (eval e env) fun v k1 => ∃ i, v = .int i ∧ P (.int (-i)) k1) : OkE prog w G A env k m (eval (.UnaryOp .USub e pos) env) P := fun R O F s Q H q =>
  UnaryOp_ (h R O F _ _ H fun v h' tk' k' p H' => by
    obtain ⟨i, ev, p⟩ := p
    obtain ⟨t, rfl⟩ := ab_int ev
    exact PyProof.Rows.neg_int (q _ _ _ _ p H'))

/-! attributes -/
theorem okE_Attr (g : Prg G) {value : PySem.Expr} {attr : Str} {pos : Pos} (hv : notCall value = true)
    (he : eval (.Attribute value attr pos) env = (do
      let o ← eval value env
      standAt pos.atName
      let r ← holding [o] (getAttr o attr true)
      letTemporaryGo value o r
      pure r))
    (h : OkE prog w G A env k m (eval value env) fun v k1 => ∃ x C dx fz es u n c, v = .ref x ∧ k1 x = some (.inst C dx) ∧ ClsG G n c C ∧ k1 dx = some (.dictS fz es) ∧ attr ∈ fieldNames ∧ es.lookup attr = some u ∧ u ≠ .other ∧ P u k1) :
    OkE prog w G A env k m (eval (.Attribute value attr pos) env) P := fun R O F s Q H q =>
  Attribute_any_ (h R O F _ _ H fun v h' tk' k' p H' => by
    refine cps fun qZ hZ => ?_
    obtain ⟨x, C, dx, fz, es, u, n, c, ev, hx, hC, hd, hf, hl, hu, p⟩ := p
    refine hZ ?_
    clear hZ qZ
    exact ok_getAttr (K := G.K) (fun a o e => O _ _ (g.good.kin a o e)) hC.plain (hC.own _ hf) hx hd hl hu ev p _ _ H' q) he
theorem okU_setAttr (g : Prg G) {R : RH} (O : Over G R) {x C dx : Addr} {es : List (Str × PV)} {name : Str} {vx vv : Value} {v : PV} {P : KH → Prop} {n : Nat} {c : Str} (hC : ClsG G n c C) (hn : name ∈ fieldNames)
    (hx : k x = some (.inst C dx)) (hd : k dx = some (.dictS false es)) (hz : es.length < 900) (ea : ab vx = .ref x) (ev : ab vv = v) (h : ∀ k', Upd k dx (.dictS false (putP es name v)) k' → P k') : OkU prog w A k R (setAttr vx name vv) P :=
  ok_setAttr (K := G.K) (fun a o e => O _ _ (g.good.kin a o e)) hC.plain (hC.own _ hn) hx hd hz ea ev h

/-! a class, called -/
theorem kin_of (g : Prg G) {h : Heap} {k : KH} {R : RH} (O : Over G R) (H : Has prog w h k R) : G.K.In h := fun a o e => H.fr a o (O _ _ (g.good.kin a o e))
noncomputable def InitOk (prog : Program) (w : World) (G : Glob') (k : KH) (n d : Nat) (c : Str) (vs : List PV) (P : PV → KH → Prop) : Prop :=
  vs.length + 1 = (iPs n).length ∧ ∀ C x dx k2 k3, ClsG G n c C → New k dx (.dictS false []) k2 → New k2 x (.inst C dx) k3 →
      ∀ env' A', EnvOk G env' A' (iScope n) d → OkX prog w G A' env' k3 (bindLoc (iPs n) (.ref x :: vs) fun _ => none) (execs (iBody n) env') fun fl _ k' => retOf fl = .none ∧ P (.ref x) k'
theorem ok_make (g : Prg G) {R : RH} (O : Over G R) {d n : Nat} {c : Str} {C : Addr} (hC : ClsG G n c C) (hR : Room A (d + 2)) (hsc : scopeOk (iScope n) (iPs n) = true) {vas : List Value} (h : InitOk prog w G k n d c (vas.map ab) P) : OkV prog w A k R (call (.ref C) vas) P := fun s Q H q => by
  refine cps fun qZ hZ => ?_
  obtain ⟨fI, hi, ht, hf⟩ := hC.init
  refine hZ ?_
  clear hZ qZ
  obtain ⟨hlen, hb⟩ := h
  refine wpAny_call ?_
  refine cps fun qZ hZ => ?_
  obtain ⟨hh, gg, dd, tt, os⟩ := s
  refine hZ ?_
  clear hZ qZ
  refine make_core (makes_of (kin_of g O H) hC.makes) (looks_findIn (kin_of g O H) hi) (fun self => bind_fn (kin_of g O H) self ht) (.inl rfl) ?_
  have H2 : Has prog w (hh.push emptyDict) (upd k hh.objs.size (.dictS false [])) R := H.new (o := emptyDict) (p := .dictS false []) ⟨[], isDictOf_empty _, rfl⟩
  have N2 : New k hh.objs.size (.dictS false []) _ := New.mk' H.size_none
  have H3 := H2.new (o := instObj C hh.objs.size) (p := .inst C hh.objs.size) rfl
  have N3 : New _ (hh.push emptyDict).objs.size (.inst C hh.objs.size) _ := New.mk' H2.size_none
  have hsz : (hh.push emptyDict).objs.size = hh.objs.size + 1 := Heap.size_push _ _
  rw [hsz] at H3 N3
  have hR' : Room (A.under (.builtin "type.__call__" ⟨.ref C :: vas, []⟩)) (d + 1) := ⟨hR.handled, by
    have := hR.depth; rw [depth_under_make]; (first | lia | omega), by have := hR.units; rw [units_under_make]; (first | lia | omega)⟩
  refine ok_code (vs := .ref (hh.objs.size + 1) :: vas) (P := fun v k' => v = .none ∧ P (.ref (hh.objs.size + 1)) k') g.good O hR' hf hsc (by simpa using hlen) (fun env' A' e1 e2 e3 e4 => ?_) H3 (fun rv h' tk' k' p H' => ?_)
  · refine okX_mono (hb C _ _ _ _ hC N2 N3 env' A' ⟨e1, e2, e3, e4, ?_⟩) fun fl m' k' p => ⟨k', Frzs.refl, ?_⟩
    · unfold interactive
      simp only [scopeOk, Bool.and_eq_true, decide_eq_true_eq] at hsc
      rw [e1, hsc.1.2]; rfl
    · cases fl <;> exact p
  · refine ⟨ab_none p.1, ?_⟩
    exact q (.ref (hh.objs.size + 1)) h' tk' k' p.2 H'
theorem okE_cls0 (g : Prg G) (V : EnvG env sc) {d n : Nat} {c : Str} {p pos : Pos} (hx : globOk sc c = true) (hc : clsN n = some c) (hR : Room A (d + 2)) (hsc : scopeOk (iScope n) (iPs n) = true)
    (h : InitOk prog w G k n d c [] P) : OkE prog w G A env k m (eval (.Call (.Name c p) [] [] pos) env) P := fun R O F s Q H q => by
  obtain ⟨C, hC⟩ := g.cls n c hc
  exact Call_Name rfl (glob_val g.good O V.e (V.gl c hx) hC.at_ H (callWith_K0 (kin_of g O H) hC.keep (ok_make g O hC hR hsc h _ _ H q)))
theorem okE_cls (g : Prg G) (V : EnvG env sc) {d n : Nat} {c : Str} {p pos : Pos} (hx : globOk sc c = true) (hc : clsN n = some c) (hR : Room A (d + 2)) (hsc : scopeOk (iScope n) (iPs n) = true) {e : PySem.Expr} {rest : List PySem.Expr} (hst : notStar e = true) (hpl : (backTo pos (starEach rest env)).any (·.1) = false)
    (h : OkEs prog w G A env k m (e :: rest) fun vs k1 => InitOk prog w G k1 n d c vs P) : OkE prog w G A env k m (eval (.Call (.Name c p) (e :: rest) [] pos) env) P := fun R O F s Q H q => by
  obtain ⟨C, hC⟩ := g.cls n c hc
  exact Call_Name rfl (glob_val g.good O V.e (V.gl c hx) hC.at_ H (callWith_K (kin_of g O H) hC.keep ((h pos R O F) _ _ H fun vas h' tk' k' p H' => ⟨kin_of g O H', ok_make g O hC hR hsc p _ _ H' q⟩) (star_cons hst rest env) hpl))
end

section
variable {prog : Program} {w : World} {G : Glob'} {A : Around} {k : KH} {m : Loc} {env : Env} {P : PV → KH → Prop} {sc : Scope}

/-! a dict display with texts as keys -/
noncomputable def OkDs (prog : Program) (w : World) (G : Glob') (A : Around) (env : Env) (k : KH) (m : Loc) : List (Str × PySem.Expr) → (List (Str × PV) → KH → Prop) → Prop
  | [], P => P [] k
  | (x, e) :: r, P => OkE prog w G A env k m (eval e env) fun v k1 => OkDs prog w G A env k1 m r fun es k2 => P ((x, v) :: es) k2
noncomputable def keyOf : Option PySem.Expr → Option Str
  | some (.Constant (.str x) _ _) => some x
  | _ => none
theorem merged_new {K : Type} [DecidableEq K] : ∀ (more kvs : List (K × Value)), ((kvs ++ more).map (·.1)).Nodup → merged kvs more = kvs ++ more
  | [], kvs, _ => by simp [merged]
  | (x, v) :: r, kvs, h => by
    have hx : kvs.any (fun p => p.1 = x) = false := by
      rw [List.any_eq_false]
      intro p hp e
      rw [List.map_append, List.nodup_append] at h
      exact h.2.2 p.1 (List.mem_map_of_mem hp) x (by simp) (by simpa using e)
    have : merged kvs ((x, v) :: r) = merged (kvs ++ [(x, v)]) r := by
      show List.foldl _ (stored kvs x v) r = _
      unfold stored
      rw [hx]; rfl
    rw [this, merged_new r _ (by simpa using h)]
    simp
theorem okE_dictS {keys : List (Option PySem.Expr)} {values : List PySem.Expr} {ks : List Str} {pos : Pos} (hall : keys.all (·.isSome) = true) (hk : keys.map keyOf = ks.map some) (hl : keys.length = values.length) (h0 : keys ≠ []) (hlen : keys.length ≤ 15) (hn : ks.Nodup)
    (h : OkDs prog w G A env k m (ks.zip values) fun es k1 => ∀ c k', k c = none → New k1 c (.dictS false es) k' → P (.ref c) k') : OkE prog w G A env k m (eval (.Dict keys values pos) env) P := fun R O F s Q H q => by
  refine wpAny_Dict_walk (knd := strKind prog w) hall hl h0 hlen ?_
  generalize hd : s.heap.objs.size = d at *
  have hRd : R d = none := by rw [← hd]; exact H.sizeR_none
  have hkd : k d = none := by rw [← hd]; exact H.size_none
  have H1 : Has prog w (s.heap.push { cls := .type "dict", data := .dict #[] }) k (updR R d { cls := .type "dict", data := .dict #[] }) := by rw [← hd]; exact H.pushR rfl
  have hbd : G.base d = none := by
    cases e : G.base d with
    | none => rfl
    | some o => have := O d o e; rw [hRd] at this; cases this
  have O1 : Over G (updR R d { cls := .type "dict", data := .dict #[] }) := fun a o e => by
    rw [updR_ne (fun z => by rw [z, hbd] at e; cases e)]; exact O a o e
  have F1 : Frm env m (updR R d { cls := .type "dict", data := .dict #[] }) := F.agree fun a ha => updR_ne fun z => by
    rcases ha with ha | ⟨y, hy⟩
    · refine cps fun qZ hZ => ?_
      obtain ⟨o, _, ho, _⟩ := F.loc
      refine hZ ?_
      clear hZ qZ
      rw [← ha, z, hRd] at ho; cases ho
    · obtain ⟨o, ho⟩ := F.cin y a hy
      rw [z, hRd] at ho; cases ho
  have walk : ∀ (keys : List (Option PySem.Expr)) (values : List PySem.Expr) (ks : List Str) (k : KH) (h1 : Heap) (tk : Nat) (P' : List (Str × PV) → KH → Prop) (Q' : List (Value × Value) → Shared → Prop), keys.all (·.isSome) = true → keys.map keyOf = ks.map some → keys.length = values.length →
      OkDs prog w G A env k m (ks.zip values) P' → Has prog w h1 k (updR R d { cls := .type "dict", data := .dict #[] }) →
      (∀ vs kvs h' tk' k', Carries (strKind prog w) vs kvs → kvs.map (·.1) = ks → P' (kvs.map fun p => (p.1, ab p.2)) k' → Has prog w h' k' (updR R d { cls := .type "dict", data := .dict #[] }) → Q' vs { s with heap := h', toks := tk' }) →
      wpAny (model prog w) A (evalPairs (pairTrees keys values env pos)) Q' Fls { s with heap := h1, toks := tk } := by
    intro keys
    induction keys with
    | nil =>
      intro values ks k h1 tk P' Q' _ hk hl hp H q'
      match values, hl with
      | [], _ =>
        match ks, hk with
        | [], _ => exact evalPairs_nil (q' [] [] h1 tk k trivial rfl hp H)
    | cons key keys ih =>
      intro values ks k h1 tk P' Q' hall hk hl hp H q'
      match values, hl with
      | v :: values, hl =>
        match ks, hk with
        | x :: ks, hk =>
          rw [List.map_cons, List.map_cons, List.cons.injEq] at hk
          obtain ⟨hk1, hk2⟩ := hk
          obtain ⟨kd, p0, rfl⟩ : ∃ kd p0, key = some (.Constant (.str x) kd p0) := by
            unfold keyOf at hk1
            split at hk1
            · cases hk1; exact ⟨_, _, rfl⟩
            · cases hk1
          rw [List.all_cons, Bool.and_eq_true] at hall
          refine pairTrees_cons_walk (Calls.Constant_str ?_)
          refine hp _ O1 F1 _ _ H fun va h2 tk2 k2 p2 H2 => ?_
          refine ih values ks k2 h2 tk2 _ _ hall.2 hk2 (by simpa using hl) p2 H2 fun vs kvs h3 tk3 k3 c3 e3 p3 H3 => ?_
          refine q' _ ((x, va) :: kvs) h3 tk3 k3 ⟨strKind_is prog w x _, rfl, c3⟩ (by rw [List.map_cons, e3]) ?_ H3
          exact p3
  refine walk keys values ks k _ _ _ _ hall hk hl h H1 fun vs kvs h' tk' k' c e p H' => ⟨kvs, c, ?_, fun h2 hD hS => ?_⟩
  · exact Heap.dictOf_iff.mpr ⟨_, H'.fr _ _ updR_at, isDictOf_empty _⟩
  · have hk'd : k' d = none := (H'.dj d).resolve_right (by rw [updR_at]; exact fun z => nomatch z)
    rw [merged_new kvs [] (by simpa [e] using hn), List.nil_append] at hD
    obtain ⟨o', ho', r'⟩ := Heap.dictOf_iff.mp hD
    refine q _ h2 _ _ (p d _ hkd (New.mk' hk'd)) ?_
    have H'' : Has prog w h' k' R := H'.less (fun _ _ e => e) fun a o e => by
      rw [updR_ne (fun z => by rw [z, hRd] at e; cases e)]; exact e
    refine ⟨fun a p' e' => ?_, fun a o e' => ?_, fun a => ?_⟩
    · unfold upd at e'
      split at e'
      · rename_i z; subst z; cases e'
        exact ⟨o', ho', kvs, r', rfl⟩
      · rename_i z
        obtain ⟨o, a1, a2⟩ := H''.kn a p' e'
        exact ⟨o, (hS.2 a z).trans a1, a2⟩
    · exact (hS.2 a (fun z => by rw [z, hRd] at e'; cases e')).trans (H''.fr a o e')
    · unfold upd
      split
      · rename_i z; subst z; exact .inr hRd
      · exact H''.dj a

/-! the tables of the top -/
theorem okC_inBase {x : Str} (l : PySem.Expr) {n : Str} {p pos : Pos} {ys : List Str} {t : Sem Value} {P : Bool → KH → Prop} (g : Prg G) (V : EnvG env sc) (hx : globOk sc n = true) (hm : behindInMarks .In (.Name n p) = false)
    (ht : ∃ a o arr c, G.mg n = some (.ref a) ∧ G.base a = some o ∧ o.cls = .type "tuple" ∧ o.data = .seq arr c ∧ StrsAre arr.toList ys)
    (h : OkE prog w G A env k m (eval l env) fun v k1 => ∃ y, v = .str y ∧ P (decide (y ∈ ys)) k1) : OkC prog w G A env k m (isTrue (.Compare l [.In] [.Name n p] pos) env t) P := fun R O F s Q H q => by
  refine cps fun qZ hZ => ?_
  obtain ⟨a, o, arr, c, e1, e2, e3, e4, e5⟩ := ht
  refine hZ ?_
  clear hZ qZ
  refine wpAny_isTrue_Compare1 (h R O F _ _ H fun va h1 tk1 k1 p1 H1 => ?_) hm
  obtain ⟨y, ev, p1⟩ := p1
  obtain ⟨u, rfl⟩ := ab_str ev
  refine glob_val g.good O V.e (V.gl n hx) e1 H1 ?_
  refine in_tuple_strs (t := a) (items := arr) ⟨o, H1.fr _ _ (O _ _ e2), e3, c, e4⟩ e5 ?_
  refine wpAny_truthy_bool (q _ h1 tk1 k1 ?_ H1)
  rw [show (ys.any fun x => x == y) = decide (y ∈ ys) by
    rw [Bool.eq_iff_iff, List.any_eq_true, decide_eq_true_eq]
    exact ⟨fun ⟨x, hx, e⟩ => by rw [← eq_of_beq e]; exact hx, fun hx => ⟨y, hx, by simp⟩⟩]
  exact p1

/-- the script's first items -/
theorem okE_sliceB {value : PySem.Expr} {pos : Pos} {kd : Nat} {p p' : Pos} {n : Nat} {a : Addr} {l : List PV} (g : Prg G) (hl : G.lists a = some l) (hz : l.length ≤ sizeLine)
    (h : OkE prog w G A env k m (eval value env) fun v k1 => v = .ref a ∧ ∃ po, IsListPO po (l.take n) ∧ ∀ c k', New k1 c po k' → P (.ref c) k') :
    OkE prog w G A env k m (eval (.Subscript value (.Slice none (some (.Constant (.int n) kd p)) none p') pos) env) P := fun R O F s Q H q => by
  refine Subscript_ (h R O F _ _ H fun v h' tk' k' px H' => ?_)
  refine cps fun qZ hZ => ?_
  obtain ⟨ev, po, hpo, hP⟩ := px
  refine hZ ?_
  clear hZ qZ
  cases ab_ref ev
  refine wpAny_Slice ?_
  refine wpAny_evalPart_none ?_
  refine wpAny_evalPart_some (wpAny_Constant_int ?_)
  refine wpAny_evalPart_none ?_
  refine cps fun qZ hZ => ?_
  obtain ⟨o, arr, c, e1, e2, e3, r⟩ := g.good.lists a l hl
  refine hZ ?_
  clear hZ qZ
  have ht : h'.IsList a arr := ⟨o, H'.fr _ _ (O _ _ e1), e2, c, e3⟩
  subst r
  rw [List.length_map, Array.length_toList] at hz
  have ht' : (h'.push { cls := .type "slice", data := .fields #[.none, .int n tk', .none] }).IsList a arr := ht.push _
  refine tail_any (ops := [.ref h'.objs.size, .ref a]) (s := { s with heap := h'.push { cls := .type "slice", data := .fields #[.none, .int n tk', .none] }, toks := tk' + 1 }) ht'.typeIs slot_list_getitem.lookup
    (wpAny_getItem_list_slice ht' (Heap.IsSliceOf.new ..) .none (.int n tk') .none (by simp) ?_ hz) rfl
  rw [slicePick_upto' arr n]
  rw [← List.map_take] at hpo
  exact q _ _ _ _ (hP _ _ (New.mk' (H'.push _).size_none)) ((H'.push _).new hpo.rep)
end

theorem sz_le {n : Nat} (h : n ≤ 1000000) : n ≤ sizeLine := by rw [sizeLine_eq]; (first | lia | omega)

section
variable {prog : Program} {w : World} {G : Glob'} {A : Around} {k : KH} {m : Loc} {env : Env} {P : PV → KH → Prop} {sc : Scope} {d : Nat} {rest : List Stmt} {PX : Fl → Loc → KH → Prop}

/-! statements, by the bundle -/
theorem vAssign {x : Str} {px pos : Pos} {e : PySem.Expr} (V : EnvOk G env A sc d) (he : notComp e = true) (hk : storeOk sc x = true)
    (h : OkE prog w G A env k m (eval e env) fun v k' => OkX prog w G A env k' (setL m x v) (execs rest env) PX) : OkX prog w G A env k m (execs (.Assign [.Name x px] e pos :: rest) env) PX := okX_sAssign V.f he (store_of V.s hk) h
theorem vExpr {e : PySem.Expr} {pos : Pos} (V : EnvOk G env A sc d) (he : notComp e = true) (h : OkE prog w G A env k m (eval e env) fun _ k' => OkX prog w G A env k' m (execs rest env) PX) : OkX prog w G A env k m (execs (.Expr e pos :: rest) env) PX := okX_sExpr V.f he V.i h
theorem vRet {e : PySem.Expr} {pos : Pos} (V : EnvOk G env A sc d) (h : OkE prog w G A env k m (eval e env) fun v k' => PX (.ret v) m k') : OkX prog w G A env k m (execs (.Return (some e) pos :: rest) env) PX := okX_sRet V.f h
theorem vRet0 {pos : Pos} (V : EnvOk G env A sc d) (h : PX (.ret .none) m k) : OkX prog w G A env k m (execs (.Return none pos :: rest) env) PX := okX_sRet0 V.f h
theorem vIf {test : PySem.Expr} {body orelse : List Stmt} {pos : Pos} (V : EnvOk G env A sc d)
    (h : OkC prog w G A env k m (isTrue test env (eval test env)) fun b k' => (b = true → OkX prog w G A env k' m (execs body env) (Seq prog w G A env rest PX)) ∧ (b = false → OkX prog w G A env k' m (execs orelse env) (Seq prog w G A env rest PX))) :
    OkX prog w G A env k m (execs (.If test body orelse pos :: rest) env) PX := okX_sIf V.f h
theorem vAug {x : Str} {px pos : Pos} {e : PySem.Expr} {a : Int} (V : EnvOk G env A sc d) (hk : storeOk sc x = true) (hx : m x = some (.int a))
    (h : OkE prog w G A env k m (eval e env) fun v k' => ∃ b, v = .int b ∧ OkX prog w G A env k' (setL m x (.int (a + b))) (execs rest env) PX) : OkX prog w G A env k m (execs (.AugAssign (.Name x px) .Add e pos :: rest) env) PX := okX_sAug V.f (store_of V.s hk) hx h
theorem vNil (h : PX .next m k) : OkX prog w G A env k m (execs [] env) PX := okX_nil h
/-- a store at a place of a list -/
theorem vSetW {o i e : PySem.Expr} {px pos : Pos} (V : EnvOk G env A sc d) (he : notComp e = true)
    (h : OkE prog w G A env k m (eval e env) fun v k1 => OkE prog w G A env k1 m (eval o env) fun x k2 => OkE prog w G A env k2 m (eval i env) fun y k3 => ∃ a l p n, x = .ref a ∧ y = .int n ∧ k3 a = some p ∧ IsListPO p l ∧ 0 ≤ n ∧ n < 2 ^ 63 ∧ n < l.length ∧ ∀ k', Upd k3 a (.wlist (l.set n.toNat v)) k' → OkX prog w G A env k' m (execs rest env) PX) :
    OkX prog w G A env k m (execs (.Assign [.Subscript o i px] e pos :: rest) env) PX :=
  okX_sIdx V.f he (okE_mono h fun v k1 h1 => okE_mono h1 fun x k2 h2 => okE_mono h2 fun y k3 ⟨a, l, p, n, e1, e2, e3, e4, e5, e6, e7, e8⟩ => fun R O vx vy vv a1 a2 a3 => ok_setW e3 e4 e5 e6 e7 (a1.trans e1) (a2.trans e2) a3 e8)
theorem vSetS {o i e : PySem.Expr} {px pos : Pos} (V : EnvOk G env A sc d) (he : notComp e = true)
    (h : OkE prog w G A env k m (eval e env) fun v k1 => OkE prog w G A env k1 m (eval o env) fun x k2 => OkE prog w G A env k2 m (eval i env) fun y k3 => ∃ a es n, x = .ref a ∧ y = .str n ∧ k3 a = some (.dictS false es) ∧ es.length ≤ sizeLine ∧ ∀ k', Upd k3 a (.dictS false (putP es n v)) k' → OkX prog w G A env k' m (execs rest env) PX) :
    OkX prog w G A env k m (execs (.Assign [.Subscript o i px] e pos :: rest) env) PX :=
  okX_sIdx V.f he (okE_mono h fun v k1 h1 => okE_mono h1 fun x k2 h2 => okE_mono h2 fun y k3 ⟨a, es, n, e1, e2, e3, e4, e5⟩ => fun R O vx vy vv a1 a2 a3 => ok_setS e3 e4 (a1.trans e1) (a2.trans e2) a3 e5)
theorem vSetI {o i e : PySem.Expr} {px pos : Pos} (V : EnvOk G env A sc d) (he : notComp e = true)
    (h : OkE prog w G A env k m (eval e env) fun v k1 => OkE prog w G A env k1 m (eval o env) fun x k2 => OkE prog w G A env k2 m (eval i env) fun y k3 => ∃ a es n, x = .ref a ∧ y = .int n ∧ k3 a = some (.dictI false es) ∧ es.length ≤ sizeLine ∧ ∀ k', Upd k3 a (.dictI false (putP es n v)) k' → OkX prog w G A env k' m (execs rest env) PX) :
    OkX prog w G A env k m (execs (.Assign [.Subscript o i px] e pos :: rest) env) PX :=
  okX_sIdx V.f he (okE_mono h fun v k1 h1 => okE_mono h1 fun x k2 h2 => okE_mono h2 fun y k3 ⟨a, es, n, e1, e2, e3, e4, e5⟩ => fun R O vx vy vv a1 a2 a3 => ok_setI e3 e4 (a1.trans e1) (a2.trans e2) a3 e5)
theorem vAttrSet (g : Prg G) {o e : PySem.Expr} {attr : Str} {px pos : Pos} (V : EnvOk G env A sc d) (he : notComp e = true)
    (h : OkE prog w G A env k m (eval e env) fun v k1 => OkE prog w G A env k1 m (eval o env) fun x k2 => ∃ a C dx es n c, x = .ref a ∧ k2 a = some (.inst C dx) ∧ ClsG G n c C ∧ attr ∈ fieldNames ∧ k2 dx = some (.dictS false es) ∧ es.length < 900 ∧ ∀ k', Upd k2 dx (.dictS false (putP es attr v)) k' → OkX prog w G A env k' m (execs rest env) PX) :
    OkX prog w G A env k m (execs (.Assign [.Attribute o attr px] e pos :: rest) env) PX :=
  okX_sAttr V.f he (okE_mono h fun v k1 h1 => okE_mono h1 fun x k2 ⟨a, C, dx, es, n, c, e1, e2, e3, e4, e5, e6, e7⟩ => fun R O vx vv a1 a2 => okU_setAttr g O e3 e4 e2 e5 e6 (a1.trans e1) a2 e7)

/-! operators -/
theorem oAdd {i j : Int} (h : P (.int (i + j)) k) : OkO prog w G A k (binaryOp .Add) (.int i) (.int j) P := fun R O => ok_addI h
theorem oSub {i j : Int} (h : P (.int (i - j)) k) : OkO prog w G A k (binaryOp .Sub) (.int i) (.int j) P := fun R O => ok_subI h
theorem oMod {i j : Int} (hj : 0 < j) (h : P (.int (i % j)) k) : OkO prog w G A k (binaryOp .Mod) (.int i) (.int j) P := fun R O => ok_modI hj h
theorem oMul {i j : Int} (hj : IntMulOk i j) (h : P (.int (i * j)) k) : OkO prog w G A k (binaryOp .Mult) (.int i) (.int j) P := fun R O => ok_mulI hj h
theorem oLt {i j : Int} (h : P (.bool (decide (i < j))) k) : OkO prog w G A k (compareOp .Lt) (.int i) (.int j) P := fun R O => ok_ltI h
theorem oGt {i j : Int} (h : P (.bool (decide (j < i))) k) : OkO prog w G A k (compareOp .Gt) (.int i) (.int j) P := fun R O => ok_gtI h
theorem oEqI {i j : Int} (h : P (.bool (decide (i = j))) k) : OkO prog w G A k (compareOp .Eq) (.int i) (.int j) P := fun R O => ok_eqI h
theorem oNeI {i j : Int} (h : P (.bool (!decide (i = j))) k) : OkO prog w G A k (compareOp .NotEq) (.int i) (.int j) P := fun R O => ok_neI h
theorem oEqS {i j : Str} (h : P (.bool (decide (i = j))) k) : OkO prog w G A k (compareOp .Eq) (.str i) (.str j) P := fun R O => ok_eqS h
theorem oInTup {a : Addr} {vs : List PV} {y : Str} (ns : List Str) (hd : k a = some (.tup vs)) (hv : vs = ns.map .str) (h : P (.bool (decide (y ∈ ns))) k) : OkO prog w G A k (compareOp .In) (.str y) (.ref a) P := fun R O => ok_inTup (hv ▸ hd) h
theorem oNinTup {a : Addr} {vs : List PV} {y : Str} (ns : List Str) (hd : k a = some (.tup vs)) (hv : vs = ns.map .str) (h : P (.bool (!decide (y ∈ ns))) k) : OkO prog w G A k (compareOp .NotIn) (.str y) (.ref a) P := fun R O va vb ea eb s Q H q => by
  subst hv
  cases ab_ref eb; obtain ⟨u, rfl⟩ := ab_str ea
  obtain ⟨arr, hl, r⟩ := H.isTup hd
  have hi := strsAre_of r
  refine notin_tuple_strs hl hi (q (.bool _) s.heap s.toks k ?_ H)
  rw [show (ns.any fun x => x == y) = decide (y ∈ ns) by
    rw [Bool.eq_iff_iff, List.any_eq_true, decide_eq_true_eq]
    exact ⟨fun ⟨x, hx, e⟩ => by rw [← eq_of_beq e]; exact hx, fun hx => ⟨y, hx, by simp⟩⟩]
  exact h
theorem oNinL {a : Addr} {vs : List PV} {fz : Bool} {y : Int} (ns : List Int) (hd : k a = some (.list fz vs)) (hv : vs = ns.map .int) (h : P (.bool (!decide (y ∈ ns))) k) : OkO prog w G A k (compareOp .NotIn) (.int y) (.ref a) P := fun R O => ok_ninL (hv ▸ hd) h
theorem oInS (g : Prg G) {d : Addr} {es : List (Str × PV)} {fz : Bool} {y : Str} (hd : k d = some (.dictS fz es)) (h : P (.bool (es.lookup y).isSome) k) : OkO prog w G A k (compareOp .In) (.str y) (.ref d) P := fun R O => ok_inS (sys_some g.good O) hd h
theorem oNinS (g : Prg G) {d : Addr} {es : List (Str × PV)} {fz : Bool} {y : Str} (hd : k d = some (.dictS fz es)) (h : P (.bool (!(es.lookup y).isSome)) k) : OkO prog w G A k (compareOp .NotIn) (.str y) (.ref d) P := fun R O => ok_ninS (sys_some g.good O) hd h
theorem oNinI (g : Prg G) {d : Addr} {es : List (Int × PV)} {fz : Bool} {y : Int} (hd : k d = some (.dictI fz es)) (h : P (.bool (!(es.lookup y).isSome)) k) : OkO prog w G A k (compareOp .NotIn) (.int y) (.ref d) P := fun R O => ok_ninI (sys_some g.good O) hd h
theorem oIdxT {value slice : PySem.Expr} (hs : notSlice slice = true) {a : Addr} {l : List PV} {i : Int} {x : PV} (ha : k a = some (.tup l)) (hlo : -(2 ^ 63) ≤ i ∧ i < 2 ^ 63) (hx : pyIdx l i = some x) (h : P x k) : OkO prog w G A k (subscriptTail value slice) (.ref a) (.int i) P := fun R O => ok_idxT hs ha hlo.1 hlo.2 hx h
theorem oIdxL {value slice : PySem.Expr} (hs : notSlice slice = true) {a : Addr} {l : List PV} {p : PO} {i : Int} {x : PV} (ha : k a = some p) (hp : IsListPO p l) (hlo : -(2 ^ 63) ≤ i ∧ i < 2 ^ 63) (hx : pyIdx l i = some x) (h : P x k) : OkO prog w G A k (subscriptTail value slice) (.ref a) (.int i) P := fun R O => ok_idxL hs ha hp hlo.1 hlo.2 hx h
theorem oIdxS {value slice : PySem.Expr} (hs : notSlice slice = true) {a : Addr} {es : List (Str × PV)} {fz : Bool} {y : Str} {x : PV} (ha : k a = some (.dictS fz es)) (hx : es.lookup y = some x) (h : P x k) : OkO prog w G A k (subscriptTail value slice) (.ref a) (.str y) P := fun R O => ok_idxS hs ha hx h
theorem oIdxI {value slice : PySem.Expr} (hs : notSlice slice = true) {a : Addr} {es : List (Int × PV)} {fz : Bool} {y : Int} {x : PV} (ha : k a = some (.dictI fz es)) (hx : es.lookup y = some x) (h : P x k) : OkO prog w G A k (subscriptTail value slice) (.ref a) (.int y) P := fun R O => ok_idxI hs ha hx h
theorem oAddT {a b : Addr} {xs ys : List PV} (ha : k a = some (.tup xs)) (hb : k b = some (.tup ys)) (hx : xs ≠ []) (hy : ys ≠ []) (hz : xs.length + ys.length ≤ 1000000) (h : ∀ c k', New k c (.tup (xs ++ ys)) k' → P (.ref c) k') : OkO prog w G A k (binaryOp .Add) (.ref a) (.ref b) P := fun R O => ok_addT ha hb hx hy (sz_le hz) h
theorem oAddL {a b : Addr} {xs ys : List PV} {fa fb : Bool} (ha : k a = some (.list fa xs)) (hb : k b = some (.list fb ys)) (hz : xs.length + ys.length ≤ 1000000) (h : ∃ p, IsListPO p (xs ++ ys) ∧ ∀ c k', New k c p k' → P (.ref c) k') : OkO prog w G A k (binaryOp .Add) (.ref a) (.ref b) P := fun R O => ok_addL ha hb (sz_le hz) h

/-- a tuple, a frozen list -/
theorem eTup {elts : List PySem.Expr} {kd : Nat} {pos : Pos} (h : OkEs prog w G A env k m elts fun vs k1 => vs.length ≤ 1000000 ∧ ∀ c k', New k1 c (.tup vs) k' → P (.ref c) k') : OkE prog w G A env k m (eval (.Tuple elts kd pos) env) P := okE_Tup fun pos R O F => (h pos R O F).mono fun vs k1 h1 => ⟨sz_le h1.1, h1.2⟩
theorem eListF {elts : List PySem.Expr} {pos : Pos} (h : OkEs prog w G A env k m elts fun vs k1 => vs.length ≤ 1000000 ∧ ∀ c k', New k1 c (.list true vs) k' → P (.ref c) k') : OkE prog w G A env k m (eval (.List elts pos) env) P := okE_List fun pos R O F => (h pos R O F).mono fun vs k1 h1 => ⟨sz_le h1.1, _, .inl ⟨true, rfl⟩, h1.2⟩
theorem eListM {elts : List PySem.Expr} {pos : Pos} (h : OkEs prog w G A env k m elts fun vs k1 => vs.length ≤ 1000000 ∧ ∀ c k', New k1 c (.list false vs) k' → P (.ref c) k') : OkE prog w G A env k m (eval (.List elts pos) env) P := okE_List fun pos R O F => (h pos R O F).mono fun vs k1 h1 => ⟨sz_le h1.1, _, .inl ⟨false, rfl⟩, h1.2⟩
theorem eListW {elts : List PySem.Expr} {pos : Pos} (h : OkEs prog w G A env k m elts fun vs k1 => vs.length ≤ 1000000 ∧ ∀ c k', New k1 c (.wlist vs) k' → P (.ref c) k') : OkE prog w G A env k m (eval (.List elts pos) env) P := okE_List fun pos R O F => (h pos R O F).mono fun vs k1 h1 => ⟨sz_le h1.1, _, .inr rfl, h1.2⟩
theorem eDictS {pos : Pos} (h : ∀ c k', New k c (.dictS false []) k' → P (.ref c) k') : OkE prog w G A env k m (eval (.Dict [] [] pos) env) P := okE_dict0 ⟨_, .inl ⟨false, rfl⟩, h⟩
theorem eDictI {pos : Pos} (h : ∀ c k', New k c (.dictI false []) k' → P (.ref c) k') : OkE prog w G A env k m (eval (.Dict [] [] pos) env) P := okE_dict0 ⟨_, .inr ⟨false, rfl⟩, h⟩
theorem okC_mono {t : Sem Bool} {P P' : Bool → KH → Prop} (h : OkC prog w G A env k m t P) (s : ∀ b k', P b k' → P' b k') : OkC prog w G A env k m t P' := fun R O F => (h R O F).mono s
theorem okC_is {t : Sem Bool} {P : Bool → KH → Prop} (b0 : Bool) (h : OkC prog w G A env k m t fun b k' => k' = k ∧ b = b0) (h' : P b0 k) : OkC prog w G A env k m t P := okC_mono h fun b k' ⟨e1, e2⟩ => by subst e1 e2; exact h'
theorem cNot {e : PySem.Expr} {pos : Pos} {t : Sem Value} {P : Bool → KH → Prop} (h : OkC prog w G A env k m (isTrue e env (eval e env)) fun b k' => P (!b) k') : OkC prog w G A env k m (isTrue (.UnaryOp .Not e pos) env t) P := okC_Not h
end

section
variable {prog : Program} {w : World} {G : Glob'} {A : Around} {env : Env}
theorem wpCompE {st : KH → Prop} {scope : Scope} {elt : PySem.Expr} {x : Str} {mc : Loc} {Fin : List PV → KH → Prop} (J : List PV → List PV → KH → Prop) (hs : ∀ its acc k, J its acc k → st k ∧ acc.length ≤ sizeLine)
    (hb : ∀ v its acc k, J (v :: its) acc k → TurnE prog w G A env scope elt x mc v k fun o k' => J its (acc ++ o.toList) k') (he : ∀ acc k, J [] acc k → Fin acc k) : ∀ its acc k, J its acc k → wpComp st (TurnE prog w G A env scope elt x mc) Fin its acc k :=
  wpComp_inv (fun _ _ _ _ h s => turnE_mono h s) hs hb he
theorem wpCompT {st : KH → Prop} {scope : Scope} {elt c : PySem.Expr} {x : Str} {mc : Loc} {Fin : List PV → KH → Prop} (J : List PV → List PV → KH → Prop) (hs : ∀ its acc k, J its acc k → st k ∧ acc.length ≤ sizeLine)
    (hb : ∀ v its acc k, J (v :: its) acc k → TurnT prog w G A env scope elt c x mc v k fun o k' => J its (acc ++ o.toList) k') (he : ∀ acc k, J [] acc k → Fin acc k) : ∀ its acc k, J its acc k → wpComp st (TurnT prog w G A env scope elt c x mc) Fin its acc k :=
  wpComp_inv (fun _ _ _ _ h s => turnT_mono h s) hs hb he
end
theorem lk_cap {caps : List Str} {m : Loc} {y : Str} {v : PV} (h : y ∈ caps) (e : m y = some v) : capL caps m y = some v := by unfold capL; rw [if_pos h]; exact e

theorem ex_int {i : Int} {P : Int → Prop} (h : P i) : ∃ j, PV.int i = PV.int j ∧ P j := ⟨i, rfl, h⟩
theorem ex_bool {i : Bool} {P : Bool → Prop} (h : P i) : ∃ j, PV.bool i = PV.bool j ∧ P j := ⟨i, rfl, h⟩
theorem ex_str {i : Str} {P : Str → Prop} (h : P i) : ∃ j, PV.str i = PV.str j ∧ P j := ⟨i, rfl, h⟩

theorem isd_note : isDef "note" = true := by decide +kernel
theorem isd_note_uses : isDef "note_uses" = true := by decide +kernel
theorem isd_note_target : isDef "note_target" = true := by decide +kernel
theorem isd_note_loop : isDef "note_loop" = true := by decide +kernel
theorem isd_note_items : isDef "note_items" = true := by decide +kernel
theorem isd_note_control : isDef "note_control" = true := by decide +kernel
theorem isd_note_labels : isDef "note_labels" = true := by decide +kernel
theorem isd_note_jump : isDef "note_jump" = true := by decide +kernel
theorem isd_note_statement : isDef "note_statement" = true := by decide +kernel
theorem isd_name_rows : isDef "name_rows" = true := by decide +kernel
theorem isd_label_rows : isDef "label_rows" = true := by decide +kernel
theorem isd_notes_of : isDef "notes_of" = true := by decide +kernel
theorem isd_cross_reference : isDef "cross_reference" = true := by decide +kernel
theorem isd_law_names : isDef "_law_names" = true := by decide +kernel
theorem isd_law_take : isDef "_law_take" = true := by decide +kernel
theorem isd_law_name : isDef "_law_name" = true := by decide +kernel
theorem isd_law_target : isDef "_law_target" = true := by decide +kernel
theorem isd_law_expr : isDef "_law_expr" = true := by decide +kernel
theorem isd_law_items : isDef "_law_items" = true := by decide +kernel
theorem isd_law_label : isDef "_law_label" = true := by decide +kernel
theorem isd_law_io : isDef "_law_io" = true := by decide +kernel
theorem isd_law_jump : isDef "_law_jump" = true := by decide +kernel
theorem isd_law_statement : isDef "_law_statement" = true := by decide +kernel
theorem isd_law_once : isDef "_law_once" = true := by decide +kernel
/-! the steps -/
local macro_rules | `(tactic| walk_at "isd") => `(tactic| with_reducible first
  | refine' isd_note
  | refine' isd_note_uses
  | refine' isd_note_target
  | refine' isd_note_loop
  | refine' isd_note_items
  | refine' isd_note_control
  | refine' isd_note_labels
  | refine' isd_note_jump
  | refine' isd_note_statement
  | refine' isd_name_rows
  | refine' isd_label_rows
  | refine' isd_notes_of
  | refine' isd_cross_reference
  | refine' isd_law_names
  | refine' isd_law_take
  | refine' isd_law_name
  | refine' isd_law_target
  | refine' isd_law_expr
  | refine' isd_law_items
  | refine' isd_law_label
  | refine' isd_law_io
  | refine' isd_law_jump
  | refine' isd_law_statement
  | refine' isd_law_once)
/-- a name's value -/
local macro_rules | `(tactic| walk_at "lk") => `(tactic| first | assumption | (with_reducible refine' lk_here) | (refine' lk_there ?hne ?hlk; (case hne => decide +kernel); (case hlk => walk_at "lk")) | (refine' lk_cap ?hne ?hlk; (case hne => decide +kernel); (case hlk => walk_at "lk")))
local macro_rules | `(tactic| walk_at "v1") => `(tactic| with_reducible first
  | (guard_target =~ OkE _ _ _ _ _ _ _ _ _; first
    | refine okE_Name (by walk_at "lk") (by decide +kernel) ?_
    | refine okE_CF (by assumption) (by assumption) (by decide +kernel) (by walk_at "isd") (by with_unfolding_all exact rfl) ?_
    | refine okE_int ?_
    | refine okE_str ?_
    | refine okE_Sub ?_
    | refine eTup ?_
    | refine okE_BinOp ?_
    | refine okE_none ?_
    | refine okE_bool ?_
    | refine okE_neg ?_
    | refine okE_IfE ?_
    | refine okE_Compare (by with_unfolding_all exact rfl) ?_
    | refine okE_g0 (by assumption) (by assumption) (by decide +kernel) ?_
    | refine okE_g1 (by assumption) (by assumption) (by decide +kernel) ?_
    | refine okE_g4 (by assumption) (by assumption) (by decide +kernel) ?_
    | refine okE_g5 (by assumption) (by assumption) (by decide +kernel) ?_
    | refine okE_CF0 (by assumption) (by assumption) (by decide +kernel) (by walk_at "isd") ?_
    | refine okE_append (by decide +kernel) (by decide +kernel) (by decide +kernel) ?_)
  | (guard_target =~ OkEs _ _ _ _ _ _ _ _ _; first
    | refine okEs_cons (by with_unfolding_all exact rfl) ?_
    | refine okEs_nil ?_)
  | (guard_target =~ OkX _ _ _ _ _ _ _ _ _; first
    | refine vAssign (by assumption) (by with_unfolding_all exact rfl) (by decide +kernel) ?_
    | refine vIf (by assumption) ?_
    | refine vRet (by assumption) ?_
    | refine vNil ?_
    | refine vExpr (by assumption) (by with_unfolding_all exact rfl) ?_
    | refine vRet0 (by assumption) ?_)
  | (guard_target =~ OkC _ _ _ _ _ _ _ _ _; first
    | refine okC_Cmp (by with_unfolding_all exact rfl) ?_
    | refine cNot ?_
    | refine okC_Bool ?_
    | refine okC_andc ?_
    | refine okC_orc ?_
    | refine okC_and_nil ?_
    | refine okC_or_nil ?_
    | refine okC_name ?_)
  | (guard_target =~ OkO _ _ _ _ _ _ _ _ _; first
    | refine oEqS ?_
    | refine oEqI ?_
    | refine oAdd ?_
    | refine oLt ?_
    | refine oGt ?_
    | refine oSub ?_
    | refine oNeI ?_)
  | refine seq_next ?_
  | refine seq_ret ?_
  | refine ex_bool ?_
  | refine ex_int ?_
  | refine ex_str ?_)

/-! the generator's state -/
noncomputable def appL (f : Addr → List PV) (ls : List (Addr × PV)) : Addr → List PV := fun a => f a ++ (ls.filter fun p => decide (p.1 = a)).map (·.2)
theorem appL_app (f : Addr → List PV) (l1 l2 : List (Addr × PV)) : appL (appL f l1) l2 = appL f (l1 ++ l2) := by
  funext a; simp [appL]
theorem appL_nil (f : Addr → List PV) : appL f [] = f := by funext a; simp [appL]
noncomputable def names8 : List Str := ["A", "B", "C", "I", "J", "T", "F", "SUB"]
noncomputable def okPV : PV → Prop
  | .str x => x ∈ names8
  | .int i => 10 ≤ i ∧ i < 16
  | _ => False
structure GS (k : KH) (T : Addr) (Λ : Addr → Prop) (i : Int) (f : Addr → List PV) : Prop where
  tape : ∃ (S : Addr) (ns : List Int), k T = some (.wlist [.ref S, .int i]) ∧ k S = some (.list true (ns.map PV.int)) ∧ ns.length ≤ 100
  pos : 0 ≤ i
  logs : ∀ a, Λ a → k a = some (.list false (f a))
  len : ∀ a, Λ a → ((f a).length : Int) ≤ i
  val : ∀ a, Λ a → ∀ x ∈ f a, okPV x
abbrev GF (T : Addr) (Λ : Addr → Prop) (k k' : KH) : Prop := Trans (fun a => a = T ∨ Λ a) k k'

section
variable {prog : Program} {w : World} {G : Glob'} {A : Around} {k : KH} {P : PV → KH → Prop} {T : Addr} {Λ : Addr → Prop} {i : Int} {f : Addr → List PV}

theorem GS.step {k' : KH} (S : GS k T Λ i f) {S' : Addr} {ns : List Int} (h1 : k T = some (.wlist [.ref S', .int i])) (h2 : k S' = some (.list true (ns.map PV.int))) (h3 : ns.length ≤ 100) (h : Upd k T (.wlist [.ref S', .int (i + 1)]) k') : GS k' T Λ (i + 1) f where
  tape := ⟨S', ns, h.at, by rw [h.ne (fun e => by rw [e, h1] at h2; cases h2)]; exact h2, h3⟩
  pos := by have := S.pos; (first | lia | omega)
  logs := fun a ha => by rw [h.ne (fun e => by have := S.logs a ha; rw [e, h1] at this; cases this)]; exact S.logs a ha
  len := fun a ha => by have := S.len a ha; (first | lia | omega)
  val := S.val

theorem imul {a b : Int} (h0 : 0 ≤ a) (h : a < 2 ^ 40) : IntMulOk a b := IntMulOk.of_left (intBits_le_64 (by first | lia | omega) (by first | lia | omega))

theorem pyIdx_pos {l : List PV} {i : Int} {x : PV} (h0 : 0 ≤ i) (hx : l[i.toNat]? = some x) : pyIdx l i = some x := by
  have hlt := (List.getElem?_eq_some_iff.mp hx).1
  have e : seqIndex? i l.length = some i.toNat := by
    unfold seqIndex?
    have h1 : ¬ i < 0 := by first | lia | omega
    have h2 : i.toNat < l.length := hlt
    simp only [h1, if_false]
    simp [h0]
    (first | lia | omega)
  unfold pyIdx
  rw [e]
  exact hx
theorem Upd.gf {k' : KH} {p : PO} {q : PO} (U : Upd k T p k') (h : k T = some q) (hf : q.frz = false) : GF T Λ k k' := (U.trans h hf).mono fun a h => .inl h
theorem New.gf {k' : KH} {c : Addr} {p : PO} (N : New k c p k') : GF T Λ k k' := N.trans
theorem GS.new {k' : KH} {c : Addr} {p : PO} (S : GS k T Λ i f) (N : New k c p k') : GS k' T Λ i f where
  tape := let ⟨S', ns, h1, h2, h3⟩ := S.tape; ⟨S', ns, N.get h1, N.get h2, h3⟩
  pos := S.pos
  logs := fun a ha => N.get (S.logs a ha)
  len := S.len
  val := S.val

set_option maxHeartbeats 1000000 in
theorem take_ok (g : Prg G) (hR : Room A 1) {n : Int} (S : GS k T Λ i f) (hi : i < 2 ^ 30) (hn : 0 < n)
    (h : ∀ j k', 0 ≤ j → j < n → GS k' T Λ (i + 1) f → GF T Λ k k' → P (.int j) k') : OkF prog w G A k "_law_take" [.ref T, .int n] P := by
  refine okF_fn (n := 26) (d := 0) g rfl hR (by decide +kernel) rfl fun env A' V => ?_
  have W := V.g
  refine cps fun qZ hZ => ?_
  obtain ⟨S', ns, h1, h2, h3⟩ := S.tape
  refine hZ ?_
  clear hZ qZ
  have hpos := S.pos
  show OkX prog w G A' env k (setL (setL (fun _ => none) "tape" (.ref T)) "n" (.int n)) (execs (bodyN 26) env) _
  refine vAssign V rfl (by decide +kernel) ?_
  repeat walk_at "v1"
  refine oIdxL rfl h1 (.inr rfl) (by decide) rfl ?_
  refine vSetW V rfl ?_
  repeat walk_at "v1"
  refine ⟨T, _, _, 1, rfl, rfl, h1, .inr rfl, by decide, by decide, by simp, fun k1 U => ?_⟩
  have U : Upd k T (.wlist [.ref S', .int (i + 1)]) k1 := U
  have S1 := S.step h1 h2 h3 U
  have t1 : GF T Λ k k1 := U.gf h1 rfl
  have h2' := t1.frz h2 rfl
  repeat walk_at "v1"
  refine okE_len g W (by decide +kernel) rfl ?_
  repeat walk_at "v1"
  refine oIdxL rfl U.at (.inr rfl) (by decide) rfl ?_
  refine ⟨_, _, _, rfl, h2', .inl ⟨_, rfl⟩, sz_le (by rw [List.length_map]; (first | lia | omega)), ?_⟩
  repeat walk_at "v1"
  refine ⟨fun hb => ?_, fun hb => ?_⟩
  · have hb := of_decide_eq_true hb
    repeat walk_at "v1"
    refine oIdxL rfl U.at (.inr rfl) (by decide) rfl ?_
    repeat walk_at "v1"
    rw [List.length_map] at hb
    have hx : (ns.map PV.int)[i.toNat]? = some (.int (ns[i.toNat]'(by first | lia | omega))) := by simp
    refine oIdxL rfl h2' (.inl ⟨_, rfl⟩) ⟨by first | lia | omega, by first | lia | omega⟩ (pyIdx_pos hpos hx) ?_
    repeat walk_at "v1"
    refine oMod hn ?_
    repeat walk_at "v1"
    exact h _ _ (Int.emod_nonneg _ (by first | lia | omega)) (Int.emod_lt_of_pos _ hn) S1 t1
  · repeat walk_at "v1"
    refine oMul (imul (by first | lia | omega) (by first | lia | omega)) ?_
    repeat walk_at "v1"
    refine oMul (imul (by first | lia | omega) (by first | lia | omega)) ?_
    repeat walk_at "v1"
    refine oMul (imul (by first | lia | omega) (by first | lia | omega)) ?_
    repeat walk_at "v1"
    refine oMod hn ?_
    repeat walk_at "v1"
    exact h _ _ (Int.emod_nonneg _ (by first | lia | omega)) (Int.emod_lt_of_pos _ hn) S1 t1

theorem pyIdx_last {l : List PV} {x : PV} (hl : l.length < 2 ^ 40) : pyIdx (l ++ [x]) (-1) = some x := by
  have e : seqIndex? (-1) (l ++ [x]).length = some l.length := by
    unfold seqIndex?
    simp
    (first | lia | omega)
  unfold pyIdx
  rw [e]
  simp
theorem names_ok (g : Prg G) (hR : Room A 1) (h : ∀ c k', New k c (.list true (names8.map .str)) k' → P (.ref c) k') : OkF prog w G A k "_law_names" [] P := by
  refine okF_fn (n := 25) (d := 0) g rfl hR (by decide +kernel) rfl fun env A' V => ?_
  refine vRet V ?_
  refine eListF ?_
  repeat walk_at "v1"
  exact ⟨by decide, fun c k' N => h c k' N⟩
theorem name_ok (g : Prg G) (hR : Room A 2) (S : GS k T Λ i f) (hi : i < 2 ^ 30)
    (h : ∀ x k', x ∈ names8 → GS k' T Λ (i + 1) f → GF T Λ k k' → P (.str x) k') : OkF prog w G A k "_law_name" [.ref T] P := by
  refine okF_fn (n := 27) (d := 1) g rfl hR (by decide +kernel) rfl fun env A' V => ?_
  have W := V.g
  show OkX prog w G A' env k (setL (fun _ => none) "tape" (.ref T)) (execs (bodyN 27) env) _
  refine vRet V ?_
  repeat walk_at "v1"
  refine names_ok g V.r fun c k1 N => ?_
  repeat walk_at "v1"
  refine take_ok g V.r (S.new N) hi (by decide) fun j k2 j0 j8 S2 t2 => ?_
  have hc := t2.frz N.at rfl
  have hj : j.toNat < names8.length := by show j.toNat < 8; (first | lia | omega)
  have hx : (names8.map PV.str)[j.toNat]? = some (.str (names8[j.toNat])) := by simp
  refine oIdxL rfl hc (.inl ⟨_, rfl⟩) ⟨by first | lia | omega, by first | lia | omega⟩ (pyIdx_pos j0 hx) ?_
  exact h _ _ (List.getElem_mem hj) S2 (N.gf.comp t2)
theorem appL_one {M : Addr} {y : PV} : appL f [(M, y)] M = f M ++ [y] := by simp [appL]
theorem appL_ne {M a : Addr} {y : PV} (h : a ≠ M) : appL f [(M, y)] a = f a := by simp [appL, h.symm]
theorem GS.app {k' : KH} {M : Addr} {y : PV} (S : GS k T Λ i f) (hM : Λ M) (hy : okPV y) (hl : ((f M).length : Int) + 1 ≤ i) (U : Upd k M (.list false (f M ++ [y])) k') : GS k' T Λ i (appL f [(M, y)]) where
  tape := by
    refine cps fun qZ hZ => ?_
    obtain ⟨S', ns, h1, h2, h3⟩ := S.tape
    refine hZ ?_
    clear hZ qZ
    have hm := S.logs M hM
    exact ⟨S', ns, by rw [U.ne (fun e => by rw [e, hm] at h1; cases h1)]; exact h1, by rw [U.ne (fun e => by rw [e, hm] at h2; cases h2)]; exact h2, h3⟩
  pos := S.pos
  logs := fun a ha => by
    by_cases e : a = M
    · subst e; rw [appL_one]; exact U.at
    · rw [appL_ne e, U.ne e]; exact S.logs a ha
  len := fun a ha => by
    by_cases e : a = M
    · subst e; rw [appL_one, List.length_append, List.length_singleton]; (first | lia | omega)
    · rw [appL_ne e]; exact S.len a ha
  val := fun a ha x hx => by
    by_cases e : a = M
    · subst e; rw [appL_one, List.mem_append, List.mem_singleton] at hx
      rcases hx with hx | rfl
      · exact S.val a ha x hx
      · exact hy
    · rw [appL_ne e] at hx; exact S.val a ha x hx
theorem Upd.gf' {k' : KH} {M : Addr} {p q : PO} (U : Upd k M p k') (hM : Λ M) (h : k M = some q) (hf : q.frz = false) : GF T Λ k k' := (U.trans h hf).mono fun a h => .inr (h ▸ hM)
theorem len_sz {n : Nat} {i : Int} (h : (n : Int) ≤ i) (hi : i ≤ 1000000) : n ≤ sizeLine := sz_le (by first | lia | omega)

theorem label_ok (g : Prg G) (hR : Room A 2) (S : GS k T Λ i f) (hi : i ≤ 100000) {M : Addr} (hM : Λ M)
    (h : ∀ l k', 10 ≤ l → l < 16 → GS k' T Λ (i + 1) (appL f [(M, .int l)]) → GF T Λ k k' → P (.int l) k') : OkF prog w G A k "_law_label" [.ref T, .ref M] P := by
  refine okF_fn (n := 31) (d := 1) g rfl hR (by decide +kernel) rfl fun env A' V => ?_
  have W := V.g
  show OkX prog w G A' env k (setL (setL (fun _ => none) "tape" (.ref T)) "marks" (.ref M)) (execs (bodyN 31) env) _
  refine vExpr V rfl ?_
  repeat walk_at "v1"
  refine ⟨M, _, _, rfl, S.logs M hM, ?_⟩
  repeat walk_at "v1"
  refine take_ok g V.r S (by first | lia | omega) (by decide) fun j k1 j0 j8 S1 t1 => ?_
  repeat walk_at "v1"
  have hl := S.len M hM
  refine ⟨_, S1.logs M hM, len_sz hl (by first | lia | omega), fun k2 U => ?_⟩
  have S2 := S1.app hM (y := .int (10 + j)) ⟨by first | lia | omega, by first | lia | omega⟩ (by first | lia | omega) U
  have t2 : GF T Λ k1 k2 := U.gf' hM (S1.logs M hM) rfl
  repeat walk_at "v1"
  refine oIdxL rfl U.at (.inl ⟨_, rfl⟩) ⟨by decide, by decide⟩ (pyIdx_last (by first | lia | omega)) ?_
  exact h _ _ (by first | lia | omega) (by first | lia | omega) S2 (t1.comp t2)
end

/-! the trees, by what they tell -/
inductive Key where
  | s (x : Str)
  | i (n : Int)
deriving DecidableEq
noncomputable def Key.pv : Key → PV
  | .s x => .str x
  | .i n => .int n
/-- an event: 0 a name set, 1 a name used, 2 a label named, 3 a label that stands -/
abbrev Ev := Nat × Key

noncomputable def Fz (k k' : KH) : Prop := ∀ a p, k a = some p → p.frz = true → k' a = some p
theorem Trans.fz {fp k k'} (h : Trans fp k k') : Fz k k' := fun _ _ e f => h.frz e f
theorem New.fz {k c p k'} (N : New k c p k') : Fz k k' := fun _ _ e _ => N.get e
theorem Fz.refl {k} : Fz k k := fun _ _ e _ => e
theorem Fz.comp {k k' k''} (h : Fz k k') (h' : Fz k' k'') : Fz k k'' := fun a p e f => h' a p (h a p e f) f

noncomputable def leafTags : List Str := ["var", "array", "proc"]
noncomputable def namedTags : List Str := ["elem", "call"]
noncomputable def partTags : List Str := ["neg", "conv", "powi", "add", "cat", "lt", "and", "substr"]

inductive ETs (k : KH) : Nat → List PV → List Ev → Prop where
  | nil {d} : ETs k d [] []
  | none {d r es} : ETs k d r es → ETs k d (.none :: r) es
  | const {d a l r es} : k a = some (.tup (.str "const" :: l)) → ETs k d r es → ETs k d (.ref a :: r) es
  | leaf {d a t x n r es} : t ∈ leafTags → k a = some (.tup [.str t, x, .str n]) → ETs k d r es → ETs k d (.ref a :: r) ((1, .s n) :: es)
  | named {d a t x n l parts r e1 e2} : t ∈ namedTags → k a = some (.tup [.str t, x, .str n, .ref l]) → k l = some (.list true parts) → ETs k d parts e1 → ETs k (d + 1) r e2 → ETs k (d + 1) (.ref a :: r) ((1, .s n) :: e1 ++ e2)
  | intr {d a x n l parts r e1 e2} : k a = some (.tup [.str "intr", x, n, .ref l]) → k l = some (.list true parts) → ETs k d parts e1 → ETs k (d + 1) r e2 → ETs k (d + 1) (.ref a :: r) (e1 ++ e2)
  | parts {d a t x ps r e1 e2} : t ∈ partTags → k a = some (.tup (.str t :: x :: ps)) → ps.length ≤ 10 → ETs k d ps e1 → ETs k (d + 1) r e2 → ETs k (d + 1) (.ref a :: r) (e1 ++ e2)
  | alt {d a l r es} : k a = some (.tup [.str "alt", .int l]) → ETs k d r es → ETs k d (.ref a :: r) ((2, .i l) :: es)

theorem ETs.mono {k k' d vs es} (h : ETs k d vs es) (f : Fz k k') : ETs k' d vs es := by
  induction h with
  | nil => exact .nil
  | none _ ih => exact .none ih
  | const h _ ih => exact .const (f _ _ h rfl) ih
  | leaf t h _ ih => exact .leaf t (f _ _ h rfl) ih
  | named t h h' _ _ i1 i2 => exact .named t (f _ _ h rfl) (f _ _ h' rfl) i1 i2
  | intr h h' _ _ i1 i2 => exact .intr (f _ _ h rfl) (f _ _ h' rfl) i1 i2
  | parts t h hl _ _ i1 i2 => exact .parts t (f _ _ h rfl) hl i1 i2
  | alt h _ ih => exact .alt (f _ _ h rfl) ih
theorem ETs.succ {k d vs es} (h : ETs k d vs es) : ETs k (d + 1) vs es := by
  induction h with
  | nil => exact .nil
  | none _ ih => exact .none ih
  | const h _ ih => exact .const h ih
  | leaf t h _ ih => exact .leaf t h ih
  | named t h h' _ _ i1 i2 => exact .named t h h' i1 i2
  | intr h h' _ _ i1 i2 => exact .intr h h' i1 i2
  | parts t h hl _ _ i1 i2 => exact .parts t h hl i1 i2
  | alt h _ ih => exact .alt h ih
theorem ETs.le {k d d' vs es} (h : ETs k d vs es) (l : d ≤ d') : ETs k d' vs es := by
  induction l with
  | refl => exact h
  | step _ ih => exact ih.succ
theorem ETs.append {k d vs vs' es es'} (h : ETs k d vs es) (h' : ETs k d vs' es') : ETs k d (vs ++ vs') (es ++ es') := by
  induction h with
  | nil => exact h'
  | none _ ih => exact .none (ih h')
  | const h _ ih => exact .const h (ih h')
  | leaf t h _ ih => exact .leaf t h (ih h')
  | named t h h1 a b i1 i2 => rw [List.cons_append, List.cons_append, List.cons_append, List.append_assoc]; exact .named t h h1 a (i2 h')
  | intr h h1 a b i1 i2 => rw [List.cons_append, List.append_assoc]; exact .intr h h1 a (i2 h')
  | parts t h hl a b i1 i2 => rw [List.cons_append, List.append_assoc]; exact .parts t h hl a (i2 h')
  | alt h _ ih => exact .alt h (ih h')
theorem ETs.cons {k d v vs es es'} (h : ETs k d [v] es) (h' : ETs k d vs es') : ETs k d (v :: vs) (es ++ es') := h.append h'

/-- a target: its name, what its places use -/
inductive TT (k : KH) (d : Nat) : Nat → PV → Str → List Ev → Prop where
  | var {j a x n} : k a = some (.tup [.str "var", x, .str n]) → TT k d j (.ref a) n []
  | elem {j a x n l parts es} : k a = some (.tup [.str "elem", x, .str n, .ref l]) → k l = some (.list true parts) → ETs k d parts es → TT k d j (.ref a) n es
  | sub {j a x p lo hi n e1 e2} : k a = some (.tup [.str "substr", x, p, lo, hi]) → TT k d j p n e1 → ETs k d [lo, hi] e2 → TT k d (j + 1) (.ref a) n (e1 ++ e2)
theorem TT.mono {k k' d j v n es} (h : TT k d j v n es) (f : Fz k k') : TT k' d j v n es := by
  induction h with
  | var h => exact .var (f _ _ h rfl)
  | elem h h' e => exact .elem (f _ _ h rfl) (f _ _ h' rfl) (e.mono f)
  | sub h _ e ih => exact .sub (f _ _ h rfl) ih (e.mono f)
theorem TT.le {k d d' j v n es} (h : TT k d j v n es) (l : d ≤ d') : TT k d' j v n es := by
  induction h with
  | var h => exact .var h
  | elem h h' e => exact .elem h h' (e.le l)
  | sub h _ e ih => exact .sub h ih (e.le l)
theorem TT.expr {k d j v n es} (h : TT k d j v n es) : ETs k (d + 1 + j) [v] ((1, .s n) :: es) := by
  induction h with
  | @var j a x n h => exact .leaf (by decide +kernel) h .nil
  | @elem j a x n l parts es h h' e =>
    have := ETs.named (d := d + j) (r := []) (e2 := []) (t := "elem") (by decide +kernel) h h' (e.le (Nat.le_add_right _ _)) .nil
    rw [List.append_nil] at this
    exact this.le (by first | lia | omega)
  | @sub j a x p lo hi n e1 e2 h t e ih =>
    have := ETs.parts (d := d + 1 + j) (r := []) (e2 := []) (t := "substr") (by decide +kernel) h (by simp) (ih.append (e.le (by first | lia | omega))) .nil
    rw [List.append_nil] at this
    exact this.le (by first | lia | omega)

/-- the items of READ and WRITE -/
inductive IT (k : KH) (d : Nat) : Nat → Bool → PV → List Ev → Prop where
  | read {j l v n es} : k l = some (.list true [v]) → TT k d 1 v n es → (∃ a t r, v = .ref a ∧ k a = some (.tup (.str t :: r)) ∧ t ≠ "ido") → IT k d j true (.ref l) ((0, .s n) :: es)
  | write {j l a b t x r r' es} : k l = some (.list true [.ref a, .ref b]) → k a = some (.tup (.str t :: x :: r)) → t ≠ "ido" → k b = some (.tup (.str "const" :: r')) → ETs k d [.ref a, .ref b] es → IT k d j false (.ref l) es
  | ido {j l a inner g x n e1 e2 e3 es es' b} : k l = some (.list true [.ref a]) → k a = some (.tup [.str "ido", inner, .ref g, e1, e2, e3]) → k g = some (.tup [.str "var", x, .str n]) → ETs k d [e1, e2, e3] es → IT k d j b inner es' →
      IT k d (j + 1) b (.ref l) ((0, .s n) :: es ++ es')
theorem IT.mono {k k' d j b v es} (h : IT k d j b v es) (f : Fz k k') : IT k' d j b v es := by
  induction h with
  | read h t e => obtain ⟨a, t', r, e1, e2, e3⟩ := e; exact .read (f _ _ h rfl) (t.mono f) ⟨a, t', r, e1, f _ _ e2 rfl, e3⟩
  | write h h1 h2 h3 e => exact .write (f _ _ h rfl) (f _ _ h1 rfl) h2 (f _ _ h3 rfl) (e.mono f)
  | ido h h1 h2 e _ ih => exact .ido (f _ _ h rfl) (f _ _ h1 rfl) (f _ _ h2 rfl) (e.mono f) ih
theorem IT.succ {k d j b v es} (h : IT k d j b v es) : IT k d (j + 1) b v es := by
  induction h with
  | read h t e => exact .read h t e
  | write h h1 h2 h3 e => exact .write h h1 h2 h3 e
  | ido h h1 h2 e _ ih => exact .ido h h1 h2 e ih

/-- a row of a control list -/
inductive CV (k : KH) (d : Nat) (word : Str) : Str → PV → List Ev → Prop where
  | label {key l} : CV k d word key (.int l) [(2, .i l)]
  | star {key : Str} {x} : key ≠ "END" → key ≠ "ERR" → CV k d word key (.str x) []
  | iostat {a t r n es} : k a = some (.tup (.str t :: r)) → TT k d 1 (.ref a) n es → CV k d word "IOSTAT" (.ref a) ((0, .s n) :: es)
  | exist {a t r n es} : word = "inquire" → k a = some (.tup (.str t :: r)) → TT k d 1 (.ref a) n es → CV k d word "EXIST" (.ref a) ((0, .s n) :: es)
  | unitC {a n} : word = "write" → k a = some (.tup [.str "var", .int 5, .str n]) → CV k d word "UNIT" (.ref a) [(0, .s n)]
  | unit {a t c r es} : k a = some (.tup (.str t :: .int c :: r)) → (word = "write" → c ≠ 5) → ETs k d [.ref a] es → CV k d word "UNIT" (.ref a) es
theorem CV.mono {k k' d w key v es} (h : CV k d w key v es) (f : Fz k k') : CV k' d w key v es := by
  cases h with
  | label => exact .label
  | star h h' => exact .star h h'
  | iostat h t => exact .iostat (f _ _ h rfl) (t.mono f)
  | exist w h t => exact .exist w (f _ _ h rfl) (t.mono f)
  | unitC w h => exact .unitC w (f _ _ h rfl)
  | unit h c e => exact .unit (f _ _ h rfl) c (e.mono f)
/-- a control list: its rows, each with what it tells -/
noncomputable def CT (k : KH) (d : Nat) (word : Str) (rows : List (Str × PV)) (ev : Str → List Ev) : Prop := ∀ x v, (x, v) ∈ rows → CV k d word x v (ev x)

inductive JT (k : KH) (d : Nat) : PV → List Ev → Prop where
  | goto {a l} : k a = some (.tup [.str "goto", .int l]) → JT k d (.ref a) [(2, .i l)]
  | cgoto {a ll ls e es} : k a = some (.tup [.str "cgoto", .ref ll, e]) → k ll = some (.list true (List.map PV.int ls)) → ETs k d [e] es → JT k d (.ref a) (List.map (fun l => ((2, .i l) : Ev)) ls ++ es)
  | agoto {a n ll ls} : k a = some (.tup [.str "agoto", .str n, .ref ll]) → k ll = some (.list true (List.map PV.int ls)) → JT k d (.ref a) ((1, .s n) :: List.map (fun l => ((2, .i l) : Ev)) ls)
  | aif {a e ls es} : k a = some (.tup (.str "aif" :: e :: List.map PV.int ls)) → ls.length = 3 → ETs k d [e] es → JT k d (.ref a) (es ++ List.map (fun l => ((2, .i l) : Ev)) ls)
  | setlabel {a l n} : k a = some (.tup [.str "setlabel", .int l, .str n]) → JT k d (.ref a) [(2, .i l), (0, .s n)]
  | doo {a l g n e1 e2 e3 es1 es2} : k a = some (.tup [.str "do", .int l, g, e1, e2, e3]) → TT k d 1 g n es1 → ETs k d [e1, e2, e3] es2 → JT k d (.ref a) ((2, .i l) :: (0, .s n) :: es1 ++ es2)
theorem JT.mono {k k' d v es} (h : JT k d v es) (f : Fz k k') : JT k' d v es := by
  cases h with
  | goto h => exact .goto (f _ _ h rfl)
  | cgoto h h' e => exact .cgoto (f _ _ h rfl) (f _ _ h' rfl) (e.mono f)
  | agoto h h' => exact .agoto (f _ _ h rfl) (f _ _ h' rfl)
  | aif h hl e => exact .aif (f _ _ h rfl) hl (e.mono f)
  | setlabel h => exact .setlabel (f _ _ h rfl)
  | doo h t e => exact .doo (f _ _ h rfl) (t.mono f) (e.mono f)

noncomputable def quietTags : List Str := ["continue", "endif", "stop", "end"]
noncomputable def exprTags : List Str := ["if", "elseif", "return"]
inductive ST (k : KH) (d : Nat) : PV → List Ev → Prop where
  | jump {v es} : JT k d v es → ST k d v es
  | assign {a g e n es1 es2} : k a = some (.tup [.str "assign", g, e]) → TT k d 1 g n es1 → ETs k d [e] es2 → ST k d (.ref a) ((0, .s n) :: es1 ++ es2)
  | lif {a e j es1 es2} : k a = some (.tup [.str "lif", e, j]) → ETs k d [e] es1 → JT k d j es2 → ST k d (.ref a) (es1 ++ es2)
  | expr {a t e es} : t ∈ exprTags → k a = some (.tup [.str t, e]) → ETs k d [e] es → ST k d (.ref a) es
  | quiet {a t l} : t ∈ quietTags → k a = some (.tup (.str t :: l)) → ST k d (.ref a) []
  | call {a n ll vs es} : k a = some (.tup [.str "call", .str n, .ref ll]) → k ll = some (.list true vs) → ETs k d vs es → ST k d (.ref a) ((1, .s n) :: es)
  | entry {a n x} : k a = some (.tup [.str "entry", .str n, x]) → ST k d (.ref a) [(0, .s n)]
  | inquire {a c rows ev} : k a = some (.tup [.str "inquire", .ref c]) → k c = some (.dictS true rows) → (rows.map (·.1)).Nodup → rows.length < 20 → CT k d "inquire" rows ev → ST k d (.ref a) ((rows.map (·.1)).flatMap ev)
  | io {a t b c rows ev items j es} : (t = "read" ∧ b = true ∨ t = "write" ∧ b = false) → k a = some (.tup [.str t, .ref c, items]) → k c = some (.dictS true rows) → (rows.map (·.1)).Nodup → rows.length < 20 → CT k d t rows ev → j ≤ 5 → IT k d j b items es →
      ST k d (.ref a) ((rows.map (·.1)).flatMap ev ++ es)
theorem ST.mono {k k' d v es} (h : ST k d v es) (f : Fz k k') : ST k' d v es := by
  cases h with
  | jump h => exact .jump (h.mono f)
  | assign h t e => exact .assign (f _ _ h rfl) (t.mono f) (e.mono f)
  | lif h e j => exact .lif (f _ _ h rfl) (e.mono f) (j.mono f)
  | expr t h e => exact .expr t (f _ _ h rfl) (e.mono f)
  | quiet t h => exact .quiet t (f _ _ h rfl)
  | call h h' e => exact .call (f _ _ h rfl) (f _ _ h' rfl) (e.mono f)
  | entry h => exact .entry (f _ _ h rfl)
  | inquire h h' n s c => exact .inquire (f _ _ h rfl) (f _ _ h' rfl) n s fun x v hx => (c x v hx).mono f
  | io b h h' n s c hj i => exact .io b (f _ _ h rfl) (f _ _ h' rfl) n s (fun x v hx => (c x v hx).mono f) hj (i.mono f)

noncomputable def uL (U : Addr) (us : List Str) : List (Addr × PV) := us.map fun n => (U, PV.str n)
noncomputable def uE (us : List Str) : List Ev := us.map fun n => (1, .s n)
noncomputable def eb (d : Nat) : Int := 10 * 5 ^ d
theorem eb0 : eb 0 = 10 := rfl
theorem ebs (e : Nat) : eb (e + 1) = 5 * eb e := by unfold eb; rw [Int.pow_succ]; (first | lia | omega)
theorem eb_pos (e : Nat) : 10 ≤ eb e := by
  induction e with
  | zero => exact Int.le_refl _
  | succ e ih => rw [ebs]; (first | lia | omega)
theorem okPV_name {x : Str} (h : x ∈ names8) : okPV (.str x) := h

/-- what is known of a made tuple's head -/
noncomputable def Hd (k : KH) (d : Nat) (v : PV) : Prop := ∃ a t c l, v = .ref a ∧ k a = some (.tup (.str t :: .int c :: l)) ∧ t ≠ "ido" ∧ (d = 0 → c ≠ 5)
theorem Hd.mono {k k' d v} (h : Hd k d v) (f : Fz k k') : Hd k' d v := let ⟨a, t, c, l, e1, e2, e3, e4⟩ := h; ⟨a, t, c, l, e1, f _ _ e2 rfl, e3, e4⟩

noncomputable def ExprOk (prog : Program) (w : World) (G : Glob') (d : Nat) : Prop := ∀ {A : Around} {k : KH} {P : PV → KH → Prop} {T : Addr} {Λ : Addr → Prop} {i : Int} {f : Addr → List PV} {U : Addr}, Room A (10 + 10 * d) → GS k T Λ i f → i + eb d ≤ 90000 → Λ U →
  (∀ v us k' i', i ≤ i' → i' ≤ i + eb d → GS k' T Λ i' (appL f (uL U us)) → GF T Λ k k' → ETs k' (2 * d) [v] (uE us) → Hd k' d v → P v k') → OkF prog w G A k "_law_expr" [.ref T, .int d, .ref U] P
noncomputable def TargetOk (prog : Program) (w : World) (G : Glob') (d : Nat) : Prop := ∀ {A : Around} {k : KH} {P : PV → KH → Prop} {T : Addr} {Λ : Addr → Prop} {i : Int} {f : Addr → List PV} {S U : Addr}, Room A (5 + 10 * d) → GS k T Λ i f → i + 4 + 2 * eb (d - 1) ≤ 90000 → Λ S → Λ U →
  (∀ v n us k' i', i ≤ i' → i' ≤ i + 4 + 2 * eb (d - 1) → GS k' T Λ i' (appL f ((S, .str n) :: uL U us)) → GF T Λ k k' → TT k' (2 * (d - 1)) 1 v n (uE us) → Hd k' 1 v → P v k') → OkF prog w G A k "_law_target" [.ref T, .int d, .ref S, .ref U] P

section
variable {prog : Program} {w : World} {G : Glob'}

theorem target_zero (g : Prg G) : TargetOk prog w G 0 := fun {A k P T Λ i f Sa U} hR S hi hS hU h => by
  refine okF_fn (n := 28) (d := 4) g rfl hR (by decide +kernel) rfl fun env A' V => ?_
  have W := V.g
  have e10 : 2 * eb (0 - 1) = 20 := rfl
  rw [e10] at hi h
  show OkX prog w G A' env k (setL (setL (setL (setL (fun _ => none) "tape" (.ref T)) "deep" (.int ((0 : Nat) : Int))) "sets" (.ref Sa)) "uses" (.ref U)) (execs (bodyN 28) env) _
  refine vAssign V rfl (by decide +kernel) ?_
  repeat walk_at "v1"
  refine ⟨fun hb => absurd (of_decide_eq_true hb) (by first | lia | omega), fun _ => ?_⟩
  repeat walk_at "v1"
  refine take_ok g (V.r.le (by first | lia | omega)) S (by first | lia | omega) (by decide) fun j k1 j0 j1 S1 t1 => ?_
  repeat walk_at "v1"
  refine name_ok g (V.r.le (by first | lia | omega)) S1 (by first | lia | omega) fun x k2 hx S2 t2 => ?_
  repeat walk_at "v1"
  refine ⟨Sa, _, _, rfl, S2.logs Sa hS, ?_⟩
  repeat walk_at "v1"
  have hl := S.len Sa hS
  refine ⟨_, S2.logs Sa hS, len_sz hl (by first | lia | omega), fun k3 U3 => ?_⟩
  have S3 := S2.app hS (okPV_name hx) (by first | lia | omega) U3
  have t3 : GF T Λ k2 k3 := U3.gf' hS (S2.logs Sa hS) rfl
  repeat walk_at "v1"
  refine ⟨fun hb => absurd (of_decide_eq_true hb) (by first | lia | omega), fun _ => ?_⟩
  repeat walk_at "v1"
  refine ⟨fun hb => absurd (of_decide_eq_true hb) (by first | lia | omega), fun _ => ?_⟩
  repeat walk_at "v1"
  refine ⟨fun hb => absurd (of_decide_eq_true hb) (by first | lia | omega), fun _ => ?_⟩
  repeat walk_at "v1"
  refine ⟨by simp, fun c k4 N => ?_⟩
  exact h _ x [] _ _ (by first | lia | omega) (by first | lia | omega) (S3.new N) (((t1.comp t2).comp t3).comp N.gf) (.var N.at) ⟨_, _, _, _, rfl, N.at, by decide +kernel, fun e => by cases e⟩

set_option maxHeartbeats 2000000 in
theorem target_succ (g : Prg G) {e : Nat} (h0 : ExprOk prog w G 0) (he : ExprOk prog w G e) : TargetOk prog w G (e + 1) := fun {A k P T Λ i f Sa U} hR S hi hS hU h => by
  refine okF_fn (n := 28) (d := 14 + 10 * e) g rfl (hR.le (by first | lia | omega)) (by decide +kernel) rfl fun env A' V => ?_
  have W := V.g
  rw [Nat.add_sub_cancel] at hi h
  have hp := eb_pos e
  have hm1 : (((e + 1 : Nat) : Int)) - 1 = (e : Int) := by first | lia | omega
  show OkX prog w G A' env k (setL (setL (setL (setL (fun _ => none) "tape" (.ref T)) "deep" (.int ((e + 1 : Nat) : Int))) "sets" (.ref Sa)) "uses" (.ref U)) (execs (bodyN 28) env) _
  refine vAssign V rfl (by decide +kernel) ?_
  repeat walk_at "v1"
  refine ⟨fun _ => ?_, fun hb => absurd (of_decide_eq_false hb) (by first | lia | omega)⟩
  repeat walk_at "v1"
  refine take_ok g (V.r.le (by first | lia | omega)) S (by first | lia | omega) (by decide) fun j k1 j0 j1 S1 t1 => ?_
  repeat walk_at "v1"
  refine name_ok g (V.r.le (by first | lia | omega)) S1 (by first | lia | omega) fun x k2 hx S2 t2 => ?_
  repeat walk_at "v1"
  refine ⟨Sa, _, _, rfl, S2.logs Sa hS, ?_⟩
  repeat walk_at "v1"
  have hl := S.len Sa hS
  refine ⟨_, S2.logs Sa hS, len_sz hl (by first | lia | omega), fun k3 U3 => ?_⟩
  have S3 := S2.app hS (okPV_name hx) (by first | lia | omega) U3
  have t3 : GF T Λ k k3 := (t1.comp t2).comp (U3.gf' hS (S2.logs Sa hS) rfl)
  clear U3 S2 S1 t1 t2
  repeat walk_at "v1"
  refine ⟨fun hb => ?_, fun _ => ?_⟩
  · repeat walk_at "v1"
    refine okE_comp (caps := ["deep", "tape", "uses"]) V.r.handled V.e (by rw [V.s]; decide +kernel) okGs_e (fun _ => rfl) ?_
    refine okE_range g W (by decide +kernel) rfl ?_
    repeat walk_at "v1"
    refine take_ok g (V.r.le (by first | lia | omega)) S3 (by first | lia | omega) (by decide) fun r k4 r0 r1 S4 t4 => ?_
    repeat walk_at "v1"
    refine fun c k5 N5 => ⟨_, _, src_range (n := (1 + r).toNat) (by first | lia | omega) (by rw [show (((1 + r).toNat : Nat) : Int) = 1 + r by first | lia | omega]; exact N5.at), ?_⟩
    refine wpCompE (fun its acc k' => ∃ us i', GS k' T Λ i' (appL f ((Sa, .str x) :: uL U us)) ∧ GF T Λ k k' ∧ ETs k' (2 * e) acc (uE us) ∧ i + 3 ≤ i' ∧ i' + its.length * eb e ≤ i + 3 + 2 * eb e ∧ acc.length + its.length ≤ 2)
      (fun its acc k' ⟨us, i', a1, a2, a3, a4, a5, a6⟩ => ⟨trivial, sz_le (by first | lia | omega)⟩) (fun v its acc k6 hJ => ?hb) (fun acc k6 hJ => ?he) _ _ _ ?h0
    case hb =>
      refine cps fun qZ hZ => ?_
      obtain ⟨us, i', S6, t6, T6, l1, l2, l3⟩ := hJ
      refine hZ ?_
      clear hZ qZ
      intro cenv hs hE
      have W' := envG_rel hs hE
      rw [List.length_cons] at l2 l3
      have l2' : i' + (its.length * eb e + eb e) ≤ i + 3 + 2 * eb e := by
        have : ((its.length + 1 : Nat) : Int) * eb e = its.length * eb e + eb e := by rw [Int.natCast_add, Int.add_mul]; simp
        (first | lia | omega)
      have hq : (0 : Int) ≤ its.length * eb e := Int.mul_nonneg (by first | lia | omega) (by first | lia | omega)
      repeat walk_at "v1"
      rw [hm1]
      refine he (V.r.le (by first | lia | omega)) S6 (by first | lia | omega) hU fun v' us' k7 i7 m1 m2 S7 t7 T7 H7 => ?_
      refine ⟨us ++ us', i7, ?_, t6.comp t7, ?_, by first | lia | omega, by first | lia | omega, ?_⟩
      · rw [appL_app] at S7
        have : uL U (us ++ us') = uL U us ++ uL U us' := by simp [uL]
        rw [this]; exact S7
      · have : uE (us ++ us') = uE us ++ uE us' := by simp [uE]
        rw [this]; exact (T6.mono t7.fz).append T7
      · simp; (first | lia | omega)
    case he =>
      refine cps fun qZ hZ => ?_
      obtain ⟨us, i', S6, t6, T6, l1, l2, l3⟩ := hJ
      refine hZ ?_
      clear hZ qZ
      refine ⟨PO.list true acc, Or.inl ⟨true, rfl⟩, fun c k7 N7 => ?_⟩
      have N7 : New k6 c (.list true acc) k7 := N7
      repeat walk_at "v1"
      refine ⟨by simp, fun c' k8 N8 => ?_⟩
      refine h _ x us _ i' (by first | lia | omega) (by rw [List.length_nil] at l2; (first | lia | omega)) ((S6.new N7).new N8) ((t6.comp N7.gf).comp N8.gf) ?_ ⟨_, _, _, _, rfl, N8.at, by decide +kernel, fun e => by cases e⟩
      exact .elem N8.at (N8.get N7.at) (T6.mono (N7.gf.comp N8.gf : GF T Λ k6 k8).fz)
    case h0 =>
      refine ⟨[], i + 1 + 1 + 1, ?_, (t3.comp t4).comp N5.gf, .nil, by first | lia | omega, ?_, ?_⟩
      · exact S4.new N5
      · rw [List.length_map, List.length_range]
        rcases (show r = 0 ∨ r = 1 by first | lia | omega) with rfl | rfl
        · show _ + ((1 : Nat) : Int) * eb e ≤ _; (first | lia | omega)
        · show _ + ((2 : Nat) : Int) * eb e ≤ _; (first | lia | omega)
      · rw [List.length_nil, List.length_map, List.length_range]; (first | lia | omega)
  repeat walk_at "v1"
  refine ⟨fun hb => ?_, fun _ => ?_⟩
  · repeat walk_at "v1"
    rw [hm1]
    refine he (V.r.le (by first | lia | omega)) S3 (by first | lia | omega) hU fun lo us k4 i4 l1 l2 S4 t4 T4 H4 => ?_
    repeat walk_at "v1"
    refine ⟨by simp, fun c k5 N5 => ?_⟩
    repeat walk_at "v1"
    refine ⟨by simp, fun c' k6 N6 => ?_⟩
    have T6 := T4.mono (N5.gf.comp N6.gf : GF T Λ k4 k6).fz
    have S6 := (S4.new N5).new N6
    rw [appL_app] at S6
    have := TT.sub (j := 0) (lo := lo) (hi := .none) N6.at (.var (N6.get N5.at)) (T6.cons (.none .nil))
    rw [List.nil_append, List.append_nil] at this
    exact h _ x us _ _ (by first | lia | omega) (by first | lia | omega) S6 (((t3.comp t4).comp N5.gf).comp N6.gf) this ⟨_, _, _, _, rfl, N6.at, by decide +kernel, fun e => by cases e⟩
  repeat walk_at "v1"
  refine ⟨fun hb => ?_, fun _ => ?_⟩
  · repeat walk_at "v1"
    refine eListF ?_
    repeat walk_at "v1"
    refine h0 (V.r.le (by first | lia | omega)) S3 (by rw [eb0]; (first | lia | omega)) hU fun v1 us1 k4 i4 l1 l2 S4 t4 T4 H4 => ?_
    rw [eb0] at l2
    repeat walk_at "v1"
    refine ⟨by simp, fun c k5 N5 => ?_⟩
    repeat walk_at "v1"
    refine ⟨by simp, fun c' k6 N6 => ?_⟩
    repeat walk_at "v1"
    rw [hm1]
    refine he (V.r.le (by first | lia | omega)) ((S4.new N5).new N6) (by first | lia | omega) hU fun v2 us2 k7 i7 m1 m2 S7 t7 T7 H7 => ?_
    repeat walk_at "v1"
    refine ⟨by simp, fun c'' k8 N8 => ?_⟩
    have f58 : Fz k5 k8 := ((N6.gf : GF T Λ k5 k6).comp (t7.comp N8.gf)).fz
    have f68 : Fz k6 k8 := (t7.comp N8.gf).fz
    have t48 : GF T Λ k4 k8 := ((N5.gf : GF T Λ k4 k5).comp N6.gf).comp (t7.comp N8.gf)
    have p : TT k8 (2 * (e + 1 - 1)) 0 (.ref c') x (uE us1) := .elem (f68 _ _ N6.at rfl) (f58 _ _ N5.at rfl) ((T4.mono t48.fz).le (by first | lia | omega))
    have q : ETs k8 (2 * (e + 1 - 1)) [.none, v2] (uE us2) := .none ((T7.mono N8.fz).le (by first | lia | omega))
    have := TT.sub N8.at p q
    have e2 : uE us1 ++ uE us2 = uE (us1 ++ us2) := by simp [uE]
    rw [e2] at this
    have S8 := S7.new N8
    rw [appL_app, appL_app] at S8
    have e3 : [(Sa, PV.str x)] ++ (uL U us1 ++ uL U us2) = (Sa, .str x) :: uL U (us1 ++ us2) := by simp [uL]
    rw [← List.append_assoc, List.append_assoc, e3] at S8
    exact h _ x _ _ _ (by first | lia | omega) (by first | lia | omega) S8 (t3.comp (t4.comp t48)) this ⟨_, _, _, _, rfl, N8.at, by decide +kernel, fun e => by cases e⟩
  repeat walk_at "v1"
  refine ⟨by simp, fun c k4 N => ?_⟩
  exact h _ x [] _ _ (by first | lia | omega) (by first | lia | omega) (S3.new N) (t3.comp N.gf) (.var N.at) ⟨_, _, _, _, rfl, N.at, by decide +kernel, fun e => by cases e⟩
end

section
variable {prog : Program} {w : World} {G : Glob'}
theorem pick2 {a b : PV} {j : Int} (h : j = 0 ∨ j = 1) : ∃ x, pyIdx [a, b] j = some x ∧ (x = a ∨ x = b) := by
  rcases h with rfl | rfl
  · exact ⟨a, rfl, .inl rfl⟩
  · exact ⟨b, rfl, .inr rfl⟩
theorem pick4 {a b c d : PV} {j : Int} (h : j = 0 ∨ j = 1 ∨ j = 2 ∨ j = 3) : ∃ x, pyIdx [a, b, c, d] j = some x ∧ (x = a ∨ x = b ∨ x = c ∨ x = d) := by
  rcases h with rfl | rfl | rfl | rfl
  · exact ⟨a, rfl, .inl rfl⟩
  · exact ⟨b, rfl, .inr (.inl rfl)⟩
  · exact ⟨c, rfl, .inr (.inr (.inl rfl))⟩
  · exact ⟨d, rfl, .inr (.inr (.inr rfl))⟩
theorem uL_cons {U : Addr} {x : Str} {us : List Str} : uL U (x :: us) = [(U, .str x)] ++ uL U us := rfl
theorem uL_app {U : Addr} {us us' : List Str} : uL U (us ++ us') = uL U us ++ uL U us' := by simp [uL]
theorem uE_app {us us' : List Str} : uE (us ++ us') = uE us ++ uE us' := by simp [uE]

set_option maxHeartbeats 4000000 in
theorem expr_zero (g : Prg G) : ExprOk prog w G 0 := fun {A k P T Λ i f U} hR S hi hU h => by
  refine okF_fn (n := 29) (d := 9) g rfl hR (by decide +kernel) rfl fun env A' V => ?_
  have W := V.g
  rw [eb0] at hi h
  show OkX prog w G A' env k (setL (setL (setL (fun _ => none) "tape" (.ref T)) "deep" (.int ((0 : Nat) : Int))) "uses" (.ref U)) (execs (bodyN 29) env) _
  refine vAssign V rfl (by decide +kernel) ?_
  repeat walk_at "v1"
  refine ⟨fun hb => absurd (of_decide_eq_true hb) (by first | lia | omega), fun _ => ?_⟩
  repeat walk_at "v1"
  refine take_ok g (V.r.le (by first | lia | omega)) S (by first | lia | omega) (by decide) fun j k1 j0 j1 S1 t1 => ?_
  repeat walk_at "v1"
  refine ⟨fun hb => ?_, fun hb0 => ?_⟩
  · repeat walk_at "v1"
    refine take_ok g (V.r.le (by first | lia | omega)) S1 (by first | lia | omega) (by decide) fun c k2 c0 c1 S2 t2 => ?_
    repeat walk_at "v1"
    refine ⟨by simp, fun c' k3 N3 => ?_⟩
    exact h _ [] _ (i + 1 + 1) (by first | lia | omega) (by first | lia | omega) (by rw [show uL U [] = [] from rfl, appL_nil]; exact S2.new N3) ((t1.comp t2).comp N3.gf) (.const N3.at .nil) ⟨_, _, _, _, rfl, N3.at, by decide +kernel, fun _ => by decide⟩
  have hb0 := of_decide_eq_false hb0
  refine vNil (seq_next (vIf V ?_))
  refine okC_mono (P := fun b k' => k' = k1 ∧ b = true) ?_ fun b k' ⟨e1, e2⟩ => by
    subst e1 e2
    refine ⟨fun _ => ?_, fun hh => absurd hh (by simp)⟩
    repeat walk_at "v1"
    refine ⟨U, _, _, rfl, S1.logs U hU, ?_⟩
    repeat walk_at "v1"
    refine name_ok g (V.r.le (by first | lia | omega)) S1 (by first | lia | omega) fun x k2 hx S2 t2 => ?_
    have hl := S1.len U hU
    refine ⟨_, S2.logs U hU, len_sz hl (by first | lia | omega), fun k3 U3 => ?_⟩
    have S3 := S2.app hU (okPV_name hx) (by first | lia | omega) U3
    have t3 : GF T Λ k k3 := (t1.comp t2).comp (U3.gf' hU (S2.logs U hU) rfl)
    repeat walk_at "v1"
    refine eListF ?_
    repeat walk_at "v1"
    refine ⟨by simp, fun c1 k4 N4 => ?_⟩
    repeat walk_at "v1"
    refine ⟨by simp, fun c2 k5 N5 => ?_⟩
    repeat walk_at "v1"
    refine ⟨by simp, fun c3 k6 N6 => ?_⟩
    repeat walk_at "v1"
    obtain ⟨v, hv, hv'⟩ := pick2 (a := .ref c1) (b := .ref c2) (j := j - 1) (by first | lia | omega)
    refine oIdxL rfl N6.at (.inl ⟨_, rfl⟩) ⟨by first | lia | omega, by first | lia | omega⟩ hv ?_
    have hkv : ∃ a t, v = .ref a ∧ t ∈ leafTags ∧ t ≠ "ido" ∧ k6 a = some (.tup [.str t, .int 1]) := by
      rcases hv' with rfl | rfl
      · exact ⟨c1, "var", rfl, by decide +kernel, by decide +kernel, N6.get (N5.get N4.at)⟩
      · exact ⟨c2, "array", rfl, by decide +kernel, by decide +kernel, N6.get N5.at⟩
    refine cps fun qZ hZ => ?_
    obtain ⟨a, t, rfl, ht, ht', hka⟩ := hkv
    refine hZ ?_
    clear hZ qZ
    repeat walk_at "v1"
    have hUl : k6 U = some (.list false (f U ++ [.str x])) := N6.get (N5.get (N4.get U3.at))
    refine oIdxL rfl hUl (.inl ⟨_, rfl⟩) ⟨by decide, by decide⟩ (pyIdx_last (by first | lia | omega)) ?_
    repeat walk_at "v1"
    refine ⟨by simp, fun c4 k7 N7 => ?_⟩
    refine oAddT (N7.get hka) N7.at (by simp) (by simp) (by simp) fun c5 k8 N8 => ?_
    have S8 := ((((S3.new N4).new N5).new N6).new N7).new N8
    have t8 : GF T Λ k3 k8 := (((N4.gf.comp N5.gf).comp N6.gf).comp N7.gf).comp N8.gf
    exact h _ [x] _ _ (by first | lia | omega) (by first | lia | omega) S8 (t3.comp t8) (.leaf ht N8.at .nil) ⟨_, t, _, _, rfl, N8.at, ht', fun _ => by decide⟩
  repeat walk_at "v1"
  refine ⟨fun hb => ⟨rfl, rfl⟩, fun hb => ?_⟩
  repeat walk_at "v1"
  refine ⟨fun hb => ⟨rfl, rfl⟩, fun hb' => absurd (of_decide_eq_false hb') (by have := of_decide_eq_false hb; (first | lia | omega))⟩
end

section
variable {prog : Program} {w : World} {G : Glob'}
theorem ETs.part1 {k : KH} {d a t x ps es} (h : t ∈ partTags) (h1 : k a = some (.tup (.str t :: x :: ps))) (hl : ps.length ≤ 10) (h2 : ETs k d ps es) : ETs k (d + 1) [.ref a] es := by
  have := ETs.parts (r := []) (e2 := []) h h1 hl h2 .nil
  rwa [List.append_nil] at this
theorem ETs.intr1 {k : KH} {d a x n l parts es} (h : k a = some (.tup [.str "intr", x, n, .ref l])) (h1 : k l = some (.list true parts)) (h2 : ETs k d parts es) : ETs k (d + 1) [.ref a] es := by
  have := ETs.intr (r := []) (e2 := []) h h1 h2 .nil
  rwa [List.append_nil] at this
theorem ETs.named1 {k : KH} {d a t x n l parts es} (ht : t ∈ namedTags) (h : k a = some (.tup [.str t, x, .str n, .ref l])) (h1 : k l = some (.list true parts)) (h2 : ETs k d parts es) : ETs k (d + 1) [.ref a] ((1, .s n) :: es) := by
  have := ETs.named (r := []) (e2 := []) ht h h1 h2 .nil
  rwa [List.append_nil] at this

set_option maxHeartbeats 8000000 in
theorem expr_succ (g : Prg G) {e : Nat} (h0 : ExprOk prog w G 0) (he : ExprOk prog w G e) (ht : TargetOk prog w G (e + 1)) : ExprOk prog w G (e + 1) := fun {A k P T Λ i f U} hR S hi hU h => by
  refine okF_fn (n := 29) (d := 19 + 10 * e) g rfl (hR.le (by first | lia | omega)) (by decide +kernel) rfl fun env A' V => ?_
  have W := V.g
  have hp := eb_pos e
  rw [ebs] at hi h
  have hm1 : (((e + 1 : Nat) : Int)) - 1 = (e : Int) := by first | lia | omega
  show OkX prog w G A' env k (setL (setL (setL (fun _ => none) "tape" (.ref T)) "deep" (.int ((e + 1 : Nat) : Int))) "uses" (.ref U)) (execs (bodyN 29) env) _
  refine vAssign V rfl (by decide +kernel) ?_
  repeat walk_at "v1"
  refine ⟨fun _ => ?_, fun hb => absurd (of_decide_eq_false hb) (by first | lia | omega)⟩
  repeat walk_at "v1"
  refine take_ok g (V.r.le (by first | lia | omega)) S (by first | lia | omega) (by decide) fun j k1 j0 j1 S1 t1 => ?_
  repeat walk_at "v1"
  refine ⟨fun hb => ?_, fun hb0 => ?_⟩
  · repeat walk_at "v1"
    refine take_ok g (V.r.le (by first | lia | omega)) S1 (by first | lia | omega) (by decide) fun c k2 c0 c1 S2 t2 => ?_
    repeat walk_at "v1"
    refine ⟨by simp, fun c' k3 N3 => ?_⟩
    exact h _ [] _ (i + 1 + 1) (by first | lia | omega) (by first | lia | omega) (by rw [show uL U [] = [] from rfl, appL_nil]; exact S2.new N3) ((t1.comp t2).comp N3.gf) (.const N3.at .nil) ⟨_, _, _, _, rfl, N3.at, by decide +kernel, fun _ => by decide⟩
  have hb0 := of_decide_eq_false hb0
  refine vNil (seq_next (vIf V ?_))
  refine okC_is (decide (j = 1 ∨ j = 2)) ?_ ?_
  · repeat walk_at "v1"
    refine ⟨fun hb => ⟨rfl, ?_⟩, fun hb => ?_⟩
    · simp [of_decide_eq_true hb]
    repeat walk_at "v1"
    refine ⟨fun hb' => ⟨rfl, ?_⟩, fun hb' => ?_⟩
    · simp [of_decide_eq_true hb']
    repeat walk_at "v1"
    exact ⟨rfl, by simp [of_decide_eq_false hb, of_decide_eq_false hb']⟩
  refine ⟨fun hj => ?_, fun hj => ?_⟩
  · have hj := of_decide_eq_true hj
    repeat walk_at "v1"
    refine ⟨U, _, _, rfl, S1.logs U hU, ?_⟩
    repeat walk_at "v1"
    refine name_ok g (V.r.le (by first | lia | omega)) S1 (by first | lia | omega) fun x k2 hx S2 t2 => ?_
    have hl := S1.len U hU
    refine ⟨_, S2.logs U hU, len_sz hl (by first | lia | omega), fun k3 U3 => ?_⟩
    have S3 := S2.app hU (okPV_name hx) (by first | lia | omega) U3
    have t3 : GF T Λ k k3 := (t1.comp t2).comp (U3.gf' hU (S2.logs U hU) rfl)
    repeat walk_at "v1"
    refine eListF ?_
    repeat walk_at "v1"
    refine ⟨by simp, fun c1 k4 N4 => ?_⟩
    repeat walk_at "v1"
    refine ⟨by simp, fun c2 k5 N5 => ?_⟩
    repeat walk_at "v1"
    refine ⟨by simp, fun c3 k6 N6 => ?_⟩
    repeat walk_at "v1"
    obtain ⟨v, hv, hv'⟩ := pick2 (a := .ref c1) (b := .ref c2) (j := j - 1) (by first | lia | omega)
    refine oIdxL rfl N6.at (.inl ⟨_, rfl⟩) ⟨by first | lia | omega, by first | lia | omega⟩ hv ?_
    have hkv : ∃ a t, v = .ref a ∧ t ∈ leafTags ∧ t ≠ "ido" ∧ k6 a = some (.tup [.str t, .int 1]) := by
      rcases hv' with rfl | rfl
      · exact ⟨c1, "var", rfl, by decide +kernel, by decide +kernel, N6.get (N5.get N4.at)⟩
      · exact ⟨c2, "array", rfl, by decide +kernel, by decide +kernel, N6.get N5.at⟩
    refine cps fun qZ hZ => ?_
    obtain ⟨a, t, rfl, ht, ht', hka⟩ := hkv
    refine hZ ?_
    clear hZ qZ
    repeat walk_at "v1"
    have hUl : k6 U = some (.list false (f U ++ [.str x])) := N6.get (N5.get (N4.get U3.at))
    refine oIdxL rfl hUl (.inl ⟨_, rfl⟩) ⟨by decide, by decide⟩ (pyIdx_last (by first | lia | omega)) ?_
    repeat walk_at "v1"
    refine ⟨by simp, fun c4 k7 N7 => ?_⟩
    refine oAddT (N7.get hka) N7.at (by simp) (by simp) (by simp) fun c5 k8 N8 => ?_
    have S8 := ((((S3.new N4).new N5).new N6).new N7).new N8
    have t8 : GF T Λ k3 k8 := (((N4.gf.comp N5.gf).comp N6.gf).comp N7.gf).comp N8.gf
    exact h _ [x] _ _ (by first | lia | omega) (by first | lia | omega) S8 (t3.comp t8) (.leaf ht N8.at .nil) ⟨_, t, _, _, rfl, N8.at, ht', fun _ => by decide⟩
  have hj := of_decide_eq_false hj
  refine vNil (seq_next (vIf V ?_))
  refine okC_is (decide (j = 3 ∨ j = 4)) ?_ ?_
  · repeat walk_at "v1"
    refine ⟨fun hb => ⟨rfl, ?_⟩, fun hb => ?_⟩
    · simp [of_decide_eq_true hb]
    repeat walk_at "v1"
    refine ⟨fun hb' => ⟨rfl, ?_⟩, fun hb' => ?_⟩
    · simp [of_decide_eq_true hb']
    repeat walk_at "v1"
    exact ⟨rfl, by simp [of_decide_eq_false hb, of_decide_eq_false hb']⟩
  refine ⟨fun hj => ?_, fun hj' => ?_⟩
  · repeat walk_at "v1"
    refine ht (V.r.le (by first | lia | omega)) S1 (by rw [Nat.add_sub_cancel]; (first | lia | omega)) hU hU fun v n us k2 i2 l1 l2 S2 t2 T2 H2 => ?_
    rw [Nat.add_sub_cancel] at l2
    have := T2.expr
    refine h v (n :: us) _ _ (by first | lia | omega) (by first | lia | omega) S2 (t1.comp t2) this ?_
    refine cps fun qZ hZ => ?_
    obtain ⟨a, t, c, l, b1, b2, b3, b4⟩ := H2
    refine hZ ?_
    clear hZ qZ
    exact ⟨a, t, c, l, b1, b2, b3, fun e => by cases e⟩
  have hj' := of_decide_eq_false hj'
  repeat walk_at "v1"
  refine ⟨fun hb => ?_, fun hb5 => ?_⟩
  · repeat walk_at "v1"
    refine eListF ?_
    repeat walk_at "v1"
    rw [hm1]
    refine he (V.r.le (by first | lia | omega)) S1 (by first | lia | omega) hU fun v us k2 i2 l1 l2 S2 t2 T2 H2 => ?_
    repeat walk_at "v1"
    refine ⟨by simp, fun c3 k3 N3 => ?_⟩
    repeat walk_at "v1"
    refine ⟨by simp, fun c4 k4 N4 => ?_⟩
    exact h _ us _ _ (by first | lia | omega) (by first | lia | omega) ((S2.new N3).new N4) (((t1.comp t2).comp N3.gf).comp N4.gf) ((ETs.intr1 N4.at (N4.get N3.at) ((T2.mono N3.fz).mono N4.fz)).le (by first | lia | omega)) ⟨_, _, _, _, rfl, N4.at, by decide +kernel, fun e => by cases e⟩
  have hb5 := of_decide_eq_false hb5
  repeat walk_at "v1"
  refine ⟨fun hb => ?_, fun hb6 => ?_⟩
  · repeat walk_at "v1"
    refine ⟨U, _, _, rfl, S1.logs U hU, ?_⟩
    repeat walk_at "v1"
    refine name_ok g (V.r.le (by first | lia | omega)) S1 (by first | lia | omega) fun x k2 hx S2 t2 => ?_
    have hl := S1.len U hU
    refine ⟨_, S2.logs U hU, len_sz hl (by first | lia | omega), fun k3 U3 => ?_⟩
    have S3 := S2.app hU (okPV_name hx) (by first | lia | omega) U3
    have t3 : GF T Λ k k3 := (t1.comp t2).comp (U3.gf' hU (S2.logs U hU) rfl)
    repeat walk_at "v1"
    refine oIdxL rfl U3.at (.inl ⟨_, rfl⟩) ⟨by decide, by decide⟩ (pyIdx_last (by first | lia | omega)) ?_
    repeat walk_at "v1"
    refine eListF ?_
    repeat walk_at "v1"
    rw [hm1]
    refine he (V.r.le (by first | lia | omega)) S3 (by first | lia | omega) hU fun v1 us1 k4 i4 l1 l2 S4 t4 T4 H4 => ?_
    repeat walk_at "v1"
    refine h0 (V.r.le (by first | lia | omega)) S4 (by rw [eb0]; (first | lia | omega)) hU fun v2 us2 k5 i5 m1 m2 S5 t5 T5 H5 => ?_
    rw [eb0] at m2
    repeat walk_at "v1"
    refine ⟨by simp, fun c6 k6 N6 => ?_⟩
    repeat walk_at "v1"
    refine ⟨by simp, fun c7 k7 N7 => ?_⟩
    have T7 := (((T4.mono t5.fz).cons (T5.le (by first | lia | omega))).mono N6.fz).mono N7.fz
    have S7 := (S5.new N6).new N7
    rw [appL_app, appL_app, ← uL_app, ← uL_cons] at S7
    rw [← uE_app] at T7
    exact h _ (x :: (us1 ++ us2)) _ _ (by first | lia | omega) (by first | lia | omega) S7 ((((t3.comp t4).comp t5).comp N6.gf).comp N7.gf) ((ETs.named1 (by decide +kernel) N7.at (N7.get N6.at) T7).le (by first | lia | omega)) ⟨_, _, _, _, rfl, N7.at, by decide +kernel, fun e => by cases e⟩
  have hb6 := of_decide_eq_false hb6
  repeat walk_at "v1"
  refine ⟨fun hb => ?_, fun hb7 => ?_⟩
  · repeat walk_at "v1"
    refine eListF ?_
    repeat walk_at "v1"
    refine ⟨by simp, fun c2 k2 N2 => ?_⟩
    repeat walk_at "v1"
    refine take_ok g (V.r.le (by first | lia | omega)) (S1.new N2) (by first | lia | omega) (by decide) fun r k3 r0 r1 S3 t3 => ?_
    obtain ⟨v, hv, hv'⟩ := pick2 (a := .str "neg") (b := .str "conv") (j := r) (by first | lia | omega)
    have hk3 : k3 c2 = _ := t3.frz N2.at rfl
    refine oIdxL rfl hk3 (.inl ⟨_, rfl⟩) ⟨by first | lia | omega, by first | lia | omega⟩ hv ?_
    have hvt : ∃ t, v = .str t ∧ t ∈ partTags ∧ t ≠ "ido" := by
      rcases hv' with rfl | rfl
      · exact ⟨_, rfl, by decide +kernel, by decide +kernel⟩
      · exact ⟨_, rfl, by decide +kernel, by decide +kernel⟩
    refine cps fun qZ hZ => ?_
    obtain ⟨t, rfl, ht1, ht2⟩ := hvt
    refine hZ ?_
    clear hZ qZ
    repeat walk_at "v1"
    rw [hm1]
    refine he (V.r.le (by first | lia | omega)) S3 (by first | lia | omega) hU fun v us k4 i4 l1 l2 S4 t4 T4 H4 => ?_
    repeat walk_at "v1"
    refine ⟨by simp, fun c5 k5 N5 => ?_⟩
    exact h _ us _ _ (by first | lia | omega) (by first | lia | omega) (S4.new N5) ((((t1.comp N2.gf).comp t3).comp t4).comp N5.gf) ((ETs.part1 ht1 N5.at (by simp) (T4.mono N5.fz)).le (by first | lia | omega)) ⟨_, _, _, _, rfl, N5.at, ht2, fun e => by cases e⟩
  have hb7 := of_decide_eq_false hb7
  repeat walk_at "v1"
  refine ⟨fun hb => ?_, fun hb8 => ?_⟩
  · repeat walk_at "v1"
    rw [hm1]
    refine he (V.r.le (by first | lia | omega)) S1 (by first | lia | omega) hU fun v1 us1 k4 i4 l1 l2 S4 t4 T4 H4 => ?_
    repeat walk_at "v1"
    refine h0 (V.r.le (by first | lia | omega)) S4 (by rw [eb0]; (first | lia | omega)) hU fun v2 us2 k5 i5 m1 m2 S5 t5 T5 H5 => ?_
    rw [eb0] at m2
    repeat walk_at "v1"
    refine ⟨by simp, fun c6 k6 N6 => ?_⟩
    have T6 := ((T4.mono t5.fz).cons (T5.le (by first | lia | omega))).mono N6.fz
    have S6 := S5.new N6
    rw [appL_app, ← uL_app] at S6
    rw [← uE_app] at T6
    exact h _ (us1 ++ us2) _ _ (by first | lia | omega) (by first | lia | omega) S6 (((t1.comp t4).comp t5).comp N6.gf) ((ETs.part1 (by decide +kernel) N6.at (by simp) T6).le (by first | lia | omega)) ⟨_, _, _, _, rfl, N6.at, by decide +kernel, fun e => by cases e⟩
  have hb8 := of_decide_eq_false hb8
  refine vNil (seq_next (vAssign V rfl (by decide +kernel) ?_))
  repeat walk_at "v1"
  refine eListF ?_
  repeat walk_at "v1"
  refine ⟨by simp, fun c2 k2 N2 => ?_⟩
  repeat walk_at "v1"
  refine take_ok g (V.r.le (by first | lia | omega)) (S1.new N2) (by first | lia | omega) (by decide) fun r k3 r0 r1 S3 t3 => ?_
  obtain ⟨v, hv, hv'⟩ := pick4 (a := .str "add") (b := .str "cat") (c := .str "lt") (d := .str "and") (j := r) (by first | lia | omega)
  have hk3 : k3 c2 = _ := t3.frz N2.at rfl
  refine oIdxL rfl hk3 (.inl ⟨_, rfl⟩) ⟨by first | lia | omega, by first | lia | omega⟩ hv ?_
  have hvt : ∃ t, v = .str t ∧ t ∈ partTags ∧ t ≠ "ido" := by
    rcases hv' with rfl | rfl | rfl | rfl
    · exact ⟨_, rfl, by decide +kernel, by decide +kernel⟩
    · exact ⟨_, rfl, by decide +kernel, by decide +kernel⟩
    · exact ⟨_, rfl, by decide +kernel, by decide +kernel⟩
    · exact ⟨_, rfl, by decide +kernel, by decide +kernel⟩
  refine cps fun qZ hZ => ?_
  obtain ⟨t, rfl, ht1, ht2⟩ := hvt
  refine hZ ?_
  clear hZ qZ
  repeat walk_at "v1"
  rw [hm1]
  refine he (V.r.le (by first | lia | omega)) S3 (by first | lia | omega) hU fun v1 us1 k4 i4 l1 l2 S4 t4 T4 H4 => ?_
  repeat walk_at "v1"
  rw [hm1]
  refine he (V.r.le (by first | lia | omega)) S4 (by first | lia | omega) hU fun v2 us2 k5 i5 m1 m2 S5 t5 T5 H5 => ?_
  repeat walk_at "v1"
  refine ⟨by simp, fun c6 k6 N6 => ?_⟩
  have T6 := ((T4.mono t5.fz).cons T5).mono N6.fz
  have S6 := S5.new N6
  rw [appL_app, ← uL_app] at S6
  rw [← uE_app] at T6
  exact h _ (us1 ++ us2) _ _ (by first | lia | omega) (by first | lia | omega) S6 (((((t1.comp N2.gf).comp t3).comp t4).comp t5).comp N6.gf) ((ETs.part1 ht1 N6.at (by simp) T6).le (by first | lia | omega)) ⟨_, _, _, _, rfl, N6.at, ht2, fun e => by cases e⟩
end

section
variable {prog : Program} {w : World} {G : Glob'}
theorem exprs (g : Prg G) : ∀ d, ExprOk prog w G d
  | 0 => expr_zero g
  | e + 1 => expr_succ g (expr_zero g) (exprs g e) (target_succ g (expr_zero g) (exprs g e))
theorem targets (g : Prg G) : ∀ d, TargetOk prog w G d
  | 0 => target_zero g
  | e + 1 => target_succ g (expr_zero g) (exprs g e)
variable {A : Around} {k : KH} {P : PV → KH → Prop} {T : Addr} {Λ : Addr → Prop} {i : Int} {f : Addr → List PV}
/-- the forms that are used: small depths, plain bounds -/
theorem e0_ok (g : Prg G) {U : Addr} (hR : Room A 40) (S : GS k T Λ i f) (hi : i ≤ 80000) (hU : Λ U) (h : ∀ v us k' i', i ≤ i' → i' ≤ i + 10 → GS k' T Λ i' (appL f (uL U us)) → GF T Λ k k' → ETs k' 10 [v] (uE us) → Hd k' 0 v → P v k') : OkF prog w G A k "_law_expr" [.ref T, .int 0, .ref U] P :=
  exprs g 0 (hR.le (by first | lia | omega)) S (by rw [eb0]; (first | lia | omega)) hU fun v us k' i' a b c d e f => h v us k' i' a b c d (e.le (by first | lia | omega)) f
theorem e1_ok (g : Prg G) {U : Addr} (hR : Room A 40) (S : GS k T Λ i f) (hi : i ≤ 80000) (hU : Λ U) (h : ∀ v us k' i', i ≤ i' → i' ≤ i + 50 → GS k' T Λ i' (appL f (uL U us)) → GF T Λ k k' → ETs k' 10 [v] (uE us) → Hd k' 1 v → P v k') : OkF prog w G A k "_law_expr" [.ref T, .int 1, .ref U] P :=
  exprs g 1 (hR.le (by first | lia | omega)) S (by rw [ebs, eb0]; (first | lia | omega)) hU fun v us k' i' a b c d e f => h v us k' i' a b c d (e.le (by first | lia | omega)) f
theorem e2_ok (g : Prg G) {U : Addr} (hR : Room A 40) (S : GS k T Λ i f) (hi : i ≤ 80000) (hU : Λ U) (h : ∀ v us k' i', i ≤ i' → i' ≤ i + 250 → GS k' T Λ i' (appL f (uL U us)) → GF T Λ k k' → ETs k' 10 [v] (uE us) → Hd k' 2 v → P v k') : OkF prog w G A k "_law_expr" [.ref T, .int 2, .ref U] P :=
  exprs g 2 (hR.le (by first | lia | omega)) S (by rw [ebs, ebs, eb0]; (first | lia | omega)) hU fun v us k' i' a b c d e f => h v us k' i' a b c d (e.le (by first | lia | omega)) f
theorem t0_ok (g : Prg G) {Sa U : Addr} (hR : Room A 40) (S : GS k T Λ i f) (hi : i ≤ 80000) (hS : Λ Sa) (hU : Λ U) (h : ∀ v n us k' i', i ≤ i' → i' ≤ i + 30 → GS k' T Λ i' (appL f ((Sa, .str n) :: uL U us)) → GF T Λ k k' → TT k' 10 1 v n (uE us) → Hd k' 1 v → P v k') :
    OkF prog w G A k "_law_target" [.ref T, .int 0, .ref Sa, .ref U] P :=
  targets g 0 (hR.le (by first | lia | omega)) S (by show i + 4 + 20 ≤ _; (first | lia | omega)) hS hU fun v n us k' i' a b c d e f => h v n us k' i' a (by change i' ≤ i + 4 + 20 at b; (first | lia | omega)) c d (e.le (by first | lia | omega)) f
theorem t1_ok (g : Prg G) {Sa U : Addr} (hR : Room A 40) (S : GS k T Λ i f) (hi : i ≤ 80000) (hS : Λ Sa) (hU : Λ U) (h : ∀ v n us k' i', i ≤ i' → i' ≤ i + 30 → GS k' T Λ i' (appL f ((Sa, .str n) :: uL U us)) → GF T Λ k k' → TT k' 10 1 v n (uE us) → Hd k' 1 v → P v k') :
    OkF prog w G A k "_law_target" [.ref T, .int 1, .ref Sa, .ref U] P :=
  targets g 1 (hR.le (by first | lia | omega)) S (by show i + 4 + 20 ≤ _; (first | lia | omega)) hS hU fun v n us k' i' a b c d e f => h v n us k' i' a (by change i' ≤ i + 4 + 20 at b; (first | lia | omega)) c d (e.le (by first | lia | omega)) f
theorem t2_ok (g : Prg G) {Sa U : Addr} (hR : Room A 40) (S : GS k T Λ i f) (hi : i ≤ 80000) (hS : Λ Sa) (hU : Λ U) (h : ∀ v n us k' i', i ≤ i' → i' ≤ i + 150 → GS k' T Λ i' (appL f ((Sa, .str n) :: uL U us)) → GF T Λ k k' → TT k' 10 1 v n (uE us) → Hd k' 1 v → P v k') :
    OkF prog w G A k "_law_target" [.ref T, .int 2, .ref Sa, .ref U] P :=
  targets g 2 (hR.le (by first | lia | omega)) S (by show i + 4 + 100 ≤ _; (first | lia | omega)) hS hU fun v n us k' i' a b c d e f => h v n us k' i' a (by change i' ≤ i + 4 + 100 at b; (first | lia | omega)) c d (e.le (by first | lia | omega)) f

/-! the logs of a whole statement: what was told, as events -/
noncomputable def lE (S U M : Addr) (ls : List Ev) : List (Addr × PV) := ls.map fun e => (if e.1 = 0 then S else if e.1 = 1 then U else M, e.2.pv)
theorem lE_app {S U M : Addr} {a b : List Ev} : lE S U M (a ++ b) = lE S U M a ++ lE S U M b := by simp [lE]
theorem lE_uL {S U M : Addr} {us : List Str} : uL U us = lE S U M (uE us) := by
  simp [lE, uL, uE, Key.pv]
theorem lE_set {S U M : Addr} {n : Str} : [(S, PV.str n)] = lE S U M [(0, .s n)] := rfl
theorem lE_use {S U M : Addr} {n : Str} : [(U, PV.str n)] = lE S U M [(1, .s n)] := rfl
theorem lE_lab {S U M : Addr} {n : Int} : [(M, PV.int n)] = lE S U M [(2, .i n)] := rfl
theorem lE_tgt {S U M : Addr} {n : Str} {us : List Str} : ((S, PV.str n) :: uL U us) = lE S U M ((0, .s n) :: uE us) := by
  rw [lE_uL (S := S) (M := M)]; rfl

/-! the items of READ and WRITE -/
noncomputable def ItemsOk (prog : Program) (w : World) (G : Glob') (d : Nat) : Prop := ∀ {A : Around} {k : KH} {P : PV → KH → Prop} {T : Addr} {Λ : Addr → Prop} {i : Int} {f : Addr → List PV} {Sa U M : Addr} {b : Bool}, Room A (45 + d) → GS k T Λ i f → i + 100 * d ≤ 70000 → Λ Sa → Λ U →
  (∀ v es ls k' i', i ≤ i' → i' ≤ i + 100 * (d + 1) → (∀ e, e ∈ es ↔ e ∈ ls) → GS k' T Λ i' (appL f (lE Sa U M ls)) → GF T Λ k k' → IT k' 10 d b v es → P v k') → OkF prog w G A k "_law_items" [.ref T, .int d, .ref Sa, .ref U, .bool b] P

set_option maxHeartbeats 4000000 in
theorem items_all (g : Prg G) : ∀ d, ItemsOk prog w G d := by
  intro d
  induction d with
  | zero =>
    intro A k P T Λ i f Sa U M b hR S hi hS hU h
    refine okF_fn (n := 30) (d := 44) g rfl (hR.le (by first | lia | omega)) (by decide +kernel) rfl fun env A' V => ?_
    have W := V.g
    show OkX prog w G A' env k (setL (setL (setL (setL (setL (fun _ => none) "tape" (.ref T)) "deep" (.int ((0 : Nat) : Int))) "sets" (.ref Sa)) "uses" (.ref U)) "is_read" (.bool b)) (execs (bodyN 30) env) _
    refine vIf V ?_
    repeat walk_at "v1"
    refine ⟨fun hb => absurd (of_decide_eq_true hb) (by first | lia | omega), fun _ => ⟨fun hh => absurd hh (by simp), fun _ => ?_⟩⟩
    repeat walk_at "v1"
    refine ⟨fun hb => ?_, fun hb => ?_⟩
    · subst hb
      repeat walk_at "v1"
      refine eListF ?_
      repeat walk_at "v1"
      refine t1_ok g (V.r.le (by first | lia | omega)) S (by first | lia | omega) hS hU fun v n us k2 i2 l1 l2 S2 t2 T2 H2 => ?_
      repeat walk_at "v1"
      refine ⟨by simp, fun c k3 N3 => ?_⟩
      refine cps fun qZ hZ => ?_
      obtain ⟨a, t, c', l, b1, b2, b3, _⟩ := H2
      refine hZ ?_
      clear hZ qZ
      have := S2.new N3
      rw [lE_tgt (M := M)] at this
      exact h _ _ _ _ _ (by first | lia | omega) (by first | lia | omega) (fun e => Iff.rfl) this (t2.comp N3.gf) (.read N3.at (T2.mono N3.fz) ⟨a, t, _, b1, N3.get b2, b3⟩)
    · subst hb
      repeat walk_at "v1"
      refine eListF ?_
      repeat walk_at "v1"
      refine e1_ok g (V.r.le (by first | lia | omega)) S (by first | lia | omega) hU fun v us k2 i2 l1 l2 S2 t2 T2 H2 => ?_
      repeat walk_at "v1"
      refine ⟨by simp, fun c k3 N3 => ?_⟩
      repeat walk_at "v1"
      refine ⟨by simp, fun c4 k4 N4 => ?_⟩
      refine cps fun qZ hZ => ?_
      obtain ⟨a, t, c', l, rfl, b2, b3, _⟩ := H2
      refine hZ ?_
      clear hZ qZ
      have := (S2.new N3).new N4
      rw [lE_uL (S := Sa) (M := M)] at this
      have hT := ((T2.mono N3.fz).mono N4.fz).cons (ETs.const (N4.get N3.at) .nil)
      rw [List.append_nil] at hT
      exact h _ _ _ _ _ (by first | lia | omega) (by first | lia | omega) (fun e => Iff.rfl) this ((t2.comp N3.gf).comp N4.gf) (.write N4.at (N4.get (N3.get b2)) b3 (N4.get N3.at) hT)
  | succ e ih =>
    intro A k P T Λ i f Sa U M b hR S hi hS hU h
    refine okF_fn (n := 30) (d := 45 + e) g rfl (hR.le (by first | lia | omega)) (by decide +kernel) rfl fun env A' V => ?_
    have W := V.g
    have hm1 : (((e + 1 : Nat) : Int)) - 1 = (e : Int) := by first | lia | omega
    show OkX prog w G A' env k (setL (setL (setL (setL (setL (fun _ => none) "tape" (.ref T)) "deep" (.int ((e + 1 : Nat) : Int))) "sets" (.ref Sa)) "uses" (.ref U)) "is_read" (.bool b)) (execs (bodyN 30) env) _
    refine vIf V ?_
    repeat walk_at "v1"
    refine ⟨fun _ => ?_, fun hb => absurd (of_decide_eq_false hb) (by first | lia | omega)⟩
    repeat walk_at "v1"
    refine take_ok g (V.r.le (by first | lia | omega)) S (by first | lia | omega) (by decide) fun j k1 j0 j1 S1 t1 => ?_
    repeat walk_at "v1"
    refine ⟨fun hb => ?_, fun hb => ?_⟩
    · repeat walk_at "v1"
      refine ⟨fun _ => ?_, fun hh => absurd hh (by simp)⟩
      repeat walk_at "v1"
      rw [hm1]
      refine ih (M := M) (V.r.le (by first | lia | omega)) S1 (by first | lia | omega) hS hU fun v0 es0 ls0 k2 i2 l1 l2 E0 S2 t2 T2 => ?_
      repeat walk_at "v1"
      refine eListF ?_
      repeat walk_at "v1"
      refine ⟨by simp, fun c3 k3 N3 => ?_⟩
      repeat walk_at "v1"
      refine ⟨by simp, fun c4 k4 N4 => ?_⟩
      repeat walk_at "v1"
      refine take_ok g (V.r.le (by first | lia | omega)) ((S2.new N3).new N4) (by first | lia | omega) (by decide) fun r k5 r0 r1 S5 t5 => ?_
      obtain ⟨v5, hv, hv'⟩ := pick2 (a := .none) (b := .ref c3) (j := r) (by first | lia | omega)
      have hk5 : k5 c4 = _ := t5.frz N4.at rfl
      refine oIdxL rfl hk5 (.inl ⟨_, rfl⟩) ⟨by first | lia | omega, by first | lia | omega⟩ hv ?_
      have T5 : ETs k5 10 [v5] [] := by
        rcases hv' with rfl | rfl
        · exact .none .nil
        · exact .const (t5.frz (N4.get N3.at) rfl) .nil
      repeat walk_at "v1"
      refine ⟨Sa, _, _, rfl, S5.logs Sa hS, ?_⟩
      repeat walk_at "v1"
      refine name_ok g (V.r.le (by first | lia | omega)) S5 (by first | lia | omega) fun x k6 hx S6 t6 => ?_
      have hl := S5.len Sa hS
      refine ⟨_, S6.logs Sa hS, len_sz hl (by first | lia | omega), fun k7 U7 => ?_⟩
      have S7 := S6.app hS (okPV_name hx) (by first | lia | omega) U7
      have t7 : GF T Λ k6 k7 := U7.gf' hS (S6.logs Sa hS) rfl
      repeat walk_at "v1"
      refine oIdxL rfl U7.at (.inl ⟨_, rfl⟩) ⟨by decide, by decide⟩ (pyIdx_last (by first | lia | omega)) ?_
      repeat walk_at "v1"
      refine ⟨by simp, fun c8 k8 N8 => ?_⟩
      repeat walk_at "v1"
      refine eListF ?_
      repeat walk_at "v1"
      refine e0_ok g (V.r.le (by first | lia | omega)) (S7.new N8) (by first | lia | omega) hU fun v9 us9 k9 i9 m1 m2 S9 t9 T9 H9 => ?_
      repeat walk_at "v1"
      refine e1_ok g (V.r.le (by first | lia | omega)) S9 (by first | lia | omega) hU fun va usa ka ia n1 n2 Sa' ta Ta Ha => ?_
      repeat walk_at "v1"
      refine ⟨by simp, fun cb kb Nb => ?_⟩
      repeat walk_at "v1"
      refine ⟨by simp, fun cc kc Nc => ?_⟩
      have f8c : Fz k8 kc := ((t9.comp ta).fz.comp Nb.fz).comp Nc.fz
      have f5c : Fz k5 kc := (((t6.comp t7).fz.comp N8.fz)).comp f8c
      have f2c : Fz k2 kc := ((N3.fz.comp N4.fz).comp t5.fz).comp f5c
      have E : ETs kc 10 [v9, va, v5] (uE us9 ++ (uE usa ++ [])) := (T9.mono ((ta.fz.comp Nb.fz).comp Nc.fz)).cons ((Ta.mono (Nb.fz.comp Nc.fz)).cons (T5.mono f5c))
      have tt : GF T Λ k kc := ((((((t1.comp t2).comp N3.gf).comp N4.gf).comp t5).comp (t6.comp t7)).comp N8.gf).comp (((t9.comp ta).comp Nb.gf).comp Nc.gf)
      have SS := (Sa'.new Nb).new Nc
      rw [appL_app, appL_app, appL_app, lE_uL (S := Sa) (M := M) (us := us9), lE_uL (S := Sa) (M := M) (us := usa), lE_set (U := U) (M := M), ← lE_app, ← lE_app, ← lE_app] at SS
      refine h _ _ _ _ _ (by first | lia | omega) (by first | lia | omega) (fun x => ?_) SS tt (.ido Nc.at (Nc.get Nb.at) (f8c _ _ N8.at rfl) E (T2.mono f2c))
      grind
    · repeat walk_at "v1"
      refine ⟨fun hh => absurd hh (by simp), fun _ => ?_⟩
      repeat walk_at "v1"
      refine ⟨fun hb => ?_, fun hb => ?_⟩
      · subst hb
        repeat walk_at "v1"
        refine eListF ?_
        repeat walk_at "v1"
        refine t1_ok g (V.r.le (by first | lia | omega)) S1 (by first | lia | omega) hS hU fun v n us k2 i2 l1 l2 S2 t2 T2 H2 => ?_
        repeat walk_at "v1"
        refine ⟨by simp, fun c k3 N3 => ?_⟩
        refine cps fun qZ hZ => ?_
        obtain ⟨a, t, c', l, b1, b2, b3, _⟩ := H2
        refine hZ ?_
        clear hZ qZ
        have := S2.new N3
        rw [lE_tgt (M := M)] at this
        exact h _ _ _ _ _ (by first | lia | omega) (by first | lia | omega) (fun e => Iff.rfl) this ((t1.comp t2).comp N3.gf) (.read N3.at (T2.mono N3.fz) ⟨a, t, _, b1, N3.get b2, b3⟩)
      · subst hb
        repeat walk_at "v1"
        refine eListF ?_
        repeat walk_at "v1"
        refine e1_ok g (V.r.le (by first | lia | omega)) S1 (by first | lia | omega) hU fun v us k2 i2 l1 l2 S2 t2 T2 H2 => ?_
        repeat walk_at "v1"
        refine ⟨by simp, fun c k3 N3 => ?_⟩
        repeat walk_at "v1"
        refine ⟨by simp, fun c4 k4 N4 => ?_⟩
        refine cps fun qZ hZ => ?_
        obtain ⟨a, t, c', l, rfl, b2, b3, _⟩ := H2
        refine hZ ?_
        clear hZ qZ
        have := (S2.new N3).new N4
        rw [lE_uL (S := Sa) (M := M)] at this
        have hT := ((T2.mono N3.fz).mono N4.fz).cons (ETs.const (N4.get N3.at) .nil)
        rw [List.append_nil] at hT
        exact h _ _ _ _ _ (by first | lia | omega) (by first | lia | omega) (fun e => Iff.rfl) this (((t1.comp t2).comp N3.gf).comp N4.gf) (.write N4.at (N4.get (N3.get b2)) b3 (N4.get N3.at) hT)
end

section
variable {prog : Program} {w : World} {G : Glob'} {A : Around} {k : KH} {P : PV → KH → Prop} {T : Addr} {Λ : Addr → Prop} {i : Int} {f : Addr → List PV} {Sa U M : Addr}

/-- what a statement's maker promises -/
noncomputable def JumpPost (T : Addr) (Λ : Addr → Prop) (i : Int) (f : Addr → List PV) (Sa U M : Addr) (k : KH) (b : Int) (R : KH → PV → List Ev → Prop) (P : PV → KH → Prop) : Prop :=
  ∀ v es ls k' i', i ≤ i' → i' ≤ i + b → (∀ e, e ∈ es ↔ e ∈ ls) → GS k' T Λ i' (appL f (lE Sa U M ls)) → GF T Λ k k' → R k' v es → P v k'

set_option maxHeartbeats 4000000 in
theorem jump_ok (g : Prg G) {way : Int} (hR : Room A 50) (S : GS k T Λ i f) (hi : i ≤ 60000) (hS : Λ Sa) (hU : Λ U) (hM : Λ M) (hMS : Sa ≠ M) (hw : 1 ≤ way ∧ way ≤ 6) (h : JumpPost T Λ i f Sa U M k 500 (fun k' => JT k' 10) P) :
    OkF prog w G A k "_law_jump" [.ref T, .int way, .ref Sa, .ref U, .ref M] P := by
  refine okF_fn (n := 33) (d := 49) g rfl hR (by decide +kernel) rfl fun env A' V => ?_
  have W := V.g
  show OkX prog w G A' env k (setL (setL (setL (setL (setL (fun _ => none) "tape" (.ref T)) "way" (.int way)) "sets" (.ref Sa)) "uses" (.ref U)) "marks" (.ref M)) (execs (bodyN 33) env) _
  refine vIf V ?_
  repeat walk_at "v1"
  refine ⟨fun hb => ?_, fun h1 => ?_⟩
  · repeat walk_at "v1"
    refine label_ok g (V.r.le (by first | lia | omega)) S (by first | lia | omega) hM fun l k1 l0 l1 S1 t1 => ?_
    repeat walk_at "v1"
    refine ⟨by simp, fun c2 k2 N2 => ?_⟩
    have S2 := S1.new N2
    rw [lE_lab (S := Sa) (U := U)] at S2
    exact h _ _ _ _ _ (by first | lia | omega) (by first | lia | omega) (fun e => Iff.rfl) S2 (t1.comp N2.gf) (.goto N2.at)
  have h1 := of_decide_eq_false h1
  repeat walk_at "v1"
  refine ⟨fun hb => ?_, fun h2 => ?_⟩
  · repeat walk_at "v1"
    refine eListF ?_
    repeat walk_at "v1"
    refine label_ok g (V.r.le (by first | lia | omega)) S (by first | lia | omega) hM fun l k1 l0 l1 S1 t1 => ?_
    repeat walk_at "v1"
    refine label_ok g (V.r.le (by first | lia | omega)) S1 (by first | lia | omega) hM fun l' k2 m0 m1 S2 t2 => ?_
    repeat walk_at "v1"
    refine ⟨by simp, fun c3 k3 N3 => ?_⟩
    repeat walk_at "v1"
    refine e1_ok g (V.r.le (by first | lia | omega)) (S2.new N3) (by first | lia | omega) hU fun v us k4 i4 n1 n2 S4 t4 T4 H4 => ?_
    repeat walk_at "v1"
    refine ⟨by simp, fun c5 k5 N5 => ?_⟩
    have S5 := S4.new N5
    rw [appL_app, appL_app, lE_lab (S := Sa) (U := U), lE_lab (S := Sa) (U := U), lE_uL (S := Sa) (M := M), ← lE_app, ← lE_app] at S5
    exact h _ _ _ _ _ (by first | lia | omega) (by first | lia | omega) (fun e => by simp) S5 (((t1.comp t2).comp N3.gf).comp (t4.comp N5.gf)) (.cgoto (ls := [l, l']) N5.at (N5.get (t4.frz N3.at rfl)) (T4.mono N5.fz))
  have h2 := of_decide_eq_false h2
  repeat walk_at "v1"
  refine ⟨fun hb => ?_, fun h3 => ?_⟩
  · repeat walk_at "v1"
    refine ⟨U, _, _, rfl, S.logs U hU, ?_⟩
    repeat walk_at "v1"
    refine name_ok g (V.r.le (by first | lia | omega)) S (by first | lia | omega) fun x k1 hx S1 t1 => ?_
    have hl := S.len U hU
    refine ⟨_, S1.logs U hU, len_sz hl (by first | lia | omega), fun k2 U2 => ?_⟩
    have S2 := S1.app hU (okPV_name hx) (by first | lia | omega) U2
    have t2 : GF T Λ k1 k2 := U2.gf' hU (S1.logs U hU) rfl
    repeat walk_at "v1"
    refine oIdxL rfl U2.at (.inl ⟨_, rfl⟩) ⟨by decide, by decide⟩ (pyIdx_last (by first | lia | omega)) ?_
    repeat walk_at "v1"
    refine okE_comp (caps := ["marks", "tape"]) V.r.handled V.e (by rw [V.s]; decide +kernel) okGs_e (fun _ => rfl) ?_
    refine okE_range g W (by decide +kernel) rfl ?_
    repeat walk_at "v1"
    refine take_ok g (V.r.le (by first | lia | omega)) S2 (by first | lia | omega) (by decide) fun r k3 r0 r1 S3 t3 => ?_
    repeat walk_at "v1"
    refine fun c k5 N5 => ⟨_, _, src_range (n := r.toNat) (by first | lia | omega) (by rw [show ((r.toNat : Nat) : Int) = r by first | lia | omega]; exact N5.at), ?_⟩
    refine wpCompE (fun its acc k' => ∃ (ls : List Int) (i' : Int), acc = ls.map .int ∧ GS k' T Λ i' (appL f ((U, .str x) :: ls.map fun l => (M, .int l))) ∧ GF T Λ k k' ∧ i ≤ i' ∧ i' + its.length ≤ i + 10 ∧ acc.length + its.length ≤ 10)
      (fun its acc k' ⟨us, i', a1, a2, a3, a4, a5, a6⟩ => ⟨trivial, sz_le (by first | lia | omega)⟩) (fun v its acc k6 hJ => ?hb) (fun acc k6 hJ => ?he) _ _ _ ?h0
    case hb =>
      refine cps fun qZ hZ => ?_
      obtain ⟨ls, i', rfl, S6, t6, l1, l2, l3⟩ := hJ
      refine hZ ?_
      clear hZ qZ
      intro cenv hs hE
      have W' := envG_rel hs hE
      rw [List.length_cons] at l2 l3
      repeat walk_at "v1"
      refine label_ok g (V.r.le (by first | lia | omega)) S6 (by first | lia | omega) hM fun l k7 m0 m1 S7 t7 => ?_
      refine ⟨ls ++ [l], i' + 1, by simp, ?_, t6.comp t7, by first | lia | omega, by first | lia | omega, by simp at l3 ⊢; (first | lia | omega)⟩
      rw [appL_app] at S7
      simpa using S7
    case he =>
      refine cps fun qZ hZ => ?_
      obtain ⟨ls, i', rfl, S6, t6, l1, l2, l3⟩ := hJ
      refine hZ ?_
      clear hZ qZ
      refine ⟨PO.list true (ls.map .int), Or.inl ⟨true, rfl⟩, fun c k7 N7 => ?_⟩
      have N7 : New k6 c (.list true (ls.map .int)) k7 := N7
      repeat walk_at "v1"
      refine ⟨by simp, fun c' k8 N8 => ?_⟩
      have S8 := (S6.new N7).new N8
      have e1 : ((U, PV.str x) :: ls.map fun l => (M, PV.int l)) = lE Sa U M ((1, .s x) :: List.map (fun l => ((2, .i l) : Ev)) ls) := by simp [lE, Key.pv]
      rw [e1] at S8
      exact h _ _ _ _ _ (by first | lia | omega) (by simp at l2; (first | lia | omega)) (fun e => Iff.rfl) S8 ((t6.comp N7.gf).comp N8.gf) (.agoto N8.at (N8.get N7.at))
    case h0 =>
      refine ⟨[], i + 1 + 1, rfl, S3.new N5, ((t1.comp t2).comp t3).comp N5.gf, by first | lia | omega, ?_, ?_⟩
      · rw [List.length_map, List.length_range]; (first | lia | omega)
      · rw [List.length_nil, List.length_map, List.length_range]; (first | lia | omega)
  have h3 := of_decide_eq_false h3
  repeat walk_at "v1"
  refine ⟨fun hb => ?_, fun h4 => ?_⟩
  · repeat walk_at "v1"
    refine e1_ok g (V.r.le (by first | lia | omega)) S (by first | lia | omega) hU fun v us k4 i4 n1 n2 S4 t4 T4 H4 => ?_
    repeat walk_at "v1"
    refine label_ok g (V.r.le (by first | lia | omega)) S4 (by first | lia | omega) hM fun l1 k5 a1 b1 S5 t5 => ?_
    repeat walk_at "v1"
    refine label_ok g (V.r.le (by first | lia | omega)) S5 (by first | lia | omega) hM fun l2 k6 a2 b2 S6 t6 => ?_
    repeat walk_at "v1"
    refine label_ok g (V.r.le (by first | lia | omega)) S6 (by first | lia | omega) hM fun l3 k7 a3 b3 S7 t7 => ?_
    repeat walk_at "v1"
    refine ⟨by simp, fun c8 k8 N8 => ?_⟩
    have S8 := S7.new N8
    rw [appL_app, appL_app, appL_app, lE_lab (S := Sa) (U := U), lE_lab (S := Sa) (U := U), lE_lab (S := Sa) (U := U), lE_uL (S := Sa) (M := M), ← lE_app, ← lE_app, ← lE_app] at S8
    have tt : GF T Λ k4 k8 := (((t5.comp t6).comp t7).comp N8.gf)
    exact h _ _ _ _ _ (by first | lia | omega) (by first | lia | omega) (fun e => by simp) S8 (t4.comp tt) (.aif (ls := [l1, l2, l3]) N8.at rfl (T4.mono tt.fz))
  have h4 := of_decide_eq_false h4
  repeat walk_at "v1"
  refine ⟨fun hb => ?_, fun h5 => ?_⟩
  · repeat walk_at "v1"
    refine ⟨Sa, _, _, rfl, S.logs Sa hS, ?_⟩
    repeat walk_at "v1"
    refine name_ok g (V.r.le (by first | lia | omega)) S (by first | lia | omega) fun x k1 hx S1 t1 => ?_
    have hl := S.len Sa hS
    refine ⟨_, S1.logs Sa hS, len_sz hl (by first | lia | omega), fun k2 U2 => ?_⟩
    have S2 := S1.app hS (okPV_name hx) (by first | lia | omega) U2
    have t2 : GF T Λ k1 k2 := U2.gf' hS (S1.logs Sa hS) rfl
    repeat walk_at "v1"
    refine label_ok g (V.r.le (by first | lia | omega)) S2 (by first | lia | omega) hM fun l k3 a1 b1 S3 t3 => ?_
    repeat walk_at "v1"
    have hk3 : k3 Sa = some (.list false (f Sa ++ [.str x])) := by
      have := S3.logs Sa hS
      rw [appL_ne hMS, appL_one] at this; exact this
    refine oIdxL rfl hk3 (.inl ⟨_, rfl⟩) ⟨by decide, by decide⟩ (pyIdx_last (by first | lia | omega)) ?_
    repeat walk_at "v1"
    refine ⟨by simp, fun c4 k4 N4 => ?_⟩
    have S4 := S3.new N4
    rw [appL_app, lE_lab (S := Sa) (U := U), lE_set (U := U) (M := M), ← lE_app] at S4
    exact h _ _ _ _ _ (by first | lia | omega) (by first | lia | omega) (fun e => by simp [or_comm]) S4 (((t1.comp t2).comp t3).comp N4.gf) (.setlabel N4.at)
  have h5 := of_decide_eq_false h5
  repeat walk_at "v1"
  refine label_ok g (V.r.le (by first | lia | omega)) S (by first | lia | omega) hM fun l k3 a1 b1 S3 t3 => ?_
  repeat walk_at "v1"
  refine t0_ok g (V.r.le (by first | lia | omega)) S3 (by first | lia | omega) hS hU fun v n us k4 i4 l1 l2 S4 t4 T4 H4 => ?_
  repeat walk_at "v1"
  refine e0_ok g (V.r.le (by first | lia | omega)) S4 (by first | lia | omega) hU fun v5 us5 k5 i5 m1 m2 S5 t5 T5 H5 => ?_
  repeat walk_at "v1"
  refine e1_ok g (V.r.le (by first | lia | omega)) S5 (by first | lia | omega) hU fun v6 us6 k6 i6 n1 n2 S6 t6 T6 H6 => ?_
  repeat walk_at "v1"
  refine ⟨by simp, fun c7 k7 N7 => ?_⟩
  repeat walk_at "v1"
  refine ⟨by simp, fun c8 k8 N8 => ?_⟩
  have S8 := (S6.new N7).new N8
  have f68 : Fz k6 k8 := N7.fz.comp N8.fz
  have E : ETs k8 10 [v5, v6, .ref c7] (uE us5 ++ (uE us6 ++ [])) := (T5.mono (t6.fz.comp f68)).cons ((T6.mono f68).cons (.const (N8.get N7.at) .nil))
  rw [appL_app, appL_app, appL_app, lE_tgt (M := M), lE_lab (S := Sa) (U := U), lE_uL (S := Sa) (M := M) (us := us5), lE_uL (S := Sa) (M := M) (us := us6), ← lE_app, ← lE_app, ← lE_app] at S8
  exact h _ _ _ _ _ (by first | lia | omega) (by first | lia | omega) (fun e => by grind) S8 ((((t3.comp t4).comp t5).comp t6).comp (N7.gf.comp N8.gf)) (.doo N8.at (T4.mono ((t5.fz.comp t6.fz).comp f68)) E)
end

section
variable {prog : Program} {w : World} {G : Glob'} {A : Around} {k : KH} {P : PV → KH → Prop} {T : Addr} {Λ : Addr → Prop} {i : Int} {f : Addr → List PV} {Sa U M : Addr} {m : Loc} {env : Env} {sc : Scope} {d : Nat} {rest : List Stmt} {PX : Fl → Loc → KH → Prop}

/-- an if whose ways meet again -/
theorem vIfJ {test : PySem.Expr} {body orelse : List Stmt} {pos : Pos} (Q : Loc → KH → Prop) (V : EnvOk G env A sc d)
    (h : OkC prog w G A env k m (isTrue test env (eval test env)) fun b k' => (b = true → OkX prog w G A env k' m (execs body env) fun fl m' k2 => fl = .next ∧ Q m' k2) ∧ (b = false → OkX prog w G A env k' m (execs orelse env) fun fl m' k2 => fl = .next ∧ Q m' k2))
    (hr : ∀ m' k', Q m' k' → OkX prog w G A env k' m' (execs rest env) PX) : OkX prog w G A env k m (execs (.If test body orelse pos :: rest) env) PX :=
  vIf V (okC_mono h fun b k' ⟨h1, h2⟩ => ⟨fun e => okX_mono (h1 e) fun fl m' k2 ⟨e1, e2⟩ => by subst e1; exact hr m' k2 e2, fun e => okX_mono (h2 e) fun fl m' k2 ⟨e1, e2⟩ => by subst e1; exact hr m' k2 e2⟩)
theorem okF_fnZ {d n : Nat} {f : Str} {vs : List PV} (g : Prg G) (hn : nameN n = some f) (hR : Room A (d + 1)) (hs : scopeOk (scopeN n) (psN n) = true) (hl : vs.length = (psN n).length)
    (h : ∀ env A', EnvOk G env A' (scopeN n) d → OkX prog w G A' env k (bindLoc (psN n) vs fun _ => none) (execs (bodyN n) env) fun fl _ k' => ∃ k'', Frzs k' k'' ∧ P (retOf fl) k'') : OkF prog w G A k f vs P := fun a ha => by
  obtain ⟨a', ha', hf⟩ := (g.fn n f hn).ex
  rw [ha] at ha'; cases ha'
  refine okK_fn g.good hR hf hs hl fun env A' e1 e2 e3 e4 => h env A' ⟨e1, e2, e3, e4, ?_⟩
  unfold interactive
  simp only [scopeOk, Bool.and_eq_true, decide_eq_true_eq] at hs
  rw [e1, hs.1.2]; rfl

/-- the control list while it is made -/
noncomputable def CS (k : KH) (C : Addr) (word : Str) (ls : List Ev) (dn : List Str) : Prop :=
  ∃ rows ev, k C = some (.dictS false rows) ∧ (rows.map (·.1)).Nodup ∧ rows.length ≤ 2 + dn.length ∧ CT k 10 word rows ev ∧ (∀ x, x ∉ dn → ev x = []) ∧ ∀ e, (e ∈ (rows.map (·.1)).flatMap ev ↔ e ∈ ls)

theorem GF.keep {k k' : KH} {C : Addr} {rows : List (Str × PV)} {b : Bool} (S : GS k T Λ i f) (t : GF T Λ k k') (h : k C = some (.dictS b rows)) : k' C = some (.dictS b rows) := by
  refine t.out h ?_
  rintro (e | e)
  · refine cps fun qZ hZ => ?_
    obtain ⟨S', ns, h1, _⟩ := S.tape
    refine hZ ?_
    clear hZ qZ
    rw [e, h1] at h; cases h
  · rw [S.logs C e] at h; cases h
theorem CS.keep {k k' : KH} {C : Addr} {word : Str} {ls : List Ev} {dn : List Str} (h : CS k C word ls dn) (S : GS k T Λ i f) (t : GF T Λ k k') : CS k' C word ls dn := by
  refine cps fun qZ hZ => ?_
  obtain ⟨rows, ev, h1, h2, h3, h4, h5, h6⟩ := h
  refine hZ ?_
  clear hZ qZ
  exact ⟨rows, ev, GF.keep S t h1, h2, h3, fun x v hx => (h4 x v hx).mono t.fz, h5, h6⟩
theorem CS.weak {k : KH} {C : Addr} {word : Str} {ls : List Ev} {dn : List Str} {x : Str} (h : CS k C word ls dn) : CS k C word ls (x :: dn) := by
  refine cps fun qZ hZ => ?_
  obtain ⟨rows, ev, h1, h2, h3, h4, h5, h6⟩ := h
  refine hZ ?_
  clear hZ qZ
  exact ⟨rows, ev, h1, h2, by rw [List.length_cons]; (first | lia | omega), h4, fun y hy => h5 y fun z => hy (.tail _ z), h6⟩
theorem putP_keys (rows : List (Str × PV)) (x : Str) (v : PV) : (putP rows x v).map (·.1) = if x ∈ rows.map (·.1) then rows.map (·.1) else rows.map (·.1) ++ [x] := by
  unfold putP
  by_cases h : x ∈ rows.map (·.1)
  · have : (rows.any fun p => p.1 = x) = true := by
      obtain ⟨p, hp, e⟩ := List.mem_map.mp h
      exact List.any_eq_true.mpr ⟨p, hp, by simp [e]⟩
    rw [if_pos this, if_pos h, List.map_map]
    apply List.map_congr_left
    intro p _
    simp only [Function.comp]
    split <;> rfl
  · have : ¬ (rows.any fun p => p.1 = x) = true := fun e => by
      obtain ⟨p, hp, e⟩ := List.any_eq_true.mp e
      exact h (List.mem_map.mpr ⟨p, hp, by simpa using e⟩)
    rw [if_neg this, if_neg h, List.map_append]; rfl
theorem putP_mem {rows : List (Str × PV)} {x y : Str} {v u : PV} (h : (y, u) ∈ putP rows x v) : (y = x ∧ u = v) ∨ (y ≠ x ∧ (y, u) ∈ rows) := by
  unfold putP at h
  split at h
  · obtain ⟨p, hp, e⟩ := List.mem_map.mp h
    split at e
    · rename_i q; cases e; exact .inl ⟨q, rfl⟩
    · rename_i q; cases e; exact .inr ⟨q, hp⟩
  · rename_i hn
    rcases List.mem_append.mp h with h | h
    · refine .inr ⟨fun e => hn (List.any_eq_true.mpr ⟨_, h, by simp [e]⟩), h⟩
    · rw [List.mem_singleton] at h; cases h; exact .inl ⟨rfl, rfl⟩
theorem CS.store {k k' : KH} {C : Addr} {word : Str} {ls lsn es : List Ev} {dn : List Str} {x : Str} {v : PV} {rows : List (Str × PV)} {ev : Str → List Ev}
    (h1 : k C = some (.dictS false rows)) (h2 : (rows.map (·.1)).Nodup) (h3 : rows.length ≤ 2 + dn.length) (h4 : CT k 10 word rows ev) (h5 : ∀ x, x ∉ dn → ev x = []) (h6 : ∀ e, (e ∈ (rows.map (·.1)).flatMap ev ↔ e ∈ ls))
    (hx : x ∉ dn) (Up : Upd k C (.dictS false (putP rows x v)) k') (hv : CV k 10 word x v es) (he : ∀ e, e ∈ es ↔ e ∈ lsn) : CS k' C word (ls ++ lsn) (x :: dn) := by
  have fz : Fz k k' := (Up.trans h1 rfl).fz
  refine ⟨putP rows x v, fun y => if y = x then es else ev y, Up.at, ?_, ?_, ?_, ?_, ?_⟩
  · rw [putP_keys]
    split
    · exact h2
    · rename_i hn
      rw [List.nodup_append]
      exact ⟨h2, by simp, fun a ha b hb => by rw [List.mem_singleton] at hb; subst hb; exact fun e => hn (e ▸ ha)⟩
  · have := congrArg List.length (putP_keys rows x v)
    rw [List.length_map] at this
    rw [this, List.length_cons]
    split
    · rw [List.length_map]; (first | lia | omega)
    · rw [List.length_append, List.length_map, List.length_singleton]; (first | lia | omega)
  · intro y u hy
    rcases putP_mem hy with ⟨rfl, rfl⟩ | ⟨hn, hy⟩
    · simp only [if_true]; exact hv.mono fz
    · simp only [if_neg hn]; exact (h4 y u hy).mono fz
  · intro y hy
    rw [List.mem_cons, not_or] at hy
    simp only [if_neg hy.1]; exact h5 y hy.2
  · intro e
    rw [List.mem_append, ← h6, ← he, putP_keys]
    simp only [List.mem_flatMap]
    constructor
    · rintro ⟨y, hy, hye⟩
      by_cases e' : y = x
      · simp only [e', if_true] at hye; exact .inr hye
      · simp only [if_neg e'] at hye
        refine .inl ⟨y, ?_, hye⟩
        split at hy
        · exact hy
        · rcases List.mem_append.mp hy with z | z
          · exact z
          · rw [List.mem_singleton] at z; exact absurd z e'
    · rintro (⟨y, hy, hye⟩ | hye)
      · have hyx : y ≠ x := fun e' => by rw [e', h5 x hx] at hye; cases hye
        refine ⟨y, ?_, by simp only [if_neg hyx]; exact hye⟩
        split
        · exact hy
        · exact List.mem_append_left _ hy
      · refine ⟨x, ?_, by simp only [if_true]; exact hye⟩
        split
        · assumption
        · exact List.mem_append_right _ (by simp)
theorem frzs_one {k : KH} {C : Addr} {rows : List (Str × PV)} (h : k C = some (.dictS false rows)) : Frzs k (upd k C (.dictS true rows)) := fun a => by
  by_cases e : a = C
  · subst e; exact .inr ⟨_, h, upd_at⟩
  · exact .inl (upd_ne e)
theorem fz_one {k : KH} {C : Addr} {rows : List (Str × PV)} (h : k C = some (.dictS false rows)) : Fz k (upd k C (.dictS true rows)) := fun a p e hf => by
  by_cases z : a = C
  · subst z; rw [h] at e; cases e; cases hf
  · rw [upd_ne z]; exact e
theorem GS.frz {k : KH} {C : Addr} {rows : List (Str × PV)} (S : GS k T Λ i f) (h : k C = some (.dictS false rows)) : GS (upd k C (.dictS true rows)) T Λ i f where
  tape := by
    refine cps fun qZ hZ => ?_
    obtain ⟨S', ns, h1, h2, h3⟩ := S.tape
    refine hZ ?_
    clear hZ qZ
    exact ⟨S', ns, by rw [upd_ne (fun e => by rw [e, h] at h1; cases h1)]; exact h1, by rw [upd_ne (fun e => by rw [e, h] at h2; cases h2)]; exact h2, h3⟩
  pos := S.pos
  logs := fun a ha => by
    have := S.logs a ha
    rw [upd_ne (fun e => by rw [e, h] at this; cases this)]; exact this
  len := S.len
  val := S.val
theorem gf_frz {k0 k : KH} {C : Addr} {rows : List (Str × PV)} (t : GF T Λ k0 k) (h0 : k0 C = none) : GF T Λ k0 (upd k C (.dictS true rows)) := fun a p e x => by
  rw [upd_ne (fun z => by rw [z, h0] at e; cases e)]; exact t a p e x

theorem GS.updD {k k' : KH} {C : Addr} {b : Bool} {rows : List (Str × PV)} {p : PO} (S : GS k T Λ i f) (h : k C = some (.dictS b rows)) (Up : Upd k C p k') : GS k' T Λ i f where
  tape := by
    refine cps fun qZ hZ => ?_
    obtain ⟨S', ns, h1, h2, h3⟩ := S.tape
    refine hZ ?_
    clear hZ qZ
    exact ⟨S', ns, by rw [Up.ne (fun e => by rw [e, h] at h1; cases h1)]; exact h1, by rw [Up.ne (fun e => by rw [e, h] at h2; cases h2)]; exact h2, h3⟩
  pos := S.pos
  logs := fun a ha => by
    have := S.logs a ha
    rw [Up.ne (fun e => by rw [e, h] at this; cases this)]; exact this
  len := S.len
  val := S.val
theorem gf_updD {k0 k k' : KH} {C : Addr} {p : PO} (t : GF T Λ k0 k) (h0 : k0 C = none) (Up : Upd k C p k') : GF T Λ k0 k' := fun a q e x => by
  rw [Up.ne (fun z => by rw [z, h0] at e; cases e)]; exact t a q e x

/-- between the ifs -/
noncomputable def IoQ (T : Addr) (Λ : Addr → Prop) (i : Int) (f : Addr → List PV) (Sa U M : Addr) (k0 : KH) (C : Addr) (word : Str) (b : Int) (dn : List Str) (m0 : Loc) (m : Loc) (k : KH) : Prop :=
  m = m0 ∧ ∃ i' ls, i ≤ i' ∧ i' ≤ i + b ∧ GS k T Λ i' (appL f (lE Sa U M ls)) ∧ GF T Λ k0 k ∧ CS k C word ls dn

set_option maxHeartbeats 4000000 in
theorem io_ok (g : Prg G) (hR : Room A 50) (S : GS k T Λ i f) (hi : i ≤ 60000) (hS : Λ Sa) (hU : Λ U) (hM : Λ M) (hMS : Sa ≠ M) (h : JumpPost T Λ i f Sa U M k 500 (fun k' => ST k' 10) P) :
    OkF prog w G A k "_law_io" [.ref T, .ref Sa, .ref U, .ref M] P := by
  refine okF_fnZ (n := 32) (d := 49) g rfl hR (by decide +kernel) rfl fun env A' V => ?_
  have W := V.g
  show OkX prog w G A' env k (setL (setL (setL (setL (fun _ => none) "tape" (.ref T)) "sets" (.ref Sa)) "uses" (.ref U)) "marks" (.ref M)) (execs (bodyN 32) env) _
  refine vAssign V rfl (by decide +kernel) ?_
  repeat walk_at "v1"
  refine take_ok g (V.r.le (by first | lia | omega)) S (by first | lia | omega) (by decide) fun j k1 j0 j1 S1 t1 => ?_
  repeat walk_at "v1"
  refine okE_dictS (ks := ["UNIT", "FMT"]) rfl rfl rfl (by simp) (by simp) (by decide +kernel) ?_
  refine okE_str (okE_str fun C k2 hC N2 => ?_)
  have hC0 : k C = none := by
    cases e : k C with
    | none => rfl
    | some p =>
      exfalso
      by_cases hfp : C = T ∨ Λ C
      · rcases hfp with rfl | hΛ
        · refine cps fun qZ hZ => ?_
          obtain ⟨S', ns, h1, _⟩ := S1.tape
          refine hZ ?_
          clear hZ qZ
          rw [hC] at h1; cases h1
        · have := S1.logs C hΛ
          rw [hC] at this; cases this
      · have := t1.out e hfp
        rw [hC] at this; cases this
  have hw : ∃ word : Str, (word = "read" ∧ decide (j = 0) = true ∨ word = "write" ∧ decide (j = 0) = false) := by
    cases e : decide (j = 0) with
    | true => exact ⟨_, .inl ⟨rfl, rfl⟩⟩
    | false => exact ⟨_, .inr ⟨rfl, rfl⟩⟩
  obtain ⟨word, hw⟩ := hw
  generalize hb : decide (j = 0) = b at *
  have Q0 : ∀ m0, IoQ T Λ i f Sa U M k C word 1 [] m0 m0 k2 := fun m0 => ⟨rfl, i + 1, [], by first | lia | omega, by first | lia | omega, by rw [show lE Sa U M [] = [] from rfl, appL_nil]; exact S1.new N2, t1.comp N2.gf,
    _, fun _ => [], N2.at, by decide +kernel, by simp, fun x v hx => by
      simp only [List.mem_cons, Prod.mk.injEq, List.not_mem_nil, or_false] at hx
      rcases hx with ⟨rfl, rfl⟩ | ⟨rfl, rfl⟩
      · exact .star (by decide +kernel) (by decide +kernel)
      · exact .star (by decide +kernel) (by decide +kernel), fun _ _ => rfl, fun e => by simp⟩
  have Q0 := Q0 (setL (setL (setL (setL (setL (setL (fun _ => none) "tape" (.ref T)) "sets" (.ref Sa)) "uses" (.ref U)) "marks" (.ref M)) "is_read" (.bool b)) "control" (.ref C))
  generalize hm0 : (setL (setL (setL (setL (setL (setL (fun _ => none) "tape" (.ref T)) "sets" (.ref Sa)) "uses" (.ref U)) "marks" (.ref M)) "is_read" (.bool b)) "control" (.ref C) : Loc) = m0 at *
  have l1 : m0 "tape" = some (.ref T) := by subst hm0; walk_at "lk"
  have l2 : m0 "sets" = some (.ref Sa) := by subst hm0; walk_at "lk"
  have l3 : m0 "uses" = some (.ref U) := by subst hm0; walk_at "lk"
  have l4 : m0 "marks" = some (.ref M) := by subst hm0; walk_at "lk"
  have l5 : m0 "is_read" = some (.bool b) := by subst hm0; walk_at "lk"
  have l6 : m0 "control" = some (.ref C) := by subst hm0; walk_at "lk"
  -- UNIT
  refine vIfJ (IoQ T Λ i f Sa U M k C word 30 ["UNIT"] m0) V ?_ fun m' k' Q1 => ?_
  · clear S1 t1 N2 hC
    refine cps fun qZ hZ => ?_
    obtain ⟨_, i', ls, a1, a2, SS, tt, CC⟩ := Q0
    refine hZ ?_
    clear hZ qZ
    repeat walk_at "v1"
    refine take_ok g (V.r.le (by first | lia | omega)) SS (by first | lia | omega) (by decide) fun r k3 r0 r1 S3 t3 => ?_
    have C3 := CC.keep SS t3
    repeat walk_at "v1"
    refine ⟨fun _ => ?_, fun _ => ?_⟩
    · refine vSetS V rfl ?_
      repeat walk_at "v1"
      refine e0_ok g (V.r.le (by first | lia | omega)) S3 (by first | lia | omega) hU fun v us k4 i4 m1 m2 S4 t4 T4 H4 => ?_
      refine cps fun qZ hZ => ?_
      obtain ⟨rows, ev, c1, c2, c3, c4, c5, c6⟩ := C3.keep S3 t4
      refine hZ ?_
      clear hZ qZ
      repeat walk_at "v1"
      refine ⟨C, rows, _, rfl, rfl, c1, sz_le (by simp at c3; (first | lia | omega)), fun k5 Up => ?_⟩
      refine cps fun qZ hZ => ?_
      obtain ⟨a, t, c, l, rfl, b2, b3, b4⟩ := H4
      refine hZ ?_
      clear hZ qZ
      rw [appL_app, lE_uL (S := Sa) (M := M), ← lE_app] at S4
      exact vNil (⟨rfl, rfl, i4, ls ++ uE us, by first | lia | omega, by first | lia | omega, S4.updD c1 Up, gf_updD ((tt.comp t3).comp t4) hC0 Up, CS.store c1 c2 c3 c4 c5 c6 (by simp) Up (.unit b2 (fun _ => b4 rfl) T4) fun e => Iff.rfl⟩)
    · refine vIf V ?_
      repeat walk_at "v1"
      refine ⟨fun hb' => ?_, fun hb' => ?_⟩
      · repeat walk_at "v1"
        refine take_ok g (V.r.le (by first | lia | omega)) S3 (by first | lia | omega) (by decide) fun r' k4 r0 r1 S4 t4 => ?_
        have C4 := C3.keep S3 t4
        repeat walk_at "v1"
        have hbf : b = false := by simpa using hb'
        have hwr : word = "write" := by
          rcases hw with ⟨_, e⟩ | ⟨e, _⟩
          · rw [hbf] at e; cases e
          · exact e
        refine ⟨fun _ => ?_, fun _ => ?_⟩
        · repeat walk_at "v1"
          refine ⟨fun _ => ?_, fun hh => absurd hh (by simp)⟩
          repeat walk_at "v1"
          refine ⟨Sa, _, _, rfl, S4.logs Sa hS, ?_⟩
          repeat walk_at "v1"
          refine name_ok g (V.r.le (by first | lia | omega)) S4 (by first | lia | omega) fun x k5 hx S5 t5 => ?_
          have hl := S4.len Sa hS
          refine ⟨_, S5.logs Sa hS, len_sz hl (by first | lia | omega), fun k6 U6 => ?_⟩
          have S6 := S5.app hS (okPV_name hx) (by first | lia | omega) U6
          have t6 : GF T Λ k5 k6 := U6.gf' hS (S5.logs Sa hS) rfl
          refine vSetS V rfl ?_
          repeat walk_at "v1"
          refine oIdxL rfl U6.at (.inl ⟨_, rfl⟩) ⟨by decide, by decide⟩ (pyIdx_last (by first | lia | omega)) ?_
          repeat walk_at "v1"
          refine ⟨by simp, fun c7 k7 N7 => ?_⟩
          have t7 : GF T Λ k4 k7 := (t5.comp t6).comp N7.gf
          refine cps fun qZ hZ => ?_
          obtain ⟨rows, ev, c1, c2, c3, c4, c5, c6⟩ := C4.keep S4 t7
          refine hZ ?_
          clear hZ qZ
          repeat walk_at "v1"
          refine ⟨C, rows, _, rfl, rfl, c1, sz_le (by simp at c3; (first | lia | omega)), fun k8 Up => ?_⟩
          have S7 := S6.new N7
          rw [appL_app, lE_set (U := U) (M := M), ← lE_app] at S7
          exact vNil (seq_next (vNil (⟨rfl, rfl, _, ls ++ [(0, .s x)], by first | lia | omega, by first | lia | omega, S7.updD c1 Up, gf_updD (((tt.comp t3).comp t4).comp t7) hC0 Up, CS.store c1 c2 c3 c4 c5 c6 (by simp) Up (.unitC hwr N7.at) fun e => Iff.rfl⟩)))
        · repeat walk_at "v1"
          refine ⟨fun hh => absurd hh (by simp), fun _ => ?_⟩
          exact vNil (seq_next (vNil (⟨rfl, rfl, _, ls, by first | lia | omega, by first | lia | omega, S4, (tt.comp t3).comp t4, C4.weak⟩)))
      · repeat walk_at "v1"
        refine ⟨fun hh => absurd hh (by simp), fun _ => ?_⟩
        exact vNil (seq_next (vNil (⟨rfl, rfl, _, ls, by first | lia | omega, by first | lia | omega, S3, tt.comp t3, C3.weak⟩)))
  have em : m0 = m' := Q1.1.symm
  subst em
  -- FMT
  refine vIfJ (IoQ T Λ i f Sa U M k C word 40 ["FMT", "UNIT"] m0) V ?_ fun m' k' Q1 => ?_
  · refine cps fun qZ hZ => ?_
    obtain ⟨_, i', ls, a1, a2, SS, tt, CC⟩ := Q1
    refine hZ ?_
    clear hZ qZ
    repeat walk_at "v1"
    refine take_ok g (V.r.le (by first | lia | omega)) SS (by first | lia | omega) (by decide) fun r k3 r0 r1 S3 t3 => ?_
    have C3 := CC.keep SS t3
    repeat walk_at "v1"
    refine ⟨fun _ => ?_, fun _ => ?_⟩
    · refine vSetS V rfl ?_
      repeat walk_at "v1"
      refine label_ok g (V.r.le (by first | lia | omega)) S3 (by first | lia | omega) hM fun l k4 m1 m2 S4 t4 => ?_
      refine cps fun qZ hZ => ?_
      obtain ⟨rows, ev, c1, c2, c3, c4, c5, c6⟩ := C3.keep S3 t4
      refine hZ ?_
      clear hZ qZ
      repeat walk_at "v1"
      refine ⟨C, rows, _, rfl, rfl, c1, sz_le (by simp at c3; (first | lia | omega)), fun k5 Up => ?_⟩
      rw [appL_app, lE_lab (S := Sa) (U := U), ← lE_app] at S4
      exact vNil ⟨rfl, rfl, _, ls ++ [(2, .i l)], by first | lia | omega, by first | lia | omega, S4.updD c1 Up, gf_updD ((tt.comp t3).comp t4) hC0 Up, CS.store c1 c2 c3 c4 c5 c6 (by decide +kernel) Up .label fun e => Iff.rfl⟩
    · exact vNil ⟨rfl, rfl, _, ls, by first | lia | omega, by first | lia | omega, S3, tt.comp t3, C3.weak⟩
  have em : m0 = m' := Q1.1.symm
  subst em
  -- IOSTAT
  refine vIfJ (IoQ T Λ i f Sa U M k C word 100 ["IOSTAT", "FMT", "UNIT"] m0) V ?_ fun m' k' Q1 => ?_
  · refine cps fun qZ hZ => ?_
    obtain ⟨_, i', ls, a1, a2, SS, tt, CC⟩ := Q1
    refine hZ ?_
    clear hZ qZ
    repeat walk_at "v1"
    refine take_ok g (V.r.le (by first | lia | omega)) SS (by first | lia | omega) (by decide) fun r k3 r0 r1 S3 t3 => ?_
    have C3 := CC.keep SS t3
    repeat walk_at "v1"
    refine ⟨fun _ => ?_, fun _ => ?_⟩
    · refine vSetS V rfl ?_
      repeat walk_at "v1"
      refine t1_ok g (V.r.le (by first | lia | omega)) S3 (by first | lia | omega) hS hU fun v n us k4 i4 m1 m2 S4 t4 T4 H4 => ?_
      refine cps fun qZ hZ => ?_
      obtain ⟨rows, ev, c1, c2, c3, c4, c5, c6⟩ := C3.keep S3 t4
      refine hZ ?_
      clear hZ qZ
      repeat walk_at "v1"
      refine ⟨C, rows, _, rfl, rfl, c1, sz_le (by simp at c3; (first | lia | omega)), fun k5 Up => ?_⟩
      refine cps fun qZ hZ => ?_
      obtain ⟨a, t, c, l, rfl, b2, b3, b4⟩ := H4
      refine hZ ?_
      clear hZ qZ
      rw [appL_app, lE_tgt (M := M), ← lE_app] at S4
      exact vNil ⟨rfl, rfl, _, ls ++ ((0, .s n) :: uE us), by first | lia | omega, by first | lia | omega, S4.updD c1 Up, gf_updD ((tt.comp t3).comp t4) hC0 Up, CS.store c1 c2 c3 c4 c5 c6 (by decide +kernel) Up (.iostat b2 T4) fun e => Iff.rfl⟩
    · exact vNil ⟨rfl, rfl, _, ls, by first | lia | omega, by first | lia | omega, S3, tt.comp t3, C3.weak⟩
  have em : m0 = m' := Q1.1.symm
  subst em
  -- ERR
  refine vIfJ (IoQ T Λ i f Sa U M k C word 110 ["ERR", "IOSTAT", "FMT", "UNIT"] m0) V ?_ fun m' k' Q1 => ?_
  · refine cps fun qZ hZ => ?_
    obtain ⟨_, i', ls, a1, a2, SS, tt, CC⟩ := Q1
    refine hZ ?_
    clear hZ qZ
    repeat walk_at "v1"
    refine take_ok g (V.r.le (by first | lia | omega)) SS (by first | lia | omega) (by decide) fun r k3 r0 r1 S3 t3 => ?_
    have C3 := CC.keep SS t3
    repeat walk_at "v1"
    refine ⟨fun _ => ?_, fun _ => ?_⟩
    · refine vSetS V rfl ?_
      repeat walk_at "v1"
      refine label_ok g (V.r.le (by first | lia | omega)) S3 (by first | lia | omega) hM fun l k4 m1 m2 S4 t4 => ?_
      refine cps fun qZ hZ => ?_
      obtain ⟨rows, ev, c1, c2, c3, c4, c5, c6⟩ := C3.keep S3 t4
      refine hZ ?_
      clear hZ qZ
      repeat walk_at "v1"
      refine ⟨C, rows, _, rfl, rfl, c1, sz_le (by simp at c3; (first | lia | omega)), fun k5 Up => ?_⟩
      rw [appL_app, lE_lab (S := Sa) (U := U), ← lE_app] at S4
      exact vNil ⟨rfl, rfl, _, ls ++ [(2, .i l)], by first | lia | omega, by first | lia | omega, S4.updD c1 Up, gf_updD ((tt.comp t3).comp t4) hC0 Up, CS.store c1 c2 c3 c4 c5 c6 (by decide +kernel) Up .label fun e => Iff.rfl⟩
    · exact vNil ⟨rfl, rfl, _, ls, by first | lia | omega, by first | lia | omega, S3, tt.comp t3, C3.weak⟩
  have em : m0 = m' := Q1.1.symm
  subst em
  refine cps fun qZ hZ => ?_
  obtain ⟨_, i', ls, a1, a2, SS, tt, CC⟩ := Q1
  refine hZ ?_
  clear hZ qZ
  rcases hw with ⟨rfl, hbb⟩ | ⟨rfl, hbb⟩ <;> subst hbb
  · repeat walk_at "v1"
    refine ⟨fun _ => ?_, fun hh => absurd hh (by simp)⟩
    repeat walk_at "v1"
    refine items_all (M := M) g 2 (V.r.le (by first | lia | omega)) SS (by first | lia | omega) hS hU fun v es ls2 k3 i3 m1 m2 E3 S3 t3 T3 => ?_
    repeat walk_at "v1"
    refine ⟨by simp, fun c4 k4 N4 => ?_⟩
    refine cps fun qZ hZ => ?_
    obtain ⟨rows, ev, c1, c2, c3, c4', c5, c6⟩ := CC.keep SS t3
    refine hZ ?_
    clear hZ qZ
    have hC4 : k4 C = some (.dictS false rows) := N4.get c1
    have fzk : Fz k3 (upd k4 C (.dictS true rows)) := N4.fz.comp (fz_one hC4)
    have S4 := (S3.new N4).frz hC4
    rw [appL_app, ← lE_app] at S4
    refine ⟨upd k4 C (.dictS true rows), frzs_one hC4, ?_⟩
    refine h _ _ _ _ _ (by first | lia | omega) (by first | lia | omega) (fun e => ?_) S4 (gf_frz ((tt.comp t3).comp N4.gf) hC0) (.io (.inl ⟨rfl, rfl⟩) (fz_one hC4 _ _ N4.at rfl) upd_at c2 (by simp at c3; (first | lia | omega)) (fun x v hx => (c4' x v hx).mono fzk) (by first | lia | omega) (T3.mono fzk))
    rw [List.mem_append, List.mem_append, c6, E3]
  · repeat walk_at "v1"
    refine ⟨fun hh => absurd hh (by simp), fun _ => ?_⟩
    repeat walk_at "v1"
    refine items_all (M := M) g 2 (V.r.le (by first | lia | omega)) SS (by first | lia | omega) hS hU fun v es ls2 k3 i3 m1 m2 E3 S3 t3 T3 => ?_
    repeat walk_at "v1"
    refine ⟨by simp, fun c4 k4 N4 => ?_⟩
    refine cps fun qZ hZ => ?_
    obtain ⟨rows, ev, c1, c2, c3, c4', c5, c6⟩ := CC.keep SS t3
    refine hZ ?_
    clear hZ qZ
    have hC4 : k4 C = some (.dictS false rows) := N4.get c1
    have fzk : Fz k3 (upd k4 C (.dictS true rows)) := N4.fz.comp (fz_one hC4)
    have S4 := (S3.new N4).frz hC4
    rw [appL_app, ← lE_app] at S4
    refine ⟨upd k4 C (.dictS true rows), frzs_one hC4, ?_⟩
    refine h _ _ _ _ _ (by first | lia | omega) (by first | lia | omega) (fun e => ?_) S4 (gf_frz ((tt.comp t3).comp N4.gf) hC0) (.io (.inr ⟨rfl, rfl⟩) (fz_one hC4 _ _ N4.at rfl) upd_at c2 (by simp at c3; (first | lia | omega)) (fun x v hx => (c4' x v hx).mono fzk) (by first | lia | omega) (T3.mono fzk))
    rw [List.mem_append, List.mem_append, c6, E3]
end

section
variable {prog : Program} {w : World} {G : Glob'} {A : Around} {k : KH} {P : PV → KH → Prop} {T : Addr} {Λ : Addr → Prop} {i : Int} {f : Addr → List PV} {Sa U M : Addr}
theorem pick5 {a b c d e : PV} {j : Int} (h : 0 ≤ j ∧ j < 5) : ∃ x, pyIdx [a, b, c, d, e] j = some x ∧ (x = a ∨ x = b ∨ x = c ∨ x = d ∨ x = e) := by
  rcases (show j = 0 ∨ j = 1 ∨ j = 2 ∨ j = 3 ∨ j = 4 by first | lia | omega) with rfl | rfl | rfl | rfl | rfl
  · exact ⟨a, rfl, .inl rfl⟩
  · exact ⟨b, rfl, .inr (.inl rfl)⟩
  · exact ⟨c, rfl, .inr (.inr (.inl rfl))⟩
  · exact ⟨d, rfl, .inr (.inr (.inr (.inl rfl)))⟩
  · exact ⟨e, rfl, .inr (.inr (.inr (.inr rfl)))⟩

set_option maxHeartbeats 8000000 in
theorem stmt_ok (g : Prg G) (hR : Room A 60) (S : GS k T Λ i f) (hi : i ≤ 50000) (hS : Λ Sa) (hU : Λ U) (hM : Λ M) (hMS : Sa ≠ M) (hMU : U ≠ M) (h : JumpPost T Λ i f Sa U M k 1000 (fun k' => ST k' 10) P) :
    OkF prog w G A k "_law_statement" [.ref T, .ref Sa, .ref U, .ref M] P := by
  refine okF_fnZ (n := 34) (d := 59) g rfl hR (by decide +kernel) rfl fun env A' V => ?_
  have W := V.g
  show OkX prog w G A' env k (setL (setL (setL (setL (fun _ => none) "tape" (.ref T)) "sets" (.ref Sa)) "uses" (.ref U)) "marks" (.ref M)) (execs (bodyN 34) env) _
  refine vAssign V rfl (by decide +kernel) ?_
  repeat walk_at "v1"
  refine take_ok g (V.r.le (by first | lia | omega)) S (by first | lia | omega) (by decide) fun j k1 j0 j1 S1 t1 => ?_
  repeat walk_at "v1"
  refine ⟨fun hb => ?_, fun h0 => ?_⟩
  · repeat walk_at "v1"
    refine t2_ok g (V.r.le (by first | lia | omega)) S1 (by first | lia | omega) hS hU fun v n us k2 i2 l1 l2 S2 t2 T2 H2 => ?_
    repeat walk_at "v1"
    refine e2_ok g (V.r.le (by first | lia | omega)) S2 (by first | lia | omega) hU fun v3 us3 k3 i3 m1 m2 S3 t3 T3 H3 => ?_
    repeat walk_at "v1"
    refine ⟨by simp, fun c4 k4 N4 => ⟨_, Frzs.refl, ?_⟩⟩
    have S4 := S3.new N4
    rw [appL_app, lE_tgt (M := M), lE_uL (S := Sa) (M := M) (us := us3), ← lE_app] at S4
    exact h _ _ _ _ _ (by first | lia | omega) (by first | lia | omega) (fun e => Iff.rfl) S4 (((t1.comp t2).comp t3).comp N4.gf) (.assign N4.at (T2.mono (t3.fz.comp N4.fz)) (T3.mono N4.fz))
  have h0 := of_decide_eq_false h0
  repeat walk_at "v1"
  refine ⟨fun hb => ?_, fun h6 => ?_⟩
  · have hb := of_decide_eq_true hb
    repeat walk_at "v1"
    refine jump_ok g (V.r.le (by first | lia | omega)) S1 (by first | lia | omega) hS hU hM hMS ⟨by first | lia | omega, by first | lia | omega⟩ fun v es ls k2 i2 l1 l2 E2 S2 t2 T2 => ⟨_, Frzs.refl, ?_⟩
    exact h _ _ _ _ _ (by first | lia | omega) (by first | lia | omega) E2 S2 (t1.comp t2) (.jump T2)
  have h6 := of_decide_eq_false h6
  repeat walk_at "v1"
  refine ⟨fun hb => ?_, fun h7 => ?_⟩
  · repeat walk_at "v1"
    refine e1_ok g (V.r.le (by first | lia | omega)) S1 (by first | lia | omega) hU fun v2 us2 k2 i2 m1 m2 S2 t2 T2 H2 => ?_
    repeat walk_at "v1"
    refine take_ok g (V.r.le (by first | lia | omega)) S2 (by first | lia | omega) (by decide) fun r k3 r0 r1 S3 t3 => ?_
    repeat walk_at "v1"
    refine jump_ok g (V.r.le (by first | lia | omega)) S3 (by first | lia | omega) hS hU hM hMS ⟨by first | lia | omega, by first | lia | omega⟩ fun v es ls k4 i4 l1 l2 E4 S4 t4 T4 => ?_
    repeat walk_at "v1"
    refine ⟨by simp, fun c5 k5 N5 => ⟨_, Frzs.refl, ?_⟩⟩
    have S5 := S4.new N5
    rw [appL_app, lE_uL (S := Sa) (M := M), ← lE_app] at S5
    exact h _ _ _ _ _ (by first | lia | omega) (by first | lia | omega) (fun e => by rw [List.mem_append, List.mem_append, E4]) S5 (((t1.comp t2).comp t3).comp (t4.comp N5.gf)) (.lif N5.at (T2.mono ((t3.fz.comp t4.fz).comp N5.fz)) (T4.mono N5.fz))
  have h7 := of_decide_eq_false h7
  repeat walk_at "v1"
  refine ⟨fun hb => ?_, fun h8 => ?_⟩
  · repeat walk_at "v1"
    refine eListF ?_
    repeat walk_at "v1"
    refine ⟨by simp, fun c2 k2 N2 => ?_⟩
    repeat walk_at "v1"
    refine take_ok g (V.r.le (by first | lia | omega)) (S1.new N2) (by first | lia | omega) (by decide) fun r k3 r0 r1 S3 t3 => ?_
    obtain ⟨v, hv, hv'⟩ := pick2 (a := .str "if") (b := .str "elseif") (j := r) (by first | lia | omega)
    have hk3 : k3 c2 = _ := t3.frz N2.at rfl
    refine oIdxL rfl hk3 (.inl ⟨_, rfl⟩) ⟨by first | lia | omega, by first | lia | omega⟩ hv ?_
    have hvt : ∃ t, v = .str t ∧ t ∈ exprTags := by
      rcases hv' with rfl | rfl
      · exact ⟨_, rfl, by decide +kernel⟩
      · exact ⟨_, rfl, by decide +kernel⟩
    obtain ⟨t, rfl, ht1⟩ := hvt
    repeat walk_at "v1"
    refine e2_ok g (V.r.le (by first | lia | omega)) S3 (by first | lia | omega) hU fun v4 us4 k4 i4 m1 m2 S4 t4 T4 H4 => ?_
    repeat walk_at "v1"
    refine ⟨by simp, fun c5 k5 N5 => ⟨_, Frzs.refl, ?_⟩⟩
    have S5 := S4.new N5
    rw [lE_uL (S := Sa) (M := M)] at S5
    exact h _ _ _ _ _ (by first | lia | omega) (by first | lia | omega) (fun e => Iff.rfl) S5 (((t1.comp N2.gf).comp t3).comp (t4.comp N5.gf)) (.expr ht1 N5.at (T4.mono N5.fz))
  have h8 := of_decide_eq_false h8
  repeat walk_at "v1"
  refine ⟨fun hb => ?_, fun h9 => ?_⟩
  · repeat walk_at "v1"
    refine eListF ?_
    repeat walk_at "v1"
    refine ⟨by simp, fun c2 k2 N2 => ?_⟩
    repeat walk_at "v1"
    refine ⟨by simp, fun c3 k3 N3 => ?_⟩
    repeat walk_at "v1"
    refine ⟨by simp, fun c4 k4 N4 => ?_⟩
    repeat walk_at "v1"
    refine ⟨by simp, fun c5 k5 N5 => ?_⟩
    repeat walk_at "v1"
    refine ⟨by simp, fun c6 k6 N6 => ?_⟩
    repeat walk_at "v1"
    refine ⟨by simp, fun c7 k7 N7 => ?_⟩
    repeat walk_at "v1"
    have S7 := (((((S1.new N2).new N3).new N4).new N5).new N6).new N7
    refine take_ok g (V.r.le (by first | lia | omega)) S7 (by first | lia | omega) (by decide) fun r k8 r0 r1 S8 t8 => ?_
    obtain ⟨v, hv, hv'⟩ := pick5 (a := .ref c2) (b := .ref c3) (c := .ref c4) (d := .ref c5) (e := .ref c6) (j := r) ⟨r0, r1⟩
    have hk8 : k8 c7 = _ := t8.frz N7.at rfl
    refine oIdxL rfl hk8 (.inl ⟨_, rfl⟩) ⟨by first | lia | omega, by first | lia | omega⟩ hv ⟨_, Frzs.refl, ?_⟩
    have t18 : GF T Λ k1 k8 := (((((N2.gf.comp N3.gf).comp N4.gf).comp N5.gf).comp N6.gf).comp N7.gf).comp t8
    refine h _ [] [] _ (i + 1 + 1) (by first | lia | omega) (by first | lia | omega) (fun e => Iff.rfl) (by rw [show lE Sa U M [] = [] from rfl, appL_nil]; exact S8) (t1.comp t18) ?_
    have f38 : Fz k3 k8 := ((((N4.fz.comp N5.fz).comp N6.fz).comp N7.fz).comp t8.fz)
    rcases hv' with rfl | rfl | rfl | rfl | rfl
    · exact .quiet (by decide +kernel) (f38 _ _ (N3.get N2.at) rfl)
    · exact .quiet (by decide +kernel) (f38 _ _ N3.at rfl)
    · exact .quiet (by decide +kernel) (t8.fz _ _ (N7.get (N6.get (N5.get N4.at))) rfl)
    · exact .quiet (by decide +kernel) (t8.fz _ _ (N7.get (N6.get N5.at)) rfl)
    · exact .expr (by decide +kernel) (t8.fz _ _ (N7.get N6.at) rfl) (.none .nil)
  have h9 := of_decide_eq_false h9
  repeat walk_at "v1"
  refine ⟨fun hb => ?_, fun h10 => ?_⟩
  · repeat walk_at "v1"
    refine e1_ok g (V.r.le (by first | lia | omega)) S1 (by first | lia | omega) hU fun v4 us4 k4 i4 m1 m2 S4 t4 T4 H4 => ?_
    repeat walk_at "v1"
    refine ⟨by simp, fun c5 k5 N5 => ⟨_, Frzs.refl, ?_⟩⟩
    have S5 := S4.new N5
    rw [lE_uL (S := Sa) (M := M)] at S5
    exact h _ _ _ _ _ (by first | lia | omega) (by first | lia | omega) (fun e => Iff.rfl) S5 (t1.comp (t4.comp N5.gf)) (.expr (by decide +kernel) N5.at (T4.mono N5.fz))
  have h10 := of_decide_eq_false h10
  repeat walk_at "v1"
  refine ⟨fun hb => ?_, fun h11 => ?_⟩
  · repeat walk_at "v1"
    refine ⟨U, _, _, rfl, S1.logs U hU, ?_⟩
    repeat walk_at "v1"
    refine name_ok g (V.r.le (by first | lia | omega)) S1 (by first | lia | omega) fun x k2 hx S2 t2 => ?_
    have hl := S1.len U hU
    refine ⟨_, S2.logs U hU, len_sz hl (by first | lia | omega), fun k3 U3 => ?_⟩
    have S3 := S2.app hU (okPV_name hx) (by first | lia | omega) U3
    have t3 : GF T Λ k2 k3 := U3.gf' hU (S2.logs U hU) rfl
    repeat walk_at "v1"
    refine oIdxL rfl U3.at (.inl ⟨_, rfl⟩) ⟨by decide, by decide⟩ (pyIdx_last (by first | lia | omega)) ?_
    repeat walk_at "v1"
    refine eListF ?_
    repeat walk_at "v1"
    refine e1_ok g (V.r.le (by first | lia | omega)) S3 (by first | lia | omega) hU fun v4 us4 k4 i4 m1 m2 S4 t4 T4 H4 => ?_
    repeat walk_at "v1"
    refine label_ok g (V.r.le (by first | lia | omega)) S4 (by first | lia | omega) hM fun l k5 a1 b1 S5 t5 => ?_
    repeat walk_at "v1"
    refine ⟨by simp, fun c6 k6 N6 => ?_⟩
    repeat walk_at "v1"
    refine ⟨by simp, fun c7 k7 N7 => ?_⟩
    repeat walk_at "v1"
    have S7 := (S5.new N6).new N7
    refine ⟨U, _, _, rfl, S7.logs U hU, ?_⟩
    repeat walk_at "v1"
    refine name_ok g (V.r.le (by first | lia | omega)) S7 (by first | lia | omega) fun y k8 hy S8 t8 => ?_
    have hl2 := S4.len U hU
    have hl3 : (((appL (appL (appL f [(U, .str x)]) (uL U us4)) [(M, .int l)] U).length : Nat) : Int) ≤ i4 := by rw [appL_ne hMU]; exact hl2
    refine ⟨_, S8.logs U hU, len_sz hl3 (by first | lia | omega), fun k9 U9 => ?_⟩
    have S9 := S8.app hU (okPV_name hy) (by first | lia | omega) U9
    have t9 : GF T Λ k8 k9 := U9.gf' hU (S8.logs U hU) rfl
    have hk9 : k9 c7 = some (.list true [v4, .ref c6]) := (t8.comp t9).frz N7.at rfl
    repeat walk_at "v1"
    refine eListF ?_
    repeat walk_at "v1"
    refine oIdxL rfl U9.at (.inl ⟨_, rfl⟩) ⟨by decide, by decide⟩ (pyIdx_last (by first | lia | omega)) ?_
    repeat walk_at "v1"
    refine ⟨by simp, fun ca ka Na => ?_⟩
    repeat walk_at "v1"
    refine ⟨by simp, fun cb kb Nb => ?_⟩
    refine oAddL (Nb.get (Na.get hk9)) Nb.at (by simp) ⟨PO.list true ([v4, .ref c6] ++ [.ref ca]), Or.inl ⟨true, rfl⟩, fun cc kc Nc => ?_⟩
    repeat walk_at "v1"
    refine ⟨by simp, fun cd kd Nd => ⟨_, Frzs.refl, ?_⟩⟩
    have Sd := (((S9.new Na).new Nb).new Nc).new Nd
    have t9d : GF T Λ k9 kd := ((Na.gf.comp Nb.gf).comp Nc.gf).comp Nd.gf
    have t6d : GF T Λ k6 kd := N7.gf.comp ((t8.comp t9).comp t9d)
    have T4d := T4.mono (t5.fz.comp (N6.fz.comp t6d.fz))
    have Ed : ETs kd 10 ([v4, .ref c6] ++ [.ref ca]) (uE us4 ++ ([(2, .i l)] ++ [(1, .s y)])) := T4d.cons ((ETs.alt (t6d.fz _ _ N6.at rfl) .nil).cons (.leaf (t := "proc") (x := .int (-1)) (by decide +kernel) (Nd.get (Nc.get (Nb.get Na.at))) .nil))
    rw [appL_app, appL_app, appL_app, lE_lab (S := Sa) (U := U), lE_use (S := Sa) (M := M), lE_use (S := Sa) (M := M), lE_uL (S := Sa) (M := M), ← lE_app, ← lE_app, ← lE_app] at Sd
    exact h _ _ _ _ _ (by first | lia | omega) (by first | lia | omega) (fun e => by simp) Sd ((t1.comp (t2.comp t3)).comp ((t4.comp t5).comp (N6.gf.comp t6d))) (.call Nd.at (Nd.get Nc.at) Ed)
  have h11 := of_decide_eq_false h11
  repeat walk_at "v1"
  refine ⟨fun hb => ?_, fun h12 => ?_⟩
  · repeat walk_at "v1"
    refine ⟨Sa, _, _, rfl, S1.logs Sa hS, ?_⟩
    repeat walk_at "v1"
    refine name_ok g (V.r.le (by first | lia | omega)) S1 (by first | lia | omega) fun x k2 hx S2 t2 => ?_
    have hl := S1.len Sa hS
    refine ⟨_, S2.logs Sa hS, len_sz hl (by first | lia | omega), fun k3 U3 => ?_⟩
    have S3 := S2.app hS (okPV_name hx) (by first | lia | omega) U3
    have t3 : GF T Λ k2 k3 := U3.gf' hS (S2.logs Sa hS) rfl
    repeat walk_at "v1"
    refine oIdxL rfl U3.at (.inl ⟨_, rfl⟩) ⟨by decide, by decide⟩ (pyIdx_last (by first | lia | omega)) ?_
    repeat walk_at "v1"
    refine eListF ?_
    repeat walk_at "v1"
    refine ⟨by simp, fun c4 k4 N4 => ?_⟩
    repeat walk_at "v1"
    refine ⟨by simp, fun c5 k5 N5 => ⟨_, Frzs.refl, ?_⟩⟩
    have S5 := (S3.new N4).new N5
    rw [lE_set (U := U) (M := M)] at S5
    exact h _ _ _ _ _ (by first | lia | omega) (by first | lia | omega) (fun e => Iff.rfl) S5 ((t1.comp (t2.comp t3)).comp (N4.gf.comp N5.gf)) (.entry N5.at)
  have h12 := of_decide_eq_false h12
  repeat walk_at "v1"
  refine ⟨fun hb => ?_, fun h13 => ?_⟩
  · repeat walk_at "v1"
    refine okE_dictS (ks := ["UNIT", "EXIST"]) rfl rfl rfl (by simp) (by simp) (by decide +kernel) ?_
    show OkE _ _ _ _ _ _ _ _ _
    repeat walk_at "v1"
    refine e1_ok g (V.r.le (by first | lia | omega)) S1 (by first | lia | omega) hU fun v2 us2 k2 i2 m1 m2 S2 t2 T2 H2 => ?_
    show OkE _ _ _ _ _ _ _ _ _
    repeat walk_at "v1"
    refine t1_ok g (V.r.le (by first | lia | omega)) S2 (by first | lia | omega) hS hU fun v3 n us3 k3 i3 l1 l2 S3 t3 T3 H3 => ?_
    refine fun C k4 hC N4 => ?_
    repeat walk_at "v1"
    refine ⟨by simp, fun c5 k5 N5 => ?_⟩
    have hC5 := N5.get N4.at
    have hC0 : k C = none := by
      cases e : k C with
      | none => rfl
      | some p =>
        exfalso
        by_cases hfp : C = T ∨ Λ C
        · rcases hfp with rfl | hΛ
          · refine cps fun qZ hZ => ?_
            obtain ⟨S', ns, h1, _⟩ := S1.tape
            refine hZ ?_
            clear hZ qZ
            rw [hC] at h1; cases h1
          · have := S1.logs C hΛ
            rw [hC] at this; cases this
        · have := t1.out e hfp
          rw [hC] at this; cases this
    refine ⟨upd k5 C (.dictS true _), frzs_one hC5, ?_⟩
    have f3 : Fz k3 (upd k5 C (.dictS true _)) := (N4.fz.comp N5.fz).comp (fz_one hC5)
    have S5 := ((S3.new N4).new N5).frz hC5
    rw [appL_app, lE_tgt (M := M), lE_uL (S := Sa) (M := M), ← lE_app] at S5
    refine cps fun qZ hZ => ?_
    obtain ⟨a2, tg2, d2, q2, rfl, b2, b3, b4⟩ := H2
    refine hZ ?_
    clear hZ qZ
    refine cps fun qZ hZ => ?_
    obtain ⟨a3, tg3, d3, q3, rfl, c3, c4, c5'⟩ := H3
    refine hZ ?_
    clear hZ qZ
    refine h _ _ _ _ _ (by first | lia | omega) (by first | lia | omega) (fun e => ?_) S5 (gf_frz (((t1.comp t2).comp t3).comp (N4.gf.comp N5.gf)) hC0) (.inquire (ev := fun x => if x = "UNIT" then uE us2 else (0, .s n) :: uE us3) (fz_one hC5 _ _ N5.at rfl) upd_at (by show (["UNIT", "EXIST"] : List Str).Nodup; decide +kernel) (by simp) fun x v hx => ?_)
    · show e ∈ List.flatMap _ [_, _] ↔ _
      simp only [List.flatMap_cons, List.flatMap_nil, List.append_nil, List.mem_append, if_true]
      rw [if_neg (show ¬ ((Str.ofString "EXIST") = Str.ofString "UNIT") by decide +kernel)]
    · simp only [List.mem_cons, Prod.mk.injEq, List.not_mem_nil, or_false] at hx
      rcases hx with ⟨rfl, rfl⟩ | ⟨rfl, rfl⟩
      · show CV _ _ _ _ _ (if _ = _ then _ else _)
        rw [if_pos rfl]
        exact .unit (f3 _ _ (t3.fz _ _ b2 rfl) rfl) (fun e => absurd e (by decide +kernel)) (T2.mono (t3.fz.comp f3))
      · show CV _ _ _ _ _ (if _ = _ then _ else _)
        rw [if_neg (show ¬ ((Str.ofString "EXIST") = Str.ofString "UNIT") by decide +kernel)]
        exact .exist rfl (f3 _ _ c3 rfl) (T3.mono f3)
  have h13 := of_decide_eq_false h13
  repeat walk_at "v1"
  refine io_ok g (V.r.le (by first | lia | omega)) S1 (by first | lia | omega) hS hU hM hMS fun v es ls k2 i2 l1 l2 E2 S2 t2 T2 => ⟨_, Frzs.refl, ?_⟩
  exact h _ _ _ _ _ (by first | lia | omega) (by first | lia | omega) E2 S2 (t1.comp t2) T2
end

/-! the record of lines -/
abbrev Rec := Nat → Key → Option (List Int)
noncomputable def okKey (j : Nat) : Key → Prop
  | .s x => j < 2 ∧ x ∈ names8
  | .i n => 2 ≤ j ∧ j < 4 ∧ 10 ≤ n ∧ n < 18
noncomputable def addL (L : Int) : Option (List Int) → List Int
  | none => [L]
  | some l => if L ∈ l then l else l ++ [L]
noncomputable def addEv (f : Rec) (j : Nat) (x : Key) (L : Int) : Rec := fun j' x' => if j' = j ∧ x' = x then some (addL L (f j x)) else f j' x'
noncomputable def addEvs (f : Rec) (es : List Ev) (L : Int) : Rec := es.foldl (fun f e => addEv f e.1 e.2 L) f
theorem addEvs_app (f : Rec) (a b : List Ev) (L : Int) : addEvs f (a ++ b) L = addEvs (addEvs f a L) b L := by simp [addEvs]
theorem addEvs_nil (f : Rec) (L : Int) : addEvs f [] L = f := rfl
theorem addEvs_cons (f : Rec) (e : Ev) (b : List Ev) (L : Int) : addEvs f (e :: b) L = addEvs (addEv f e.1 e.2 L) b L := rfl
/-- no line grows too long -/
noncomputable def Bd (f : Rec) (L : Int) (c : Nat) : Prop := ∀ j x l, f j x = some l → l.length + (if L ∈ l then 0 else 1) ≤ c
theorem Bd.add {f : Rec} {L : Int} {c : Nat} (h : Bd f L c) (hc : 1 ≤ c) (j : Nat) (x : Key) : Bd (addEv f j x L) L c := by
  intro j' x' l hl
  unfold addEv at hl
  split at hl
  · cases hl
    cases hf : f j x with
    | none => simp [addL]; exact hc
    | some l =>
      have := h j x l hf
      unfold addL
      by_cases hL : L ∈ l
      · simp only [hL, if_true] at this ⊢; exact this
      · simp only [hL, if_false] at this ⊢
        simp [List.length_append] at this ⊢
        exact this
  · exact h j' x' l hl
theorem Bd.adds {L : Int} {c : Nat} (hc : 1 ≤ c) : ∀ (es : List Ev) {f : Rec}, Bd f L c → Bd (addEvs f es L) L c
  | [], _, h => h
  | e :: es, _, h => Bd.adds hc es (h.add hc e.1 e.2)

section
variable {K : Type} [DecidableEq K]
theorem putK_keys (rows : List (K × PV)) (x : K) (v : PV) : (putP rows x v).map (·.1) = if x ∈ rows.map (·.1) then rows.map (·.1) else rows.map (·.1) ++ [x] := by
  unfold putP
  by_cases h : x ∈ rows.map (·.1)
  · have : (rows.any fun p => p.1 = x) = true := by
      obtain ⟨p, hp, e⟩ := List.mem_map.mp h
      exact List.any_eq_true.mpr ⟨p, hp, by simp [e]⟩
    rw [if_pos this, if_pos h, List.map_map]
    apply List.map_congr_left
    intro p _
    simp only [Function.comp]
    split <;> rfl
  · have : ¬ (rows.any fun p => p.1 = x) = true := fun e => by
      obtain ⟨p, hp, e⟩ := List.any_eq_true.mp e
      exact h (List.mem_map.mpr ⟨p, hp, by simpa using e⟩)
    rw [if_neg this, if_neg h, List.map_append]; rfl
theorem putK_nodup {rows : List (K × PV)} (h : (rows.map (·.1)).Nodup) (x : K) (v : PV) : ((putP rows x v).map (·.1)).Nodup := by
  rw [putK_keys]
  split
  · exact h
  · rename_i hn
    rw [List.nodup_append]
    exact ⟨h, by simp, fun a ha b hb => by rw [List.mem_singleton] at hb; subst hb; exact fun e => hn (e ▸ ha)⟩
theorem lookup_none_iff {rows : List (K × PV)} {x : K} : rows.lookup x = none ↔ x ∉ rows.map (·.1) := by
  rw [List.lookup_eq_none_iff]
  constructor
  · intro h hx
    obtain ⟨p, hp, rfl⟩ := List.mem_map.mp hx
    exact absurd (h p hp) (by simp)
  · intro h p hp
    exact bne_iff_ne.mpr fun e => h (List.mem_map.mpr ⟨p, hp, e.symm⟩)
theorem lookup_app {rows : List (K × PV)} {x y : K} {v : PV} (h : x ∉ rows.map (·.1)) : (rows ++ [(x, v)]).lookup y = if y = x then some v else rows.lookup y := by
  induction rows with
  | nil =>
    rw [List.nil_append, List.lookup_cons]
    by_cases e : y = x
    · subst e; simp
    · have : (y == x) = false := by simpa using e
      rw [this, if_neg e]
  | cons p r ih =>
    rw [List.map_cons, List.mem_cons, not_or] at h
    rw [List.cons_append, List.lookup_cons, List.lookup_cons, ih h.2]
    by_cases e : y = p.1
    · have : ¬ y = x := fun z => h.1 (z.symm.trans e)
      simp [e]
      intro z
      exact absurd z (fun w => h.1 w.symm)
    · have : (y == p.1) = false := by simpa using e
      simp [this]
theorem putK_new {rows : List (K × PV)} {x : K} (v : PV) (h : x ∉ rows.map (·.1)) : putP rows x v = rows ++ [(x, v)] := by
  unfold putP
  rw [if_neg]
  intro e
  obtain ⟨p, hp, e⟩ := List.any_eq_true.mp e
  exact h (List.mem_map.mpr ⟨p, hp, by simpa using e⟩)
theorem nodup_len : ∀ (l S : List K), l.Nodup → (∀ x ∈ l, x ∈ S) → l.length ≤ S.length
  | [], _, _, _ => Nat.zero_le _
  | x :: l, S, h, hs => by
    rw [List.nodup_cons] at h
    have hx := hs x (.head _)
    have h1 := nodup_len l (S.erase x) h.2 fun y hy => (List.mem_erase_of_ne (fun e => h.1 (by rw [← e]; exact hy))).mpr (hs y (.tail _ hy))
    rw [List.length_erase_of_mem hx] at h1
    have : 0 < S.length := List.length_pos_of_mem hx
    rw [List.length_cons]; (first | lia | omega)
end

/-- a dict of the record -/
inductive DAt (k : KH) (d : Addr) (φ : Key → Option PV) : Bool → Prop
  | s {es} : k d = some (.dictS false es) → (es.map (·.1)).Nodup → (∀ x, es.lookup x = φ (.s x)) → (∀ n, φ (.i n) = none) → DAt k d φ true
  | i {es} : k d = some (.dictI false es) → (es.map (·.1)).Nodup → (∀ n, es.lookup n = φ (.i n)) → (∀ x, φ (.s x) = none) → DAt k d φ false
noncomputable def refAt (f : Rec) (adr : Nat → Key → Addr) (j : Nat) (x : Key) : Option PV := (f j x).map fun _ => .ref (adr j x)
structure Book0 (k : KH) (D : Nat → Addr) (f : Rec) (adr : Nat → Key → Addr) : Prop where
  dict : ∀ j, j < 4 → DAt k (D j) (refAt f adr j) (decide (j < 2))
  list : ∀ j x l, j < 4 → f j x = some l → k (adr j x) = some (.list false (l.map .int))
  inj : ∀ j x j' x', j < 4 → j' < 4 → f j x ≠ none → f j' x' ≠ none → adr j x = adr j' x' → j = j' ∧ x = x'
  ok : ∀ j x l, j < 4 → f j x = some l → okKey j x ∧ l ≠ []
  apart : ∀ j j', j < 4 → j' < 4 → D j = D j' → j = j'
noncomputable def Book (k : KH) (D : Nat → Addr) (f : Rec) : Prop := ∃ adr, Book0 k D f adr

/-- what noting leaves as it is -/
noncomputable def keepB (D : Nat → Addr) (a : Addr) (p : PO) : Prop := p.frz = true ∨ (∃ vs, p = .wlist vs) ∨ (∃ vs, p = .list false vs ∧ ∀ i r, vs ≠ .int i :: r) ∨ ((∃ es, p = .dictS false es) ∨ ∃ es, p = .dictI false es) ∧ ∀ j, j < 4 → a ≠ D j
noncomputable def BF (D : Nat → Addr) (k k' : KH) : Prop := ∀ a p, k a = some p → keepB D a p → k' a = some p
theorem BF.refl {D k} : BF D k k := fun _ _ e _ => e
theorem BF.comp {D k k' k''} (h : BF D k k') (h' : BF D k' k'') : BF D k k'' := fun a p e x => h' a p (h a p e x) x
theorem BF.fz {D k k'} (h : BF D k k') : Fz k k' := fun a p e x => h a p e (.inl x)
theorem New.bf {k c p k'} {D} (N : New k c p k') : BF D k k' := fun _ _ e _ => N.get e
theorem Book.new {k D f c p k'} (B : Book k D f) (N : New k c p k') : Book k' D f := by
  obtain ⟨adr, B⟩ := B
  refine ⟨adr, ⟨fun j hj => ?_, fun j x l hj e => N.get (B.list j x l hj e), B.inj, B.ok, B.apart⟩⟩
  have := B.dict j hj
  revert this
  generalize decide (j < 2) = b
  intro h
  cases h with
  | s a1 a2 a3 a4 => exact .s (N.get a1) a2 a3 a4
  | i a1 a2 a3 a4 => exact .i (N.get a1) a2 a3 a4
theorem Book.keep {k D f k'} (B : Book k D f) (h : ∀ a p, k a = some p → (∀ vs, p ≠ .wlist vs) → k' a = some p) : Book k' D f := by
  obtain ⟨adr, B⟩ := B
  refine ⟨adr, ⟨fun j hj => ?_, fun j x l hj e => h _ _ (B.list j x l hj e) (fun _ z => nomatch z), B.inj, B.ok, B.apart⟩⟩
  have := B.dict j hj
  revert this
  generalize decide (j < 2) = b
  intro z
  cases z with
  | s a1 a2 a3 a4 => exact .s (h _ _ a1 (fun _ z => nomatch z)) a2 a3 a4
  | i a1 a2 a3 a4 => exact .i (h _ _ a1 (fun _ z => nomatch z)) a2 a3 a4

theorem DAt.congr {k k' : KH} {d : Addr} {φ : Key → Option PV} {b : Bool} (h : DAt k d φ b) (e : k' d = k d) : DAt k' d φ b := by
  cases h with
  | s a1 a2 a3 a4 => exact .s (e.trans a1) a2 a3 a4
  | i a1 a2 a3 a4 => exact .i (e.trans a1) a2 a3 a4
theorem DAt.get {k : KH} {d : Addr} {φ : Key → Option PV} {b : Bool} (h : DAt k d φ b) : ∃ p, k d = some p ∧ ∀ fz vs, p ≠ .list fz vs := by
  cases h with
  | s a1 a2 a3 a4 => exact ⟨_, a1, fun _ _ z => nomatch z⟩
  | i a1 a2 a3 a4 => exact ⟨_, a1, fun _ _ z => nomatch z⟩

/-- a list grows -/
theorem Book0.grow {k k' : KH} {D : Nat → Addr} {f : Rec} {adr : Nat → Key → Addr} (B : Book0 k D f adr) {j : Nat} {x : Key} {l : List Int} {L : Int} (hj : j < 4) (hf : f j x = some l) (hL : L ∉ l) (U : Upd k (adr j x) (.list false (l.map .int ++ [.int L])) k') :
    Book k' D (addEv f j x L) ∧ BF D k k' := by
  have hl := B.list j x l hj hf
  have e : addEv f j x L = fun j' x' => if j' = j ∧ x' = x then some (l ++ [L]) else f j' x' := by
    funext j' x'
    unfold addEv addL
    rw [hf]
    simp only [hL, if_false]
  have some_iff : ∀ j' x', (addEv f j x L j' x' ≠ none) → f j' x' ≠ none := by
    intro j' x' h
    rw [e] at h
    dsimp only at h
    split at h
    · rename_i q; rw [q.1, q.2, hf]; exact fun z => nomatch z
    · exact h
  refine ⟨⟨adr, ⟨fun j' hj' => ?_, fun j' x' l' hj' h => ?_, fun j1 x1 j2 x2 h1 h2 n1 n2 => B.inj j1 x1 j2 x2 h1 h2 (some_iff _ _ n1) (some_iff _ _ n2), fun j' x' l' hj' h => ?_, B.apart⟩⟩, fun a p ha hk => ?_⟩
  · have hd := B.dict j' hj'
    obtain ⟨p, hp, hn⟩ := hd.get
    have hne : D j' ≠ adr j x := fun z => by rw [z, hl] at hp; cases hp; exact hn _ _ rfl
    have := hd.congr (U.ne hne)
    have er : refAt (addEv f j x L) adr j' = refAt f adr j' := by
      funext x'
      unfold refAt
      rw [e]
      dsimp only
      split
      · rename_i q; rw [q.1, q.2, hf]; rfl
      · rfl
    rw [er]; exact this
  · rw [e] at h
    dsimp only at h
    split at h
    · rename_i q
      cases h
      rw [q.1, q.2, U.at, List.map_append]; rfl
    · rename_i q
      have hne : adr j' x' ≠ adr j x := fun z => q (B.inj j' x' j x hj' hj (by rw [h]; exact fun z => nomatch z) (by rw [hf]; exact fun z => nomatch z) z)
      rw [U.ne hne]; exact B.list j' x' l' hj' h
  · rw [e] at h
    dsimp only at h
    split at h
    · rename_i q
      cases h
      rw [q.1, q.2]
      exact ⟨(B.ok j x l hj hf).1, by simp⟩
    · exact B.ok j' x' l' hj' h
  · have hne : a ≠ adr j x := fun z => by
      rw [z, hl] at ha
      cases ha
      have hl0 := (B.ok j x l hj hf).2
      rcases hk with h | ⟨vs, h⟩ | ⟨vs, h, h'⟩ | ⟨(⟨es, h⟩ | ⟨es, h⟩), _⟩
      · cases h
      · cases h
      · cases h
        cases l with
        | nil => exact hl0 rfl
        | cons y r => exact h' y (r.map .int) rfl
      · cases h
      · cases h
    rw [U.ne hne]; exact ha

/-- a new key -/
theorem Book0.newKey {k k1 k2 k3 : KH} {D : Nat → Addr} {f : Rec} {adr : Nat → Key → Addr} (B : Book0 k D f adr) {j : Nat} {x : Key} {L : Int} {c : Addr} {p : PO} (hj : j < 4) (hok : okKey j x) (hf : f j x = none)
    (N : New k c (.list false []) k1) (U : Upd k1 (D j) p k2) (hd : DAt k2 (D j) (fun y => if y = x then some (.ref c) else refAt f adr j y) (decide (j < 2))) (U' : Upd k2 c (.list false [.int L]) k3) : Book k3 D (addEv f j x L) ∧ BF D k k3 := by
  have e : addEv f j x L = fun j' x' => if j' = j ∧ x' = x then some [L] else f j' x' := by
    funext j' x'
    unfold addEv addL
    rw [hf]
  obtain ⟨pd, hpd, hnd⟩ := (B.dict j hj).get
  have hcD : ∀ j', j' < 4 → D j' ≠ c := fun j' hj' z => by
    obtain ⟨q, hq, _⟩ := (B.dict j' hj').get
    rw [z, N.old] at hq; cases hq
  have keep : ∀ a q, k a = some q → a ≠ D j → k3 a = some q := fun a q ha hne => by
    rw [U'.ne (N.ne ha), U.ne hne]; exact N.get ha
  refine ⟨⟨fun j' x' => if j' = j ∧ x' = x then c else adr j' x', ⟨fun j' hj' => ?_, fun j' x' l' hj' h => ?_, fun j1 x1 j2 x2 h1 h2 n1 n2 h => ?_, fun j' x' l' hj' h => ?_, B.apart⟩⟩, fun a q ha hk => ?_⟩
  · by_cases q : j' = j
    · subst q
      have := hd.congr (U'.ne (hcD j' hj'))
      have er : refAt (addEv f j' x L) (fun j'' x' => if j'' = j' ∧ x' = x then c else adr j'' x') j' = fun y => if y = x then some (.ref c) else refAt f adr j' y := by
        funext y
        unfold refAt
        rw [e]
        dsimp only
        by_cases z : y = x
        · simp [z]
        · simp [z]
      rw [er]; exact this
    · have hne : D j' ≠ D j := fun z => q (B.apart j' j hj' hj z)
      have := (B.dict j' hj').congr (k' := k3) (by
        obtain ⟨q', hq', _⟩ := (B.dict j' hj').get
        rw [hq']; exact keep _ _ hq' hne)
      have er : refAt (addEv f j x L) (fun j'' x' => if j'' = j ∧ x' = x then c else adr j'' x') j' = refAt f adr j' := by
        funext y
        unfold refAt
        rw [e]
        simp [q]
      rw [er]; exact this
  · rw [e] at h
    dsimp only at h ⊢
    split at h
    · rename_i q
      cases h
      rw [if_pos q, U'.at]; rfl
    · rename_i q
      rw [if_neg q]
      have hl := B.list j' x' l' hj' h
      exact keep _ _ hl fun z => by rw [z, hpd] at hl; cases hl; exact hnd _ _ rfl
  · rw [e] at n1 n2
    dsimp only at n1 n2 h
    have fresh : ∀ j' x', j' < 4 → f j' x' ≠ none → adr j' x' ≠ c := fun j' x' hj' n z => by
      cases hh : f j' x' with
      | none => exact n hh
      | some l =>
        have := B.list j' x' l hj' hh
        rw [z, N.old] at this; cases this
    by_cases q1 : j1 = j ∧ x1 = x
    · by_cases q2 : j2 = j ∧ x2 = x
      · exact ⟨q1.1.trans q2.1.symm, q1.2.trans q2.2.symm⟩
      · rw [if_pos q1, if_neg q2] at h
        rw [if_neg q2] at n2
        exact absurd h.symm (fresh _ _ h2 n2)
    · by_cases q2 : j2 = j ∧ x2 = x
      · rw [if_neg q1, if_pos q2] at h
        rw [if_neg q1] at n1
        exact absurd h (fresh _ _ h1 n1)
      · rw [if_neg q1, if_neg q2] at h
        rw [if_neg q1] at n1
        rw [if_neg q2] at n2
        exact B.inj _ _ _ _ h1 h2 n1 n2 h
  · rw [e] at h
    dsimp only at h
    split at h
    · rename_i q
      cases h
      rw [q.1, q.2]; exact ⟨hok, by simp⟩
    · exact B.ok j' x' l' hj' h
  · refine keep a q ha fun z => ?_
    rw [z, hpd] at ha
    cases ha
    rcases hk with h | ⟨vs, h⟩ | ⟨vs, h, h'⟩ | ⟨_, h⟩
    · have := B.dict j hj
      generalize decide (j < 2) = bb at this
      cases this with
      | s a1 _ _ _ => rw [hpd] at a1; cases a1; cases h
      | i a1 _ _ _ => rw [hpd] at a1; cases a1; cases h
    · have := B.dict j hj
      generalize decide (j < 2) = bb at this
      cases this with
      | s a1 _ _ _ => rw [hpd] at a1; cases a1; cases h
      | i a1 _ _ _ => rw [hpd] at a1; cases a1; cases h
    · exact hnd _ _ h
    · exact h j hj z
theorem addEv_same {f : Rec} {j : Nat} {x : Key} {l : List Int} {L : Int} (hf : f j x = some l) (hL : L ∈ l) : addEv f j x L = f := by
  funext j' x'
  unfold addEv addL
  split
  · rename_i q; rw [q.1, q.2, hf]; simp only [hL, if_true]
  · rfl
/-- sizes -/
theorem Book0.sizeS {k : KH} {D : Nat → Addr} {f : Rec} {adr : Nat → Key → Addr} (B : Book0 k D f adr) {j : Nat} {es : List (Str × PV)} (hj : j < 4) (hn : (es.map (·.1)).Nodup) (hl : ∀ x, es.lookup x = refAt f adr j (.s x)) : es.length ≤ 8 := by
  have := nodup_len (es.map (·.1)) names8 hn fun x hx => by
    cases h : f j (.s x) with
    | some l => exact (B.ok j _ l hj h).1.2
    | none =>
      have : es.lookup x = none := by rw [hl, refAt, h]; rfl
      exact absurd hx (lookup_none_iff.mp this)
  rwa [List.length_map] at this
theorem Book0.sizeI {k : KH} {D : Nat → Addr} {f : Rec} {adr : Nat → Key → Addr} (B : Book0 k D f adr) {j : Nat} {es : List (Int × PV)} (hj : j < 4) (hn : (es.map (·.1)).Nodup) (hl : ∀ x, es.lookup x = refAt f adr j (.i x)) : es.length ≤ 8 := by
  have := nodup_len (es.map (·.1)) [10, 11, 12, 13, 14, 15, 16, 17] hn fun x hx => by
    cases h : f j (.i x) with
    | some l =>
      have := (B.ok j _ l hj h).1
      simp only [okKey] at this
      simp only [List.mem_cons, List.not_mem_nil, or_false]
      (first | lia | omega)
    | none =>
      have : es.lookup x = none := by rw [hl, refAt, h]; rfl
      exact absurd hx (lookup_none_iff.mp this)
  rwa [List.length_map] at this

section
variable {prog : Program} {w : World} {G : Glob'} {A : Around} {k : KH} {P : PV → KH → Prop} {m : Loc} {env : Env} {sc : Scope} {d : Nat} {rest : List Stmt} {PX : Fl → Loc → KH → Prop}
theorem okX_frzL {c : Addr} {vs : List PV} {b : Bool} {t : Sem Flow} (hc : k c = some (.list b vs)) (h : OkX prog w G A env (upd k c (.list true vs)) m t PX) : OkX prog w G A env k m t PX := fun R O F s Q H q => h R O F s Q (H.retell hc (fun _ r => r)) q
theorem okE_frzL {c : Addr} {vs : List PV} {b : Bool} {t : Sem Value} (hc : k c = some (.list b vs)) (h : OkE prog w G A env (upd k c (.list true vs)) m t P) : OkE prog w G A env k m t P := fun R O F s Q H q => h R O F s Q (H.retell hc (fun _ r => r)) q
theorem dat_put {k : KH} {d c : Addr} {f : Rec} {adr : Nat → Key → Addr} {j : Nat} {es : List (Str × PV)} {x : Str} (h : k d = some (.dictS false (putP es x (.ref c)))) (hn : (es.map (·.1)).Nodup) (hl : ∀ y, es.lookup y = refAt f adr j (.s y)) (ht : ∀ n, refAt f adr j (.i n) = none) (hf : f j (.s x) = none) :
    DAt k d (fun y => if y = .s x then some (.ref c) else refAt f adr j y) true := by
  have hx : x ∉ es.map (·.1) := lookup_none_iff.mp (by rw [hl, refAt, hf]; rfl)
  refine .s h (putK_nodup hn _ _) (fun y => ?_) fun n => by rw [if_neg (fun z => nomatch z)]; exact ht n
  rw [putK_new _ hx, lookup_app hx, hl]
  by_cases e : y = x
  · simp [e]
  · simp [e]
theorem dat_putI {k : KH} {d c : Addr} {f : Rec} {adr : Nat → Key → Addr} {j : Nat} {es : List (Int × PV)} {x : Int} (h : k d = some (.dictI false (putP es x (.ref c)))) (hn : (es.map (·.1)).Nodup) (hl : ∀ y, es.lookup y = refAt f adr j (.i y)) (ht : ∀ n, refAt f adr j (.s n) = none) (hf : f j (.i x) = none) :
    DAt k d (fun y => if y = .i x then some (.ref c) else refAt f adr j y) false := by
  have hx : x ∉ es.map (·.1) := lookup_none_iff.mp (by rw [hl, refAt, hf]; rfl)
  refine .i h (putK_nodup hn _ _) (fun y => ?_) fun n => by rw [if_neg (fun z => nomatch z)]; exact ht n
  rw [putK_new _ hx, lookup_app hx, hl]
  by_cases e : y = x
  · simp [e]
  · simp [e]
theorem Book0.dS {k : KH} {D : Nat → Addr} {f : Rec} {adr : Nat → Key → Addr} (B : Book0 k D f adr) {j : Nat} (h2 : j < 2) : ∃ es, k (D j) = some (.dictS false es) ∧ (es.map (·.1)).Nodup ∧ (∀ x, es.lookup x = refAt f adr j (.s x)) ∧ (∀ n, refAt f adr j (.i n) = none) ∧ es.length ≤ 8 := by
  have := B.dict j (by first | lia | omega)
  rw [decide_eq_true h2] at this
  cases this with
  | s a1 a2 a3 a4 => exact ⟨_, a1, a2, a3, a4, B.sizeS (by first | lia | omega) a2 a3⟩
theorem Book0.dI {k : KH} {D : Nat → Addr} {f : Rec} {adr : Nat → Key → Addr} (B : Book0 k D f adr) {j : Nat} (h2 : 2 ≤ j) (h4 : j < 4) : ∃ es, k (D j) = some (.dictI false es) ∧ (es.map (·.1)).Nodup ∧ (∀ x, es.lookup x = refAt f adr j (.i x)) ∧ (∀ n, refAt f adr j (.s n) = none) ∧ es.length ≤ 8 := by
  have := B.dict j h4
  rw [decide_eq_false (by first | lia | omega)] at this
  cases this with
  | i a1 a2 a3 a4 => exact ⟨_, a1, a2, a3, a4, B.sizeI h4 a2 a3⟩

set_option maxHeartbeats 2000000 in
theorem note_s (g : Prg G) (hR : Room A 1) {D : Nat → Addr} {f : Rec} {j : Nat} {y : Str} {L : Int} (B : Book k D f) (hj : j < 2) (hok : okKey j (.s y)) (hb : Bd f L 1000) (h : ∀ k', Book k' D (addEv f j (.s y) L) → BF D k k' → P .none k') : OkF prog w G A k "note" [.ref (D j), .str y, .int L] P := by
  refine okF_fn (n := 8) (d := 0) g rfl hR (by decide +kernel) rfl fun env A' V => ?_
  have W := V.g
  obtain ⟨adr, B⟩ := B
  refine cps fun qZ hZ => ?_
  obtain ⟨es, hd, hn, hl, ht, hz⟩ := B.dS hj
  refine hZ ?_
  clear hZ qZ
  show OkX prog w G A' env k (setL (setL (setL (fun _ => none) "lines" (.ref (D j))) "key" (.str y)) "line" (.int L)) (execs (bodyN 8) env) _
  refine vIf V ?_
  repeat walk_at "v1"
  refine oNinS g hd ?_
  repeat walk_at "v1"
  cases hf : f j (.s y) with
  | none =>
    have hlu : es.lookup y = none := by rw [hl, refAt, hf]; rfl
    refine ⟨fun _ => ?_, fun hh => absurd hh (by rw [hlu]; simp)⟩
    refine vSetS V rfl ?_
    refine eListM (okEs_nil ⟨by simp, fun c k1 N => ?_⟩)
    repeat walk_at "v1"
    refine ⟨D j, es, y, rfl, rfl, N.get hd, sz_le (by first | lia | omega), fun k2 U => ?_⟩
    have hx : y ∉ es.map (·.1) := lookup_none_iff.mp hlu
    have hcD : c ≠ D j := (N.ne hd).symm
    have hk2c : k2 c = some (.list false []) := by rw [U.ne hcD]; exact N.at
    have hlk : (putP es y (.ref c)).lookup y = some (.ref c) := by rw [putK_new _ hx, lookup_app hx, if_pos rfl]
    refine vNil (seq_next (vIf V ?_))
    repeat walk_at "v1"
    refine oIdxS rfl U.at hlk ?_
    refine oNinL [] hk2c rfl ?_
    refine ⟨_, rfl, fun _ => ?_, fun hh => absurd hh (by simp)⟩
    refine vExpr V rfl ?_
    repeat walk_at "v1"
    refine oIdxS rfl U.at hlk ?_
    refine ⟨c, _, _, rfl, hk2c, ?_⟩
    repeat walk_at "v1"
    refine ⟨_, hk2c, sz_le (by simp), fun k3 U3 => ?_⟩
    have hdat := dat_put U.at hn hl ht hf
    rw [show true = decide (j < 2) from (decide_eq_true hj).symm] at hdat
    obtain ⟨B', F'⟩ := B.newKey (L := L) (by first | lia | omega) hok hf N U hdat U3
    refine vNil (seq_next (vNil ?_))
    exact h _ B' F'
  | some l =>
    have hlu : es.lookup y = some (.ref (adr j (.s y))) := by rw [hl, refAt, hf]; rfl
    have hk := B.list j _ l (by first | lia | omega) hf
    refine ⟨fun hh => absurd hh (by rw [hlu]; simp), fun _ => ?_⟩
    refine vNil (seq_next (vIf V ?_))
    repeat walk_at "v1"
    refine oIdxS rfl hd hlu ?_
    refine oNinL l hk rfl ?_
    refine ⟨_, rfl, fun hh => ?_, fun hh => ?_⟩
    · have hL : L ∉ l := by simpa using hh
      refine vExpr V rfl ?_
      repeat walk_at "v1"
      refine oIdxS rfl hd hlu ?_
      refine ⟨_, _, _, rfl, hk, ?_⟩
      repeat walk_at "v1"
      have hlen := hb j _ l hf
      refine ⟨_, hk, sz_le (by rw [List.length_map]; (first | lia | omega)), fun k3 U3 => ?_⟩
      obtain ⟨B', F'⟩ := B.grow (L := L) (by first | lia | omega) hf hL U3
      refine vNil (seq_next (vNil ?_))
      exact h _ B' F'
    · have hL : L ∈ l := by simpa using hh
      have hsame := addEv_same hf hL
      refine vNil (seq_next (vNil ?_))
      exact h _ (by rw [hsame]; exact ⟨adr, B⟩) BF.refl

set_option maxHeartbeats 2000000 in
theorem note_i (g : Prg G) (hR : Room A 1) {D : Nat → Addr} {f : Rec} {j : Nat} {y : Int} {L : Int} (B : Book k D f) (hj2 : 2 ≤ j) (hj : j < 4) (hok : okKey j (.i y)) (hb : Bd f L 1000) (h : ∀ k', Book k' D (addEv f j (.i y) L) → BF D k k' → P .none k') : OkF prog w G A k "note" [.ref (D j), .int y, .int L] P := by
  refine okF_fn (n := 8) (d := 0) g rfl hR (by decide +kernel) rfl fun env A' V => ?_
  have W := V.g
  obtain ⟨adr, B⟩ := B
  refine cps fun qZ hZ => ?_
  obtain ⟨es, hd, hn, hl, ht, hz⟩ := B.dI hj2 hj
  refine hZ ?_
  clear hZ qZ
  show OkX prog w G A' env k (setL (setL (setL (fun _ => none) "lines" (.ref (D j))) "key" (.int y)) "line" (.int L)) (execs (bodyN 8) env) _
  refine vIf V ?_
  repeat walk_at "v1"
  refine oNinI g hd ?_
  repeat walk_at "v1"
  cases hf : f j (.i y) with
  | none =>
    have hlu : es.lookup y = none := by rw [hl, refAt, hf]; rfl
    refine ⟨fun _ => ?_, fun hh => absurd hh (by rw [hlu]; simp)⟩
    refine vSetI V rfl ?_
    refine eListM (okEs_nil ⟨by simp, fun c k1 N => ?_⟩)
    repeat walk_at "v1"
    refine ⟨D j, es, y, rfl, rfl, N.get hd, sz_le (by first | lia | omega), fun k2 U => ?_⟩
    have hx : y ∉ es.map (·.1) := lookup_none_iff.mp hlu
    have hcD : c ≠ D j := (N.ne hd).symm
    have hk2c : k2 c = some (.list false []) := by rw [U.ne hcD]; exact N.at
    have hlk : (putP es y (.ref c)).lookup y = some (.ref c) := by rw [putK_new _ hx, lookup_app hx, if_pos rfl]
    refine vNil (seq_next (vIf V ?_))
    repeat walk_at "v1"
    refine oIdxI rfl U.at hlk ?_
    refine oNinL [] hk2c rfl ?_
    refine ⟨_, rfl, fun _ => ?_, fun hh => absurd hh (by simp)⟩
    refine vExpr V rfl ?_
    repeat walk_at "v1"
    refine oIdxI rfl U.at hlk ?_
    refine ⟨c, _, _, rfl, hk2c, ?_⟩
    repeat walk_at "v1"
    refine ⟨_, hk2c, sz_le (by simp), fun k3 U3 => ?_⟩
    have hdat := dat_putI U.at hn hl ht hf
    rw [show false = decide (j < 2) from (decide_eq_false (by first | lia | omega)).symm] at hdat
    obtain ⟨B', F'⟩ := B.newKey (L := L) (by first | lia | omega) hok hf N U hdat U3
    refine vNil (seq_next (vNil ?_))
    exact h _ B' F'
  | some l =>
    have hlu : es.lookup y = some (.ref (adr j (.i y))) := by rw [hl, refAt, hf]; rfl
    have hk := B.list j _ l (by first | lia | omega) hf
    refine ⟨fun hh => absurd hh (by rw [hlu]; simp), fun _ => ?_⟩
    refine vNil (seq_next (vIf V ?_))
    repeat walk_at "v1"
    refine oIdxI rfl hd hlu ?_
    refine oNinL l hk rfl ?_
    refine ⟨_, rfl, fun hh => ?_, fun hh => ?_⟩
    · have hL : L ∉ l := by simpa using hh
      refine vExpr V rfl ?_
      repeat walk_at "v1"
      refine oIdxI rfl hd hlu ?_
      refine ⟨_, _, _, rfl, hk, ?_⟩
      repeat walk_at "v1"
      have hlen := hb j _ l hf
      refine ⟨_, hk, sz_le (by rw [List.length_map]; (first | lia | omega)), fun k3 U3 => ?_⟩
      obtain ⟨B', F'⟩ := B.grow (L := L) (by first | lia | omega) hf hL U3
      refine vNil (seq_next (vNil ?_))
      exact h _ B' F'
    · have hL : L ∈ l := by simpa using hh
      have hsame := addEv_same hf hL
      refine vNil (seq_next (vNil ?_))
      exact h _ (by rw [hsame]; exact ⟨adr, B⟩) BF.refl

set_option maxHeartbeats 2000000 in
theorem once_s (g : Prg G) (hR : Room A 1) {D : Nat → Addr} {f0 : Rec} {j : Nat} {ys : List Str} {L : Int} {c0 : Addr} (B : Book k D f0) (hk0 : k c0 = some (.list true (ys.map .str))) (hj : j < 2) (hok : ∀ y ∈ ys, okKey j (.s y)) (hb : Bd f0 L 1000)
    (h : ∀ k', Book k' D (addEvs f0 (ys.map fun y => (j, .s y)) L) → BF D k k' → P .none k') : OkF prog w G A k "_law_once" [.ref (D j), .ref c0, .int L] P := by
  refine okF_fn (n := 35) (d := 0) g rfl hR (by decide +kernel) rfl fun env A' V => ?_
  have W := V.g
  show OkX prog w G A' env k (setL (setL (setL (fun _ => none) "lines" (.ref (D j))) "keys" (.ref c0)) "line" (.int L)) (execs (bodyN 35) env) _
  refine okX_sFor (fun its m' k' => ∃ ds rs, ds ++ rs = ys ∧ its = rs.map .str ∧ Book k' D (addEvs f0 (ds.map fun y => (j, .s y)) L) ∧ BF D k k' ∧ m' "lines" = some (.ref (D j)) ∧ m' "line" = some (.int L)) V.r.handled V.f (store_of V.s (by decide +kernel)) (fun _ => rfl) ?_ (fun v its m' k' hJ => ?_) (fun m' k' hJ => ?_)
  · repeat walk_at "v1"
    refine ⟨_, _, src_list hk0 (.inl ⟨_, rfl⟩), ?_, ?_⟩
    · rintro its m' k' ⟨ds, rs, e1, e2, e3, e4, e5, e6⟩
      exact ⟨_, e4.fz _ _ hk0 rfl, .inl ⟨_, rfl⟩⟩
    · exact ⟨[], ys, rfl, rfl, B, BF.refl, by walk_at "lk", by walk_at "lk"⟩
  · refine cps fun qZ hZ => ?_
    obtain ⟨ds, rs, e1, e2, B, F0, m1, m2⟩ := hJ
    refine hZ ?_
    clear hZ qZ
    match rs, e2 with
    | y :: rs, e2 =>
      rw [List.map_cons, List.cons.injEq] at e2
      obtain ⟨rfl, rfl⟩ := e2
      have hb := hb.adds (by first | lia | omega) (ds.map fun y => ((j, .s y) : Ev))
      have hok := hok y (by rw [← e1]; simp)
      generalize hf0 : addEvs f0 (ds.map fun y => ((j, .s y) : Ev)) L = f at *
      have fin : ∀ kk, Book kk D (addEv f j (.s y) L) → BF D k kk → ∃ ds rs', ds ++ rs' = ys ∧ rs.map PV.str = rs'.map .str ∧ Book kk D (addEvs f0 (ds.map fun y => (j, .s y)) L) ∧ BF D k kk ∧ (setL m' "key" (.str y)) "lines" = some (.ref (D j)) ∧ (setL m' "key" (.str y)) "line" = some (.int L) := fun kk b1 b2 =>
        ⟨ds ++ [y], rs, by simp [← e1], rfl, by rw [List.map_append, addEvs_app, hf0]; exact b1, b2, by walk_at "lk", by walk_at "lk"⟩
      obtain ⟨adr, B⟩ := B
      refine cps fun qZ hZ => ?_
      obtain ⟨es, hd, hn, hl, ht, hz⟩ := B.dS hj
      refine hZ ?_
      clear hZ qZ
      refine vIf V ?_
      repeat walk_at "v1"
      refine oNinS g hd ?_
      repeat walk_at "v1"
      cases hf : f j (.s y) with
      | none =>
        have hlu : es.lookup y = none := by rw [hl, refAt, hf]; rfl
        refine ⟨fun _ => ?_, fun hh => absurd hh (by rw [hlu]; simp)⟩
        refine vSetS V rfl ?_
        refine eListM (okEs_nil ⟨by simp, fun c k1 N => ?_⟩)
        repeat walk_at "v1"
        refine ⟨D j, es, y, rfl, rfl, N.get hd, sz_le (by first | lia | omega), fun k2 U => ?_⟩
        have hx : y ∉ es.map (·.1) := lookup_none_iff.mp hlu
        have hcD : c ≠ D j := (N.ne hd).symm
        have hk2c : k2 c = some (.list false []) := by rw [U.ne hcD]; exact N.at
        have hlk : (putP es y (.ref c)).lookup y = some (.ref c) := by rw [putK_new _ hx, lookup_app hx, if_pos rfl]
        refine vNil (seq_next (vIf V ?_))
        repeat walk_at "v1"
        refine oIdxS rfl U.at hlk ?_
        refine oNinL [] hk2c rfl ?_
        refine ⟨_, rfl, fun _ => ?_, fun hh => absurd hh (by simp)⟩
        refine vExpr V rfl ?_
        repeat walk_at "v1"
        refine oIdxS rfl U.at hlk ?_
        refine ⟨c, _, _, rfl, hk2c, ?_⟩
        repeat walk_at "v1"
        refine ⟨_, hk2c, sz_le (by simp), fun k3 U3 => ?_⟩
        have hdat := dat_put U.at hn hl ht hf
        rw [show true = decide (j < 2) from (decide_eq_true hj).symm] at hdat
        obtain ⟨B', F'⟩ := B.newKey (L := L) (by first | lia | omega) hok hf N U hdat U3
        refine vNil (seq_next (vNil ?_))
        exact fin _ B' (F0.comp F')
      | some l =>
        have hlu : es.lookup y = some (.ref (adr j (.s y))) := by rw [hl, refAt, hf]; rfl
        have hk := B.list j _ l (by first | lia | omega) hf
        refine ⟨fun hh => absurd hh (by rw [hlu]; simp), fun _ => ?_⟩
        refine vNil (seq_next (vIf V ?_))
        repeat walk_at "v1"
        refine oIdxS rfl hd hlu ?_
        refine oNinL l hk rfl ?_
        refine ⟨_, rfl, fun hh => ?_, fun hh => ?_⟩
        · have hL : L ∉ l := by simpa using hh
          refine vExpr V rfl ?_
          repeat walk_at "v1"
          refine oIdxS rfl hd hlu ?_
          refine ⟨_, _, _, rfl, hk, ?_⟩
          repeat walk_at "v1"
          have hlen := hb j _ l hf
          refine ⟨_, hk, sz_le (by rw [List.length_map]; (first | lia | omega)), fun k3 U3 => ?_⟩
          obtain ⟨B', F'⟩ := B.grow (L := L) (by first | lia | omega) hf hL U3
          refine vNil (seq_next (vNil ?_))
          exact fin _ B' (F0.comp F')
        · have hL : L ∈ l := by simpa using hh
          have hsame := addEv_same hf hL
          refine vNil (seq_next (vNil ?_))
          exact fin _ (by rw [hsame]; exact ⟨adr, B⟩) F0

  · refine cps fun qZ hZ => ?_
    obtain ⟨ds, rs, e1, e2, B, F0, m1, m2⟩ := hJ
    refine hZ ?_
    clear hZ qZ
    match rs, e2 with
    | [], _ =>
      rw [List.append_nil] at e1
      subst e1
      exact vNil (h _ B F0)

set_option maxHeartbeats 2000000 in
theorem once_i (g : Prg G) (hR : Room A 1) {D : Nat → Addr} {f0 : Rec} {j : Nat} {ys : List Int} {L : Int} {c0 : Addr} (B : Book k D f0) (hk0 : k c0 = some (.list true (ys.map .int))) (hj2 : 2 ≤ j) (hj : j < 4) (hok : ∀ y ∈ ys, okKey j (.i y)) (hb : Bd f0 L 1000)
    (h : ∀ k', Book k' D (addEvs f0 (ys.map fun y => (j, .i y)) L) → BF D k k' → P .none k') : OkF prog w G A k "_law_once" [.ref (D j), .ref c0, .int L] P := by
  refine okF_fn (n := 35) (d := 0) g rfl hR (by decide +kernel) rfl fun env A' V => ?_
  have W := V.g
  show OkX prog w G A' env k (setL (setL (setL (fun _ => none) "lines" (.ref (D j))) "keys" (.ref c0)) "line" (.int L)) (execs (bodyN 35) env) _
  refine okX_sFor (fun its m' k' => ∃ ds rs, ds ++ rs = ys ∧ its = rs.map .int ∧ Book k' D (addEvs f0 (ds.map fun y => (j, .i y)) L) ∧ BF D k k' ∧ m' "lines" = some (.ref (D j)) ∧ m' "line" = some (.int L)) V.r.handled V.f (store_of V.s (by decide +kernel)) (fun _ => rfl) ?_ (fun v its m' k' hJ => ?_) (fun m' k' hJ => ?_)
  · repeat walk_at "v1"
    refine ⟨_, _, src_list hk0 (.inl ⟨_, rfl⟩), ?_, ?_⟩
    · rintro its m' k' ⟨ds, rs, e1, e2, e3, e4, e5, e6⟩
      exact ⟨_, e4.fz _ _ hk0 rfl, .inl ⟨_, rfl⟩⟩
    · exact ⟨[], ys, rfl, rfl, B, BF.refl, by walk_at "lk", by walk_at "lk"⟩
  · refine cps fun qZ hZ => ?_
    obtain ⟨ds, rs, e1, e2, B, F0, m1, m2⟩ := hJ
    refine hZ ?_
    clear hZ qZ
    match rs, e2 with
    | y :: rs, e2 =>
      rw [List.map_cons, List.cons.injEq] at e2
      obtain ⟨rfl, rfl⟩ := e2
      have hb := hb.adds (by first | lia | omega) (ds.map fun y => ((j, .i y) : Ev))
      have hok := hok y (by rw [← e1]; simp)
      generalize hf0 : addEvs f0 (ds.map fun y => ((j, .i y) : Ev)) L = f at *
      have fin : ∀ kk, Book kk D (addEv f j (.i y) L) → BF D k kk → ∃ ds rs', ds ++ rs' = ys ∧ rs.map PV.int = rs'.map .int ∧ Book kk D (addEvs f0 (ds.map fun y => (j, .i y)) L) ∧ BF D k kk ∧ (setL m' "key" (.int y)) "lines" = some (.ref (D j)) ∧ (setL m' "key" (.int y)) "line" = some (.int L) := fun kk b1 b2 =>
        ⟨ds ++ [y], rs, by simp [← e1], rfl, by rw [List.map_append, addEvs_app, hf0]; exact b1, b2, by walk_at "lk", by walk_at "lk"⟩
      obtain ⟨adr, B⟩ := B
      refine cps fun qZ hZ => ?_
      obtain ⟨es, hd, hn, hl, ht, hz⟩ := B.dI hj2 hj
      refine hZ ?_
      clear hZ qZ
      refine vIf V ?_
      repeat walk_at "v1"
      refine oNinI g hd ?_
      repeat walk_at "v1"
      cases hf : f j (.i y) with
      | none =>
        have hlu : es.lookup y = none := by rw [hl, refAt, hf]; rfl
        refine ⟨fun _ => ?_, fun hh => absurd hh (by rw [hlu]; simp)⟩
        refine vSetI V rfl ?_
        refine eListM (okEs_nil ⟨by simp, fun c k1 N => ?_⟩)
        repeat walk_at "v1"
        refine ⟨D j, es, y, rfl, rfl, N.get hd, sz_le (by first | lia | omega), fun k2 U => ?_⟩
        have hx : y ∉ es.map (·.1) := lookup_none_iff.mp hlu
        have hcD : c ≠ D j := (N.ne hd).symm
        have hk2c : k2 c = some (.list false []) := by rw [U.ne hcD]; exact N.at
        have hlk : (putP es y (.ref c)).lookup y = some (.ref c) := by rw [putK_new _ hx, lookup_app hx, if_pos rfl]
        refine vNil (seq_next (vIf V ?_))
        repeat walk_at "v1"
        refine oIdxI rfl U.at hlk ?_
        refine oNinL [] hk2c rfl ?_
        refine ⟨_, rfl, fun _ => ?_, fun hh => absurd hh (by simp)⟩
        refine vExpr V rfl ?_
        repeat walk_at "v1"
        refine oIdxI rfl U.at hlk ?_
        refine ⟨c, _, _, rfl, hk2c, ?_⟩
        repeat walk_at "v1"
        refine ⟨_, hk2c, sz_le (by simp), fun k3 U3 => ?_⟩
        have hdat := dat_putI U.at hn hl ht hf
        rw [show false = decide (j < 2) from (decide_eq_false (by first | lia | omega)).symm] at hdat
        obtain ⟨B', F'⟩ := B.newKey (L := L) (by first | lia | omega) hok hf N U hdat U3
        refine vNil (seq_next (vNil ?_))
        exact fin _ B' (F0.comp F')
      | some l =>
        have hlu : es.lookup y = some (.ref (adr j (.i y))) := by rw [hl, refAt, hf]; rfl
        have hk := B.list j _ l (by first | lia | omega) hf
        refine ⟨fun hh => absurd hh (by rw [hlu]; simp), fun _ => ?_⟩
        refine vNil (seq_next (vIf V ?_))
        repeat walk_at "v1"
        refine oIdxI rfl hd hlu ?_
        refine oNinL l hk rfl ?_
        refine ⟨_, rfl, fun hh => ?_, fun hh => ?_⟩
        · have hL : L ∉ l := by simpa using hh
          refine vExpr V rfl ?_
          repeat walk_at "v1"
          refine oIdxI rfl hd hlu ?_
          refine ⟨_, _, _, rfl, hk, ?_⟩
          repeat walk_at "v1"
          have hlen := hb j _ l hf
          refine ⟨_, hk, sz_le (by rw [List.length_map]; (first | lia | omega)), fun k3 U3 => ?_⟩
          obtain ⟨B', F'⟩ := B.grow (L := L) (by first | lia | omega) hf hL U3
          refine vNil (seq_next (vNil ?_))
          exact fin _ B' (F0.comp F')
        · have hL : L ∈ l := by simpa using hh
          have hsame := addEv_same hf hL
          refine vNil (seq_next (vNil ?_))
          exact fin _ (by rw [hsame]; exact ⟨adr, B⟩) F0

  · refine cps fun qZ hZ => ?_
    obtain ⟨ds, rs, e1, e2, B, F0, m1, m2⟩ := hJ
    refine hZ ?_
    clear hZ qZ
    match rs, e2 with
    | [], _ =>
      rw [List.append_nil] at e1
      subst e1
      exact vNil (h _ B F0)
end

/-- the notes' object -/
noncomputable def NotesAt (G : Glob') (k : KH) (N : Addr) (D : Nat → Addr) : Prop := ∃ C dx, k N = some (.inst C dx) ∧ ClsG G 7 "Notes" C ∧ k dx = some (.dictS true [("set_at", .ref (D 0)), ("used_at", .ref (D 1)), ("defined", .ref (D 3)), ("wanted", .ref (D 2))])
theorem NotesAt.fz {G k k' N D} (h : NotesAt G k N D) (f : Fz k k') : NotesAt G k' N D := let ⟨C, dx, a, b, c⟩ := h; ⟨C, dx, f _ _ a rfl, b, f _ _ c rfl⟩
noncomputable def evOk (es : List Ev) : Prop := ∀ e ∈ es, okKey e.1 e.2
theorem evOk.left {a b : List Ev} (h : evOk (a ++ b)) : evOk a := fun e he => h e (List.mem_append_left _ he)
theorem evOk.right {a b : List Ev} (h : evOk (a ++ b)) : evOk b := fun e he => h e (List.mem_append_right _ he)
theorem evOk.head {a : Ev} {b : List Ev} (h : evOk (a :: b)) : okKey a.1 a.2 := h a (.head _)
theorem evOk.tail {a : Ev} {b : List Ev} (h : evOk (a :: b)) : evOk b := fun e he => h e (.tail _ he)

section
variable {prog : Program} {w : World} {G : Glob'} {A : Around} {k : KH} {P : PV → KH → Prop} {m : Loc} {env : Env} {sc : Scope} {d : Nat} {rest : List Stmt} {PX : Fl → Loc → KH → Prop}

theorem eAt0 (g : Prg G) {N : Addr} {D : Nat → Addr} {p pos : Pos} (hm : m "notes" = some (.ref N)) (hN : NotesAt G k N D) (h : P (.ref (D 0)) k) : OkE prog w G A env k m (eval (.Attribute (.Name "notes" p) "set_at" pos) env) P := by
  refine cps fun qZ hZ => ?_
  obtain ⟨C, dx, a, b, c⟩ := hN
  refine hZ ?_
  clear hZ qZ
  refine okE_Attr g rfl (by with_unfolding_all rfl) (okE_Name hm (by decide +kernel) ⟨N, C, dx, _, _, _, _, _, rfl, a, b, c, by decide +kernel, ?_, ?_, h⟩)
  · simp [List.lookup]
  · exact fun z => nomatch z
theorem eAt1 (g : Prg G) {N : Addr} {D : Nat → Addr} {p pos : Pos} (hm : m "notes" = some (.ref N)) (hN : NotesAt G k N D) (h : P (.ref (D 1)) k) : OkE prog w G A env k m (eval (.Attribute (.Name "notes" p) "used_at" pos) env) P := by
  refine cps fun qZ hZ => ?_
  obtain ⟨C, dx, a, b, c⟩ := hN
  refine hZ ?_
  clear hZ qZ
  refine okE_Attr g rfl (by with_unfolding_all rfl) (okE_Name hm (by decide +kernel) ⟨N, C, dx, _, _, _, _, _, rfl, a, b, c, by decide +kernel, ?_, ?_, h⟩)
  · simp only [List.lookup, show ((Str.ofString "used_at") == (Str.ofString "set_at")) = false by decide +kernel, beq_self_eq_true]
  · exact fun z => nomatch z
theorem eAt2 (g : Prg G) {N : Addr} {D : Nat → Addr} {p pos : Pos} (hm : m "notes" = some (.ref N)) (hN : NotesAt G k N D) (h : P (.ref (D 2)) k) : OkE prog w G A env k m (eval (.Attribute (.Name "notes" p) "wanted" pos) env) P := by
  refine cps fun qZ hZ => ?_
  obtain ⟨C, dx, a, b, c⟩ := hN
  refine hZ ?_
  clear hZ qZ
  refine okE_Attr g rfl (by with_unfolding_all rfl) (okE_Name hm (by decide +kernel) ⟨N, C, dx, _, _, _, _, _, rfl, a, b, c, by decide +kernel, ?_, ?_, h⟩)
  · simp only [List.lookup, show ((Str.ofString "wanted") == (Str.ofString "set_at")) = false by decide +kernel, show ((Str.ofString "wanted") == (Str.ofString "used_at")) = false by decide +kernel, show ((Str.ofString "wanted") == (Str.ofString "defined")) = false by decide +kernel, beq_self_eq_true]
  · exact fun z => nomatch z
theorem eAt3 (g : Prg G) {N : Addr} {D : Nat → Addr} {p pos : Pos} (hm : m "notes" = some (.ref N)) (hN : NotesAt G k N D) (h : P (.ref (D 3)) k) : OkE prog w G A env k m (eval (.Attribute (.Name "notes" p) "defined" pos) env) P := by
  refine cps fun qZ hZ => ?_
  obtain ⟨C, dx, a, b, c⟩ := hN
  refine hZ ?_
  clear hZ qZ
  refine okE_Attr g rfl (by with_unfolding_all rfl) (okE_Name hm (by decide +kernel) ⟨N, C, dx, _, _, _, _, _, rfl, a, b, c, by decide +kernel, ?_, ?_, h⟩)
  · simp only [List.lookup, show ((Str.ofString "defined") == (Str.ofString "set_at")) = false by decide +kernel, show ((Str.ofString "defined") == (Str.ofString "used_at")) = false by decide +kernel, beq_self_eq_true]
  · exact fun z => nomatch z

/-- noting is shown of a tree v: what it tells is es -/
structure UseP (prog : Program) (w : World) (G : Glob') (d : Nat) (k0 : KH) (v : PV) (es : List Ev) : Prop where
  run : ∀ {A : Around} {k : KH} {P : PV → KH → Prop} {N : Addr} {D : Nat → Addr} {f : Rec} {L : Int}, Fz k0 k → Room A (10 + 5 * d) → NotesAt G k N D → Book k D f → Bd f L 1000 → evOk es →
  (∀ k', Book k' D (addEvs f es L) → BF D k k' → P .none k') → OkF prog w G A k "note_uses" [.ref N, v, .int L] P
noncomputable def UseC (prog : Program) (w : World) (G : Glob') (d : Nat) (k0 : KH) : List PV → List Ev → Prop
  | [], es => es = []
  | v :: r, es => ∃ e1 e2, es = e1 ++ e2 ∧ UseP prog w G d k0 v e1 ∧ UseC prog w G d k0 r e2
theorem UseP.le {d d' : Nat} {k0 : KH} {v : PV} {es : List Ev} (h : UseP prog w G d k0 v es) (l : d ≤ d') : UseP prog w G d' k0 v es := .mk fun a b c e f g i => h.run a (b.le (by first | lia | omega)) c e f g i
theorem UseC.le {d d' : Nat} {k0 : KH} (l : d ≤ d') : ∀ {vs : List PV} {es : List Ev}, UseC prog w G d k0 vs es → UseC prog w G d' k0 vs es
  | [], _, h => h
  | _ :: _, _, ⟨e1, e2, a, b, c⟩ => ⟨e1, e2, a, b.le l, UseC.le l c⟩

/-- a loop whose invariant may speak of what is walked -/
theorem okX_sForG {x : Str} {px pos : Pos} {iter : PySem.Expr} {body : List Stmt} (hh : A.handled = none) (hF : Free G env) (hk : env.kindOf x = some .local ∨ env.kindOf x = some .cell) (hfold : ∀ x, foldedSetIterable iter env x = pure x)
    (h : OkE prog w G A env k m (eval iter env) fun v k1 => ∃ items st, ∃ J : List PV → Loc → KH → Prop, Src prog w (fun _ => none) v items k1 st ∧ (∀ its m k, J its m k → st k) ∧ J items m k1 ∧
      (∀ v its m k, J (v :: its) m k → OkX prog w G A env k (setL m x v) (execs body env) (LoopQ J (Seq prog w G A env rest PX) its)) ∧ (∀ m k, J [] m k → OkX prog w G A env k m (execs rest env) PX)) :
    OkX prog w G A env k m (execs (.For (.Name x px) iter body [] pos :: rest) env) PX :=
  okX_seq hF (okX_For hh hF (okT_name hF hk) (.inl ⟨x, px, rfl⟩) hfold (okE_mono h fun v k1 ⟨items, st, J, S, h1, h2, hb, he⟩ => ⟨items, st, S, wpLoop_inv (B := fun v m k C => OkX prog w G A env k (setL m x v) (execs body env) C) (fun v m k C C' a b => okX_mono a b) h1 hb he items m k1 h2⟩))

/-- for part in ..: note_uses(notes, part, line) -/
theorem vForUses {N : Addr} {D : Nat → Addr} {f : Rec} {L : Int} {k0 : KH} {px pos : Pos} {iter : PySem.Expr} {body : List Stmt} {d1 : Nat} {es : List Ev} (V : EnvOk G env A sc d) (hd : 10 + 5 * d1 ≤ d) (hk : storeOk sc "part" = true) (hfold : ∀ x, foldedSetIterable iter env x = pure x)
    (h : OkE prog w G A env k m (eval iter env) fun v k1 => ∃ items st, Src prog w (fun _ => none) v items k1 st ∧ (∀ k2, Fz k1 k2 → st k2) ∧ UseC prog w G d1 k0 items es ∧ Fz k0 k1 ∧ NotesAt G k1 N D ∧ Book k1 D f ∧ BF D k k1)
    (hb : Bd f L 1000) (ho : evOk es) (hn : m "notes" = some (.ref N)) (hl : m "line" = some (.int L))
    (hbody : ∀ v k' (m' : Loc) (Q : Fl → Loc → KH → Prop), m' "notes" = some (.ref N) → m' "line" = some (.int L) → m' "part" = some v → OkF prog w G A k' "note_uses" [.ref N, v, .int L] (fun _ k2 => Q .next m' k2) → OkX prog w G A env k' m' (execs body env) Q)
    (he : ∀ m' k', (∀ y : Str, y ≠ "part" → m' y = m y) → Book k' D (addEvs f es L) → BF D k k' → OkX prog w G A env k' m' (execs rest env) PX) : OkX prog w G A env k m (execs (.For (.Name "part" px) iter body [] pos :: rest) env) PX := by
  have np : (Str.ofString "notes") ≠ "part" := by decide +kernel
  have lp : (Str.ofString "line") ≠ "part" := by decide +kernel
  refine okX_sForG V.r.handled V.f (store_of V.s hk) hfold (okE_mono h fun v k1 ⟨items, st, a1, a2, a3, a4, a5, a6, a7⟩ => ⟨items, st,
    fun its m' k' => ∃ ds rs, ds ++ rs = es ∧ UseC prog w G d1 k0 its rs ∧ Fz k1 k' ∧ Book k' D (addEvs f ds L) ∧ BF D k k' ∧ ∀ y : Str, y ≠ "part" → m' y = m y, a1, ?_, ?_, ?_, ?_⟩)
  · rintro its m' k' ⟨ds, rs, b1, b2, b3, b4, b5, b6⟩
    exact a2 _ b3
  · exact ⟨[], es, rfl, a3, Fz.refl, a6, a7, fun _ _ => rfl⟩
  · rintro v its m' k' ⟨ds, rs, b1, b2, b3, b4, b5, b6⟩
    refine cps fun qZ hZ => ?_
    obtain ⟨e1, e2, rfl, u1, u2⟩ := b2
    refine hZ ?_
    clear hZ qZ
    subst b1
    refine hbody v k' _ _ (by rw [show setL m' "part" v "notes" = m' "notes" from by unfold setL; rw [if_neg np], b6 _ np]; exact hn) (by rw [show setL m' "part" v "line" = m' "line" from by unfold setL; rw [if_neg lp], b6 _ lp]; exact hl) lk_here ?_
    refine u1.run (a4.comp b3) (V.r.le (by first | lia | omega)) (a5.fz b3) b4 (hb.adds (by first | lia | omega) ds) ho.right.left fun k2 c1 c2 => ?_
    exact ⟨ds ++ e1, e2, by rw [List.append_assoc], u2, b3.comp c2.fz, by rw [addEvs_app]; exact c1, b5.comp c2, fun y hy => by unfold setL; rw [if_neg hy]; exact b6 y hy⟩
  · rintro m' k' ⟨ds, rs, b1, b2, b3, b4, b5, b6⟩
    have : rs = [] := b2
    subst this
    rw [List.append_nil] at b1
    subst b1
    exact he m' k' b6 b4 b5

/-- note_uses, once the tag is known to be no const and no ido -/
theorem uses_start (g : Prg G) {env : Env} {A' : Around} {m0 : Loc} {a : Addr} {t : Str} {l : List PV} {PX : Fl → Loc → KH → Prop} (V : EnvOk G env A' (scopeN 9) d) (hm : m0 "tree" = some (.ref a)) (ha : k a = some (.tup (.str t :: l))) (h1 : t ≠ "const") (h2 : t ≠ "ido")
    (h : OkX prog w G A' env k (setL m0 "tag" (.str t)) (execs ((bodyN 9).drop 4) env) PX) : OkX prog w G A' env k m0 (execs (bodyN 9) env) PX := by
  have W := V.g
  refine vIf V ?_
  repeat walk_at "v1"
  refine okC_call (okE_isT g W (by decide +kernel) (by decide +kernel) rfl ?_)
  repeat walk_at "v1"
  refine ⟨true, .inl ⟨rfl, _, _, rfl, ha⟩, true, rfl, fun hh => absurd hh (by simp), fun _ => ?_⟩
  repeat walk_at "v1"
  refine oIdxT rfl ha ⟨by decide, by decide⟩ (x := .str t) (pyIdx_pos (by decide) rfl) ?_
  repeat walk_at "v1"
  refine ⟨fun hh => absurd (of_decide_eq_true hh) h1, fun _ => ?_⟩
  repeat walk_at "v1"
  refine ⟨fun hh => absurd (of_decide_eq_true hh) h2, fun _ => ?_⟩
  exact vNil (seq_next h)

theorem use_none (g : Prg G) {k0 : KH} : UseP prog w G 0 k0 .none [] := .mk fun {A k P N D f L} hf hR hN B hb ho h => by
  refine okF_fn (n := 9) (d := 9) g rfl hR (by decide +kernel) rfl fun env A' V => ?_
  have W := V.g
  show OkX prog w G A' env k (setL (setL (setL (fun _ => none) "notes" (.ref N)) "tree" .none) "line" (.int L)) (execs (bodyN 9) env) _
  refine vIf V ?_
  repeat walk_at "v1"
  refine okC_call (okE_isT g W (by decide +kernel) (by decide +kernel) rfl ?_)
  repeat walk_at "v1"
  refine ⟨false, .inr ⟨rfl, .inl rfl⟩, false, rfl, fun _ => ?_, fun hh => absurd hh (by simp)⟩
  repeat walk_at "v1"
  exact h _ B BF.refl
theorem use_const (g : Prg G) {k0 : KH} {a : Addr} {l : List PV} (ha : k0 a = some (.tup (.str "const" :: l))) : UseP prog w G 0 k0 (.ref a) [] := .mk fun {A k P N D f L} hf hR hN B hb ho h => by
  refine okF_fn (n := 9) (d := 9) g rfl hR (by decide +kernel) rfl fun env A' V => ?_
  have W := V.g
  have ha := hf _ _ ha rfl
  show OkX prog w G A' env k (setL (setL (setL (fun _ => none) "notes" (.ref N)) "tree" (.ref a)) "line" (.int L)) (execs (bodyN 9) env) _
  refine vIf V ?_
  repeat walk_at "v1"
  refine okC_call (okE_isT g W (by decide +kernel) (by decide +kernel) rfl ?_)
  repeat walk_at "v1"
  refine ⟨true, .inl ⟨rfl, _, _, rfl, ha⟩, true, rfl, fun hh => absurd hh (by simp), fun _ => ?_⟩
  repeat walk_at "v1"
  refine oIdxT rfl ha ⟨by decide, by decide⟩ (x := .str "const") (pyIdx_pos (by decide) rfl) ?_
  repeat walk_at "v1"
  refine ⟨fun _ => ?_, fun hh => absurd rfl (of_decide_eq_false hh)⟩
  repeat walk_at "v1"
  exact h _ B BF.refl
theorem use_leaf (g : Prg G) {k0 : KH} {a : Addr} {t n : Str} {x : PV} (ht : t ∈ leafTags) (ha : k0 a = some (.tup [.str t, x, .str n])) : UseP prog w G 0 k0 (.ref a) [(1, .s n)] := .mk fun {A k P N D f L} hf hR hN B hb ho h => by
  refine okF_fn (n := 9) (d := 9) g rfl hR (by decide +kernel) rfl fun env A' V => ?_
  have W := V.g
  have ha := hf _ _ ha rfl
  have q : ∀ t ∈ leafTags, t ≠ "const" ∧ t ≠ "ido" ∧ t ∈ (["var", "array", "elem", "call", "proc"] : List Str) ∧ t ∉ (["elem", "call", "intr"] : List Str) ∧ t ∈ (["var", "array", "proc", "alt"] : List Str) ∧ t ≠ "alt" := by decide +kernel
  refine cps fun qZ hZ => ?_
  obtain ⟨q1, q2, q3, q4, q5, q6⟩ := q t ht
  refine hZ ?_
  clear hZ qZ
  show OkX prog w G A' env k (setL (setL (setL (fun _ => none) "notes" (.ref N)) "tree" (.ref a)) "line" (.int L)) (execs (bodyN 9) env) _
  refine uses_start g V (by walk_at "lk") ha q1 q2 ?_
  refine vIf V ?_
  repeat walk_at "v1"
  refine ⟨by simp, fun c1 k1 N1 => ?_⟩
  refine oInTup ["var", "array", "elem", "call", "proc"] N1.at rfl ?_
  refine ⟨_, rfl, fun _ => ?_, fun hh => absurd q3 (of_decide_eq_false hh)⟩
  repeat walk_at "v1"
  refine eAt1 g (by walk_at "lk") (hN.fz N1.fz) ?_
  repeat walk_at "v1"
  refine oIdxT rfl (N1.get ha) ⟨by decide, by decide⟩ (x := .str n) rfl ?_
  repeat walk_at "v1"
  refine note_s g (V.r.le (by first | lia | omega)) (B.new N1) (by first | lia | omega) ho.head hb fun k2 B2 F2 => ?_
  repeat walk_at "v1"
  refine ⟨by simp, fun c3 k3 N3 => ?_⟩
  refine oInTup ["elem", "call", "intr"] N3.at rfl ?_
  refine ⟨_, rfl, fun hh => absurd (of_decide_eq_true hh) q4, fun _ => ?_⟩
  refine vIf V ?_
  repeat walk_at "v1"
  refine ⟨by simp, fun c4 k4 N4 => ?_⟩
  refine oNinTup ["var", "array", "proc", "alt"] N4.at rfl ?_
  refine ⟨_, rfl, fun hh => absurd hh (by simp [q5]), fun _ => ?_⟩
  refine vIf V ?_
  repeat walk_at "v1"
  refine ⟨fun hh => absurd (of_decide_eq_true hh) q6, fun _ => ?_⟩
  refine vNil (seq_next (vNil (seq_next (vNil (seq_next (vNil ?_))))))
  exact h _ ((B2.new N3).new N4) (((N1.bf.comp F2).comp N3.bf).comp N4.bf)

theorem use_named (g : Prg G) {k0 : KH} {d1 : Nat} {a l : Addr} {t n : Str} {x : PV} {parts : List PV} {es : List Ev} (ht : t ∈ namedTags) (ha : k0 a = some (.tup [.str t, x, .str n, .ref l])) (hl : k0 l = some (.list true parts)) (hu : UseC prog w G d1 k0 parts es) :
    UseP prog w G (d1 + 1) k0 (.ref a) ((1, .s n) :: es) := .mk fun {A k P N D f L} hf hR hN B hb ho h => by
  refine okF_fn (n := 9) (d := 14 + 5 * d1) g rfl (hR.le (by first | lia | omega)) (by decide +kernel) rfl fun env A' V => ?_
  have W := V.g
  have ha := hf _ _ ha rfl
  have hl := hf _ _ hl rfl
  have q : ∀ t ∈ namedTags, t ≠ "const" ∧ t ≠ "ido" ∧ t ∈ (["var", "array", "elem", "call", "proc"] : List Str) ∧ t ∈ (["elem", "call", "intr"] : List Str) := by decide +kernel
  refine cps fun qZ hZ => ?_
  obtain ⟨q1, q2, q3, q4⟩ := q t ht
  refine hZ ?_
  clear hZ qZ
  show OkX prog w G A' env k (setL (setL (setL (fun _ => none) "notes" (.ref N)) "tree" (.ref a)) "line" (.int L)) (execs (bodyN 9) env) _
  refine uses_start g V (by walk_at "lk") ha q1 q2 ?_
  refine vIf V ?_
  repeat walk_at "v1"
  refine ⟨by simp, fun c1 k1 N1 => ?_⟩
  refine oInTup ["var", "array", "elem", "call", "proc"] N1.at rfl ?_
  refine ⟨_, rfl, fun _ => ?_, fun hh => absurd q3 (of_decide_eq_false hh)⟩
  repeat walk_at "v1"
  refine eAt1 g (by walk_at "lk") (hN.fz N1.fz) ?_
  repeat walk_at "v1"
  refine oIdxT rfl (N1.get ha) ⟨by decide, by decide⟩ (x := .str n) rfl ?_
  repeat walk_at "v1"
  refine note_s g (V.r.le (by first | lia | omega)) (B.new N1) (by first | lia | omega) ho.head hb fun k2 B2 F2 => ?_
  repeat walk_at "v1"
  refine ⟨by simp, fun c3 k3 N3 => ?_⟩
  have F3 : BF D k k3 := (N1.bf.comp F2).comp N3.bf
  refine oInTup ["elem", "call", "intr"] N3.at rfl ?_
  refine ⟨_, rfl, fun _ => ?_, fun hh => absurd q4 (of_decide_eq_false hh)⟩
  have hl3 := F3.fz _ _ hl rfl
  have ha3 := F3.fz _ _ ha rfl
  refine vForUses (D := D) (d1 := d1) (k0 := k0) (L := L) (f := addEv f 1 (.s n) L) V (by first | lia | omega) (by decide +kernel) (fun _ => rfl) ?_ (hb.add (by first | lia | omega) _ _) ho.tail (by walk_at "lk") (by walk_at "lk") (fun v k' m' Q m1 m2 m3 hQ => ?_) fun m' k' m1 B' F' => ?_
  · repeat walk_at "v1"
    refine oIdxT rfl ha3 ⟨by decide, by decide⟩ (x := .ref l) rfl ?_
    exact ⟨_, _, src_list hl3 (.inl ⟨_, rfl⟩), fun k2 fz => ⟨_, fz _ _ hl3 rfl, .inl ⟨_, rfl⟩⟩, hu, hf.comp F3.fz, hN.fz F3.fz, B2.new N3, BF.refl⟩
  · repeat walk_at "v1"
    refine okF_mono hQ fun _ k2 q => ?_
    exact vNil q
  · exact vNil (seq_next (vNil (h _ B' (F3.comp F'))))
theorem use_intr (g : Prg G) {k0 : KH} {d1 : Nat} {a l : Addr} {n x : PV} {parts : List PV} {es : List Ev} (ha : k0 a = some (.tup [.str "intr", x, n, .ref l])) (hl : k0 l = some (.list true parts)) (hu : UseC prog w G d1 k0 parts es) :
    UseP prog w G (d1 + 1) k0 (.ref a) es := .mk fun {A k P N D f L} hf hR hN B hb ho h => by
  refine okF_fn (n := 9) (d := 14 + 5 * d1) g rfl (hR.le (by first | lia | omega)) (by decide +kernel) rfl fun env A' V => ?_
  have W := V.g
  have ha := hf _ _ ha rfl
  have hl := hf _ _ hl rfl
  show OkX prog w G A' env k (setL (setL (setL (fun _ => none) "notes" (.ref N)) "tree" (.ref a)) "line" (.int L)) (execs (bodyN 9) env) _
  refine uses_start g V (by walk_at "lk") ha (by decide +kernel) (by decide +kernel) ?_
  refine vIf V ?_
  repeat walk_at "v1"
  refine ⟨by simp, fun c1 k1 N1 => ?_⟩
  refine oInTup ["var", "array", "elem", "call", "proc"] N1.at rfl ?_
  refine ⟨_, rfl, fun hh => absurd (of_decide_eq_true hh) (by decide +kernel), fun _ => ?_⟩
  repeat walk_at "v1"
  refine ⟨by simp, fun c3 k3 N3 => ?_⟩
  have F3 : BF D k k3 := N1.bf.comp N3.bf
  refine oInTup ["elem", "call", "intr"] N3.at rfl ?_
  refine ⟨_, rfl, fun _ => ?_, fun hh => absurd (by decide +kernel) (of_decide_eq_false hh)⟩
  have hl3 := F3.fz _ _ hl rfl
  have ha3 := F3.fz _ _ ha rfl
  refine vForUses (D := D) (d1 := d1) (k0 := k0) (L := L) (f := f) V (by first | lia | omega) (by decide +kernel) (fun _ => rfl) ?_ hb ho (by walk_at "lk") (by walk_at "lk") (fun v k' m' Q m1 m2 m3 hQ => ?_) fun m' k' m1 B' F' => ?_
  · repeat walk_at "v1"
    refine oIdxT rfl ha3 ⟨by decide, by decide⟩ (x := .ref l) rfl ?_
    exact ⟨_, _, src_list hl3 (.inl ⟨_, rfl⟩), fun k2 fz => ⟨_, fz _ _ hl3 rfl, .inl ⟨_, rfl⟩⟩, hu, hf.comp F3.fz, hN.fz F3.fz, (B.new N1).new N3, BF.refl⟩
  · repeat walk_at "v1"
    refine okF_mono hQ fun _ k2 q => ?_
    exact vNil q
  · exact vNil (seq_next (vNil (h _ B' (F3.comp F'))))
theorem use_parts (g : Prg G) {k0 : KH} {d1 : Nat} {a : Addr} {t : Str} {x : PV} {ps : List PV} {es : List Ev} (ht : t ∈ partTags) (ha : k0 a = some (.tup (.str t :: x :: ps))) (hz : ps.length ≤ 10) (hu : UseC prog w G d1 k0 ps es) :
    UseP prog w G (d1 + 1) k0 (.ref a) es := .mk fun {A k P N D f L} hf hR hN B hb ho h => by
  refine okF_fn (n := 9) (d := 14 + 5 * d1) g rfl (hR.le (by first | lia | omega)) (by decide +kernel) rfl fun env A' V => ?_
  have W := V.g
  have ha := hf _ _ ha rfl
  have q : ∀ t ∈ partTags, t ≠ "const" ∧ t ≠ "ido" ∧ t ∉ (["var", "array", "elem", "call", "proc"] : List Str) ∧ t ∉ (["elem", "call", "intr"] : List Str) ∧ t ∉ (["var", "array", "proc", "alt"] : List Str) := by decide +kernel
  refine cps fun qZ hZ => ?_
  obtain ⟨q1, q2, q3, q4, q5⟩ := q t ht
  refine hZ ?_
  clear hZ qZ
  show OkX prog w G A' env k (setL (setL (setL (fun _ => none) "notes" (.ref N)) "tree" (.ref a)) "line" (.int L)) (execs (bodyN 9) env) _
  refine uses_start g V (by walk_at "lk") ha q1 q2 ?_
  refine vIf V ?_
  repeat walk_at "v1"
  refine ⟨by simp, fun c1 k1 N1 => ?_⟩
  refine oInTup ["var", "array", "elem", "call", "proc"] N1.at rfl ?_
  refine ⟨_, rfl, fun hh => absurd (of_decide_eq_true hh) q3, fun _ => ?_⟩
  repeat walk_at "v1"
  refine ⟨by simp, fun c3 k3 N3 => ?_⟩
  refine oInTup ["elem", "call", "intr"] N3.at rfl ?_
  refine ⟨_, rfl, fun hh => absurd (of_decide_eq_true hh) q4, fun _ => ?_⟩
  refine vIf V ?_
  repeat walk_at "v1"
  refine ⟨by simp, fun c4 k4 N4 => ?_⟩
  refine oNinTup ["var", "array", "proc", "alt"] N4.at rfl ?_
  have F4 : BF D k k4 := (N1.bf.comp N3.bf).comp N4.bf
  have ha4 := F4.fz _ _ ha rfl
  refine ⟨_, rfl, fun _ => ?_, fun hh => absurd hh (by simp [q5])⟩
  refine vForUses (D := D) (d1 := d1) (k0 := k0) (L := L) (f := f) V (by first | lia | omega) (by decide +kernel) (fun _ => rfl) ?_ hb ho (by walk_at "lk") (by walk_at "lk") (fun v k' m' Q m1 m2 m3 hQ => ?_) fun m' k' m1 B' F' => ?_
  · refine okE_sliceT (n := 2) ?_
    repeat walk_at "v1"
    refine ⟨a, _, rfl, ha4, by decide, by simp, sz_le (by simp; (first | lia | omega)), fun c5 k5 N5 => ?_⟩
    have hk5 : k5 c5 = some (.tup ps) := N5.at
    exact ⟨_, _, src_tup hk5, fun k2 fz => fz _ _ hk5 rfl, hu, hf.comp (F4.fz.comp N5.fz), hN.fz (F4.fz.comp N5.fz), (((B.new N1).new N3).new N4).new N5, N5.bf⟩
  · repeat walk_at "v1"
    refine okF_mono hQ fun _ k2 q => ?_
    exact vNil q
  · exact vNil (seq_next (vNil (seq_next (vNil (h _ B' (F4.comp F'))))))
theorem use_alt (g : Prg G) {k0 : KH} {a : Addr} {l : Int} (ha : k0 a = some (.tup [.str "alt", .int l])) : UseP prog w G 0 k0 (.ref a) [(2, .i l)] := .mk fun {A k P N D f L} hf hR hN B hb ho h => by
  refine okF_fn (n := 9) (d := 9) g rfl (hR.le (by first | lia | omega)) (by decide +kernel) rfl fun env A' V => ?_
  have W := V.g
  have ha := hf _ _ ha rfl
  show OkX prog w G A' env k (setL (setL (setL (fun _ => none) "notes" (.ref N)) "tree" (.ref a)) "line" (.int L)) (execs (bodyN 9) env) _
  refine uses_start g V (by walk_at "lk") ha (by decide +kernel) (by decide +kernel) ?_
  refine vIf V ?_
  repeat walk_at "v1"
  refine ⟨by simp, fun c1 k1 N1 => ?_⟩
  refine oInTup ["var", "array", "elem", "call", "proc"] N1.at rfl ?_
  refine ⟨_, rfl, fun hh => absurd (of_decide_eq_true hh) (by decide +kernel), fun _ => ?_⟩
  repeat walk_at "v1"
  refine ⟨by simp, fun c3 k3 N3 => ?_⟩
  refine oInTup ["elem", "call", "intr"] N3.at rfl ?_
  refine ⟨_, rfl, fun hh => absurd (of_decide_eq_true hh) (by decide +kernel), fun _ => ?_⟩
  refine vIf V ?_
  repeat walk_at "v1"
  refine ⟨by simp, fun c4 k4 N4 => ?_⟩
  refine oNinTup ["var", "array", "proc", "alt"] N4.at rfl ?_
  have F4 : BF D k k4 := (N1.bf.comp N3.bf).comp N4.bf
  have ha4 := F4.fz _ _ ha rfl
  refine ⟨_, rfl, fun hh => absurd hh (by decide +kernel), fun _ => ?_⟩
  refine vIf V ?_
  repeat walk_at "v1"
  refine ⟨fun _ => ?_, fun hh => absurd rfl (of_decide_eq_false hh)⟩
  repeat walk_at "v1"
  refine eAt2 g (by walk_at "lk") (hN.fz F4.fz) ?_
  repeat walk_at "v1"
  refine oIdxT rfl ha4 ⟨by decide, by decide⟩ (x := .int l) rfl ?_
  repeat walk_at "v1"
  refine note_i g (V.r.le (by first | lia | omega)) (((B.new N1).new N3).new N4) (by first | lia | omega) (by first | lia | omega) ho.head hb fun k2 B2 F2 => ?_
  refine vNil (seq_next (vNil (seq_next (vNil (seq_next (vNil ?_))))))
  exact h _ B2 (F4.comp F2)

theorem uses_all (g : Prg G) {k0 : KH} {d : Nat} {vs : List PV} {es : List Ev} (h : ETs k0 d vs es) : UseC prog w G d k0 vs es := by
  induction h with
  | nil => exact rfl
  | none _ ih => exact ⟨[], _, rfl, (use_none g).le (Nat.zero_le _), ih⟩
  | const h _ ih => exact ⟨[], _, rfl, (use_const g h).le (Nat.zero_le _), ih⟩
  | leaf t h _ ih => exact ⟨[_], _, rfl, (use_leaf g t h).le (Nat.zero_le _), ih⟩
  | named t h h' _ _ i1 i2 => exact ⟨_ :: _, _, rfl, use_named g t h h' i1, i2⟩
  | intr h h' _ _ i1 i2 => exact ⟨_, _, rfl, use_intr g h h' i1, i2⟩
  | parts t h hl _ _ i1 i2 => exact ⟨_, _, rfl, use_parts g t h hl i1, i2⟩
  | alt h _ ih => exact ⟨[_], _, rfl, (use_alt g h).le (Nat.zero_le _), ih⟩
theorem uses_one (g : Prg G) {k0 : KH} {d : Nat} {v : PV} {es : List Ev} (h : ETs k0 d [v] es) : UseP prog w G d k0 v es := by
  refine cps fun qZ hZ => ?_
  obtain ⟨e1, e2, rfl, u, r⟩ := uses_all (prog := prog) (w := w) (G := G) g h
  refine hZ ?_
  clear hZ qZ
  have : e2 = [] := r
  rw [this, List.append_nil]; exact u
end

section
variable {prog : Program} {w : World} {G : Glob'}
structure TgtP (prog : Program) (w : World) (G : Glob') (j : Nat) (k0 : KH) (v : PV) (es : List Ev) : Prop where
  run : ∀ {A : Around} {k : KH} {P : PV → KH → Prop} {N : Addr} {D : Nat → Addr} {f : Rec} {L : Int}, Fz k0 k → Room A (62 + j) → NotesAt G k N D → Book k D f → Bd f L 1000 → evOk es →
    (∀ k', Book k' D (addEvs f es L) → BF D k k' → P .none k') → OkF prog w G A k "note_target" [.ref N, v, .int L] P
structure LoopP (prog : Program) (w : World) (G : Glob') (j : Nat) (b : Bool) (k0 : KH) (v : PV) (es : List Ev) : Prop where
  run : ∀ {A : Around} {k : KH} {P : PV → KH → Prop} {N : Addr} {D : Nat → Addr} {f : Rec} {L : Int}, Fz k0 k → Room A (72 + 4 * j) → NotesAt G k N D → Book k D f → Bd f L 1000 → evOk es →
    (∀ k', Book k' D (addEvs f es L) → BF D k k' → P .none k') → OkF prog w G A k "note_loop" [.ref N, v, .int L, .bool b] P
structure ItemP (prog : Program) (w : World) (G : Glob') (j : Nat) (b : Bool) (k0 : KH) (v : PV) (es : List Ev) : Prop where
  run : ∀ {A : Around} {k : KH} {P : PV → KH → Prop} {N : Addr} {D : Nat → Addr} {f : Rec} {L : Int}, Fz k0 k → Room A (70 + 4 * j) → NotesAt G k N D → Book k D f → Bd f L 1000 → evOk es →
    (∀ k', Book k' D (addEvs f es L) → BF D k k' → P .none k') → OkF prog w G A k "note_items" [.ref N, v, .int L, .bool b] P

set_option maxHeartbeats 2000000 in
theorem tgt_all (g : Prg G) {k0 : KH} {j : Nat} {v : PV} {n : Str} {es : List Ev} (h : TT k0 10 j v n es) : TgtP prog w G j k0 v ((0, .s n) :: es) := by
  induction h with
  | @var j a x n ha =>
    refine .mk fun {A k P N D f L} hf hR hN B hb ho h => ?_
    refine okF_fn (n := 10) (d := 61) g rfl (hR.le (by first | lia | omega)) (by decide +kernel) rfl fun env A' V => ?_
    have W := V.g
    have ha := hf _ _ ha rfl
    show OkX prog w G A' env k (setL (setL (setL (fun _ => none) "notes" (.ref N)) "tree" (.ref a)) "line" (.int L)) (execs (bodyN 10) env) _
    refine vIf V ?_
    repeat walk_at "v1"
    refine oIdxT rfl ha ⟨by decide, by decide⟩ (x := .str "var") (pyIdx_pos (by decide) rfl) ?_
    repeat walk_at "v1"
    refine ⟨fun hh => absurd (of_decide_eq_true hh) (by decide +kernel), fun _ => ?_⟩
    repeat walk_at "v1"
    refine eAt0 g (by walk_at "lk") hN ?_
    repeat walk_at "v1"
    refine oIdxT rfl ha ⟨by decide, by decide⟩ (x := .str n) rfl ?_
    repeat walk_at "v1"
    refine note_s g (V.r.le (by first | lia | omega)) B (by first | lia | omega) ho.head hb fun k2 B2 F2 => ?_
    repeat walk_at "v1"
    refine oIdxT rfl (F2.fz _ _ ha rfl) ⟨by decide, by decide⟩ (x := .str "var") (pyIdx_pos (by decide) rfl) ?_
    repeat walk_at "v1"
    refine ⟨fun hh => absurd (of_decide_eq_true hh) (by decide +kernel), fun _ => ?_⟩
    exact vNil (seq_next (vNil (seq_next (vNil (h _ B2 F2)))))
  | @elem j a x n l parts es ha hl he =>
    refine .mk fun {A k P N D f L} hf hR hN B hb ho h => ?_
    refine okF_fn (n := 10) (d := 61) g rfl (hR.le (by first | lia | omega)) (by decide +kernel) rfl fun env A' V => ?_
    have W := V.g
    have ha := hf _ _ ha rfl
    have hl := hf _ _ hl rfl
    show OkX prog w G A' env k (setL (setL (setL (fun _ => none) "notes" (.ref N)) "tree" (.ref a)) "line" (.int L)) (execs (bodyN 10) env) _
    refine vIf V ?_
    repeat walk_at "v1"
    refine oIdxT rfl ha ⟨by decide, by decide⟩ (x := .str "elem") (pyIdx_pos (by decide) rfl) ?_
    repeat walk_at "v1"
    refine ⟨fun hh => absurd (of_decide_eq_true hh) (by decide +kernel), fun _ => ?_⟩
    repeat walk_at "v1"
    refine eAt0 g (by walk_at "lk") hN ?_
    repeat walk_at "v1"
    refine oIdxT rfl ha ⟨by decide, by decide⟩ (x := .str n) rfl ?_
    repeat walk_at "v1"
    refine note_s g (V.r.le (by first | lia | omega)) B (by first | lia | omega) ho.head hb fun k2 B2 F2 => ?_
    repeat walk_at "v1"
    have ha2 := F2.fz _ _ ha rfl
    have hl2 := F2.fz _ _ hl rfl
    refine oIdxT rfl ha2 ⟨by decide, by decide⟩ (x := .str "elem") (pyIdx_pos (by decide) rfl) ?_
    repeat walk_at "v1"
    refine ⟨fun _ => ?_, fun hh => absurd rfl (of_decide_eq_false hh)⟩
    refine vForUses (D := D) (d1 := 10) (k0 := k0) (L := L) (f := addEv f 0 (.s n) L) V (by first | lia | omega) (by decide +kernel) (fun _ => rfl) ?_ (hb.add (by first | lia | omega) _ _) ho.tail (by walk_at "lk") (by walk_at "lk") (fun v k' m' Q m1 m2 m3 hQ => ?_) fun m' k' m1 B' F' => ?_
    · repeat walk_at "v1"
      refine oIdxT rfl ha2 ⟨by decide, by decide⟩ (x := .ref l) rfl ?_
      exact ⟨_, _, src_list hl2 (.inl ⟨_, rfl⟩), fun k2 fz => ⟨_, fz _ _ hl2 rfl, .inl ⟨_, rfl⟩⟩, uses_all g he, hf.comp F2.fz, hN.fz F2.fz, B2, BF.refl⟩
    · repeat walk_at "v1"
      refine okF_mono hQ fun _ k2 q => ?_
      exact vNil q
    · exact vNil (seq_next (vNil (seq_next (vNil (h _ B' (F2.comp F'))))))
  | @sub j a x p lo hi n e1 e2 ha ht he ih =>
    refine .mk fun {A k P N D f L} hf hR hN B hb ho h => ?_
    refine okF_fn (n := 10) (d := 62 + j) g rfl (hR.le (by first | lia | omega)) (by decide +kernel) rfl fun env A' V => ?_
    have W := V.g
    have ha := hf _ _ ha rfl
    refine cps fun qZ hZ => ?_
    obtain ⟨b1, b', rfl, u1, b2, b3, rfl, u2, u3⟩ := uses_all (prog := prog) (w := w) g he
    refine hZ ?_
    clear hZ qZ
    have hb3 : b3 = [] := u3
    subst hb3
    rw [List.append_nil] at ho h
    rw [show ((0, Key.s n) :: (e1 ++ (b1 ++ b2)) : List Ev) = ((0, Key.s n) :: e1) ++ (b1 ++ b2) from rfl] at ho h
    show OkX prog w G A' env k (setL (setL (setL (fun _ => none) "notes" (.ref N)) "tree" (.ref a)) "line" (.int L)) (execs (bodyN 10) env) _
    refine vIf V ?_
    repeat walk_at "v1"
    refine oIdxT rfl ha ⟨by decide, by decide⟩ (x := .str "substr") (pyIdx_pos (by decide) rfl) ?_
    repeat walk_at "v1"
    refine ⟨fun _ => ?_, fun hh => absurd rfl (of_decide_eq_false hh)⟩
    repeat walk_at "v1"
    refine oIdxT rfl ha ⟨by decide, by decide⟩ (x := p) rfl ?_
    repeat walk_at "v1"
    refine ih.run hf (V.r.le (by first | lia | omega)) hN B hb ho.left fun k2 B2 F2 => ?_
    repeat walk_at "v1"
    refine oIdxT rfl (F2.fz _ _ ha rfl) ⟨by decide, by decide⟩ (x := lo) rfl ?_
    repeat walk_at "v1"
    refine u1.run (hf.comp F2.fz) (V.r.le (by first | lia | omega)) (hN.fz F2.fz) B2 (hb.adds (by first | lia | omega) _) ho.right.left fun k3 B3 F3 => ?_
    repeat walk_at "v1"
    refine oIdxT rfl (F3.fz _ _ (F2.fz _ _ ha rfl) rfl) ⟨by decide, by decide⟩ (x := hi) rfl ?_
    repeat walk_at "v1"
    refine u2.run ((hf.comp F2.fz).comp F3.fz) (V.r.le (by first | lia | omega)) ((hN.fz F2.fz).fz F3.fz) B3 ((hb.adds (by first | lia | omega) _).adds (by first | lia | omega) _) ho.right.right fun k4 B4 F4 => ?_
    rw [addEvs_app, addEvs_app] at h
    exact vNil (seq_next (vNil (h _ B4 ((F2.comp F3).comp F4))))

/-- an item of a list of READ or WRITE -/
noncomputable def One (prog : Program) (w : World) (G : Glob') (j : Nat) (b : Bool) (k0 : KH) (v : PV) (es : List Ev) : Prop :=
  ∃ a t l, v = .ref a ∧ k0 a = some (.tup (.str t :: l)) ∧ ((t = "ido" ∧ LoopP prog w G j b k0 v es) ∨ (t ≠ "ido" ∧ b = true ∧ TgtP prog w G 1 k0 v es) ∨ (t ≠ "ido" ∧ b = false ∧ UseP prog w G 10 k0 v es))
noncomputable def OneC (prog : Program) (w : World) (G : Glob') (j : Nat) (b : Bool) (k0 : KH) : List PV → List Ev → Prop
  | [], es => es = []
  | v :: r, es => ∃ e1 e2, es = e1 ++ e2 ∧ One prog w G j b k0 v e1 ∧ OneC prog w G j b k0 r e2

theorem items_of (g : Prg G) {k0 : KH} {j : Nat} {b : Bool} {l : Addr} {vs : List PV} {es : List Ev} (hl : k0 l = some (.list true vs)) (hc : OneC prog w G j b k0 vs es) : ItemP prog w G (j + 1) b k0 (.ref l) es := by
  refine .mk fun {A k P N D f L} hf hR hN B hb ho h => ?_
  refine okF_fn (n := 12) (d := 73 + 4 * j) g rfl (hR.le (by first | lia | omega)) (by decide +kernel) rfl fun env A' V => ?_
  have W := V.g
  have hl := hf _ _ hl rfl
  show OkX prog w G A' env k (setL (setL (setL (setL (fun _ => none) "notes" (.ref N)) "items" (.ref l)) "line" (.int L)) "is_read" (.bool b)) (execs (bodyN 12) env) _
  refine okX_sFor (fun its m' k' => ∃ ds rs, ds ++ rs = es ∧ OneC prog w G j b k0 its rs ∧ Book k' D (addEvs f ds L) ∧ BF D k k' ∧ m' "notes" = some (.ref N) ∧ m' "line" = some (.int L) ∧ m' "is_read" = some (.bool b)) V.r.handled V.f (store_of V.s (by decide +kernel)) (fun _ => rfl) ?_ (fun v its m' k' hJ => ?_) (fun m' k' hJ => ?_)
  · repeat walk_at "v1"
    refine ⟨_, _, src_list hl (.inl ⟨_, rfl⟩), ?_, ?_⟩
    · rintro its m' k' ⟨ds, rs, e1, e2, e3, e4, e5, e6⟩
      exact ⟨_, e4.fz _ _ hl rfl, .inl ⟨_, rfl⟩⟩
    · exact ⟨[], es, rfl, hc, B, BF.refl, by walk_at "lk", by walk_at "lk", by walk_at "lk"⟩
  · refine cps fun qZ hZ => ?_
    obtain ⟨ds, rs, e1, ⟨x1, x2, rfl, ⟨a, t, r, rfl, ha, ho1⟩, hr⟩, B, F0, m1, m2, m3⟩ := hJ
    refine hZ ?_
    clear hZ qZ
    subst e1
    have ha := hf _ _ ha rfl
    have ha := F0.fz _ _ ha rfl
    have hb := hb.adds (by first | lia | omega) ds
    have ho := ho.right.left
    refine vIf V ?_
    repeat walk_at "v1"
    refine oIdxT rfl ha ⟨by decide, by decide⟩ (x := .str t) (pyIdx_pos (by decide) rfl) ?_
    repeat walk_at "v1"
    have fin : ∀ kk, Book kk D (addEvs (addEvs f ds L) x1 L) → BF D k' kk → ∃ ds' rs', ds' ++ rs' = ds ++ (x1 ++ x2) ∧ OneC prog w G j b k0 its rs' ∧ Book kk D (addEvs f ds' L) ∧ BF D k kk ∧ setL m' "item" (.ref a) "notes" = some (.ref N) ∧ setL m' "item" (.ref a) "line" = some (.int L) ∧ setL m' "item" (.ref a) "is_read" = some (.bool b) := fun kk b1 b2 =>
      ⟨ds ++ x1, x2, by simp, hr, by rw [addEvs_app]; exact b1, F0.comp b2, by walk_at "lk", by walk_at "lk", by walk_at "lk"⟩
    refine ⟨fun hh => ?_, fun hh => ?_⟩
    · have ht : t = "ido" := of_decide_eq_true hh
      rcases ho1 with ⟨_, u⟩ | ⟨z, _⟩ | ⟨z, _⟩
      · repeat walk_at "v1"
        refine u.run (hf.comp F0.fz) (V.r.le (by first | lia | omega)) ((hN.fz F0.fz)) B hb ho fun k2 B2 F2 => ?_
        exact vNil (seq_next (vNil (fin _ B2 F2)))
      · exact absurd ht z
      · exact absurd ht z
    · have ht : t ≠ "ido" := of_decide_eq_false hh
      refine vIf V ?_
      repeat walk_at "v1"
      refine ⟨fun hbb => ?_, fun hbb => ?_⟩
      · rcases ho1 with ⟨z, _⟩ | ⟨_, _, u⟩ | ⟨_, z, _⟩
        · exact absurd z ht
        · repeat walk_at "v1"
          refine u.run (hf.comp F0.fz) (V.r.le (by first | lia | omega)) ((hN.fz F0.fz)) B hb ho fun k2 B2 F2 => ?_
          exact vNil (seq_next (vNil (seq_next (vNil (fin _ B2 F2)))))
        · rw [hbb] at z; cases z
      · rcases ho1 with ⟨z, _⟩ | ⟨_, z, _⟩ | ⟨_, _, u⟩
        · exact absurd z ht
        · rw [hbb] at z; cases z
        · repeat walk_at "v1"
          refine u.run (hf.comp F0.fz) (V.r.le (by first | lia | omega)) ((hN.fz F0.fz)) B hb ho fun k2 B2 F2 => ?_
          exact vNil (seq_next (vNil (seq_next (vNil (fin _ B2 F2)))))
  · refine cps fun qZ hZ => ?_
    obtain ⟨ds, rs, e1, e2, B, F0, m1, m2, m3⟩ := hJ
    refine hZ ?_
    clear hZ qZ
    have : rs = [] := e2
    subst this
    rw [List.append_nil] at e1
    subst e1
    exact vNil (h _ B F0)

theorem loop_of (g : Prg G) {k0 : KH} {j : Nat} {b : Bool} {a ga : Addr} {inner x e1 e2 e3 : PV} {n : Str} {es es' : List Ev} (ha : k0 a = some (.tup [.str "ido", inner, .ref ga, e1, e2, e3])) (hg : k0 ga = some (.tup [.str "var", x, .str n]))
    (he : ETs k0 10 [e1, e2, e3] es) (hi : ItemP prog w G j b k0 inner es') : LoopP prog w G j b k0 (.ref a) ((0, .s n) :: es ++ es') := by
  refine .mk fun {A k P N D f L} hf hR hN B hb ho h => ?_
  refine okF_fn (n := 11) (d := 71 + 4 * j) g rfl (hR.le (by first | lia | omega)) (by decide +kernel) rfl fun env A' V => ?_
  have W := V.g
  have ha := hf _ _ ha rfl
  have T : TgtP prog w G 0 k0 (.ref ga) [(0, .s n)] := tgt_all g (.var hg)
  rw [show ((0, Key.s n) :: es ++ es' : List Ev) = [(0, Key.s n)] ++ (es ++ es') from rfl] at ho h
  show OkX prog w G A' env k (setL (setL (setL (setL (fun _ => none) "notes" (.ref N)) "tree" (.ref a)) "line" (.int L)) "is_read" (.bool b)) (execs (bodyN 11) env) _
  refine vExpr V rfl ?_
  repeat walk_at "v1"
  refine oIdxT rfl ha ⟨by decide, by decide⟩ (x := .ref ga) rfl ?_
  repeat walk_at "v1"
  refine T.run hf (V.r.le (by first | lia | omega)) hN B hb ho.left fun k2 B2 F2 => ?_
  have ha2 := F2.fz _ _ ha rfl
  refine vForUses (D := D) (d1 := 10) (k0 := k0) (L := L) (f := addEvs f [(0, .s n)] L) V (by first | lia | omega) (by decide +kernel) (fun _ => rfl) ?_ (hb.adds (by first | lia | omega) _) ho.right.left (by walk_at "lk") (by walk_at "lk") (fun v k' m' Q m1 m2 m3 hQ => ?_) fun m' k' m1 B' F' => ?_
  · refine okE_sliceT (n := 3) ?_
    repeat walk_at "v1"
    refine ⟨a, _, rfl, ha2, by decide, by simp, sz_le (by simp), fun c5 k5 N5 => ?_⟩
    have hk5 : k5 c5 = some (.tup [e1, e2, e3]) := N5.at
    exact ⟨_, _, src_tup hk5, fun k2 fz => fz _ _ hk5 rfl, uses_all g he, hf.comp (F2.fz.comp N5.fz), hN.fz (F2.fz.comp N5.fz), B2.new N5, N5.bf⟩
  · repeat walk_at "v1"
    refine okF_mono hQ fun _ k2 q => ?_
    exact vNil q
  · have l1 : m' "notes" = some (.ref N) := by rw [m1 _ (by decide +kernel)]; walk_at "lk"
    have l2 : m' "tree" = some (.ref a) := by rw [m1 _ (by decide +kernel)]; walk_at "lk"
    have l3 : m' "line" = some (.int L) := by rw [m1 _ (by decide +kernel)]; walk_at "lk"
    have l4 : m' "is_read" = some (.bool b) := by rw [m1 _ (by decide +kernel)]; walk_at "lk"
    repeat walk_at "v1"
    refine oIdxT rfl (F'.fz _ _ ha2 rfl) ⟨by decide, by decide⟩ (x := inner) rfl ?_
    repeat walk_at "v1"
    refine hi.run (hf.comp (F2.fz.comp F'.fz)) (V.r.le (by first | lia | omega)) (hN.fz (F2.fz.comp F'.fz)) B' ((hb.adds (by first | lia | omega) _).adds (by first | lia | omega) _) ho.right.right fun k4 B4 F4 => ?_
    rw [addEvs_app, addEvs_app] at h
    exact vNil (h _ B4 ((F2.comp F').comp F4))

theorem items_it (g : Prg G) {k0 : KH} {j : Nat} {b : Bool} {v : PV} {es : List Ev} (h : IT k0 10 j b v es) : ItemP prog w G (j + 1) b k0 v es := by
  induction h with
  | @read j l v n es hl ht hh =>
    refine cps fun qZ hZ => ?_
    obtain ⟨a, t, r, rfl, ha, hi⟩ := hh
    refine hZ ?_
    clear hZ qZ
    exact items_of g hl ⟨_, [], (List.append_nil _).symm, ⟨a, t, r, rfl, ha, .inr (.inl ⟨hi, rfl, tgt_all g ht⟩)⟩, rfl⟩
  | @write j l a b t x r r' es hl ha ht hb he =>
    refine cps fun qZ hZ => ?_
    obtain ⟨e1, e2, rfl, u1, e3, e4, rfl, u2, u3⟩ := uses_all (prog := prog) (w := w) g he
    refine hZ ?_
    clear hZ qZ
    exact items_of g hl ⟨e1, _, rfl, ⟨a, t, _, rfl, ha, .inr (.inr ⟨ht, rfl, u1⟩)⟩, e3, e4, rfl, ⟨b, "const", _, rfl, hb, .inr (.inr ⟨by decide +kernel, rfl, u2⟩)⟩, u3⟩
  | @ido j l a inner ga x n e1 e2 e3 es es' b hl ha hg he hi ih =>
    exact items_of g hl ⟨_, [], (List.append_nil _).symm, ⟨a, "ido", _, rfl, ha, .inl ⟨rfl, loop_of g ha hg he ih⟩⟩, rfl⟩
end

section
variable {prog : Program} {w : World} {G : Glob'} {A : Around} {k : KH} {P : PV → KH → Prop}

noncomputable def lab (ls : List Int) : List Ev := ls.map fun l => ((2, .i l) : Ev)
theorem lab_cons (l : Int) (ls : List Int) : lab (l :: ls) = (2, .i l) :: lab ls := rfl
theorem lab_app (a b : List Int) : lab (a ++ b) = lab a ++ lab b := List.map_append ..

theorem labels_ok (g : Prg G) (hR : Room A 2) {N : Addr} {D : Nat → Addr} {f : Rec} {L : Int} {a : Addr} {ls : List Int} (ha : k a = some (.list true (ls.map .int)) ∨ k a = some (.tup (ls.map .int))) (hN : NotesAt G k N D) (B : Book k D f) (hb : Bd f L 1000) (ho : evOk (lab ls))
    (h : ∀ k', Book k' D (addEvs f (lab ls) L) → BF D k k' → P .none k') : OkF prog w G A k "note_labels" [.ref N, .ref a, .int L] P := by
  refine okF_fn (n := 14) (d := 1) g rfl hR (by decide +kernel) rfl fun env A' V => ?_
  have W := V.g
  show OkX prog w G A' env k (setL (setL (setL (fun _ => none) "notes" (.ref N)) "labels" (.ref a)) "line" (.int L)) (execs (bodyN 14) env) _
  refine okX_sFor (fun its m' k' => ∃ ds rs, ds ++ rs = ls ∧ its = rs.map .int ∧ Book k' D (addEvs f (lab ds) L) ∧ BF D k k' ∧ m' "notes" = some (.ref N) ∧ m' "line" = some (.int L)) V.r.handled V.f (store_of V.s (by decide +kernel)) (fun _ => rfl) ?_ (fun v its m' k' hJ => ?_) (fun m' k' hJ => ?_)
  · repeat walk_at "v1"
    rcases ha with ha | ha
    · refine ⟨_, _, src_list ha (.inl ⟨_, rfl⟩), ?_, ?_⟩
      · rintro its m' k' ⟨ds, rs, e1, e2, e3, e4, e5, e6⟩
        exact ⟨_, e4.fz _ _ ha rfl, .inl ⟨_, rfl⟩⟩
      · exact ⟨[], ls, rfl, rfl, B, BF.refl, by walk_at "lk", by walk_at "lk"⟩
    · refine ⟨_, _, src_tup ha, ?_, ?_⟩
      · rintro its m' k' ⟨ds, rs, e1, e2, e3, e4, e5, e6⟩
        exact e4.fz _ _ ha rfl
      · exact ⟨[], ls, rfl, rfl, B, BF.refl, by walk_at "lk", by walk_at "lk"⟩
  · refine cps fun qZ hZ => ?_
    obtain ⟨ds, rs, e1, e2, B, F0, m1, m2⟩ := hJ
    refine hZ ?_
    clear hZ qZ
    match rs, e2 with
    | y :: rs, e2 =>
      rw [List.map_cons, List.cons.injEq] at e2
      obtain ⟨rfl, rfl⟩ := e2
      subst e1
      refine vExpr V rfl ?_
      repeat walk_at "v1"
      refine eAt2 g (by walk_at "lk") (hN.fz F0.fz) ?_
      repeat walk_at "v1"
      refine note_i g (V.r.le (by first | lia | omega)) B (by first | lia | omega) (by first | lia | omega) ?_ (hb.adds (by first | lia | omega) _) fun k2 B2 F2 => ?_
      · rw [lab_app, lab_cons] at ho; exact ho.right.head
      · refine vNil ⟨ds ++ [y], rs, by simp, rfl, ?_, F0.comp F2, by walk_at "lk", by walk_at "lk"⟩
        rw [lab_app, addEvs_app]; exact B2
  · refine cps fun qZ hZ => ?_
    obtain ⟨ds, rs, e1, e2, B, F0, m1, m2⟩ := hJ
    refine hZ ?_
    clear hZ qZ
    have : rs = [] := List.map_eq_nil_iff.mp e2.symm
    subst this
    rw [List.append_nil] at e1
    subst e1
    exact vNil (h _ B F0)

theorem addL_mem (L : Int) (o : Option (List Int)) : L ∈ addL L o := by
  cases o with
  | none => simp [addL]
  | some l =>
    unfold addL
    by_cases h : L ∈ l
    · simp only [h, if_true]
    · simp only [h, if_false]; simp
theorem addL_two (L : Int) (o : Option (List Int)) : addL L (some (addL L o)) = addL L o := by
  show (if L ∈ addL L o then addL L o else _) = _
  rw [if_pos (addL_mem L o)]
theorem addEvs_get (L : Int) (j : Nat) (x : Key) : ∀ (es : List Ev) (f : Rec), addEvs f es L j x = if (j, x) ∈ es then some (addL L (f j x)) else f j x
  | [], f => by rw [if_neg (List.not_mem_nil)]; rfl
  | e :: es, f => by
    rw [addEvs_cons, addEvs_get L j x es]
    unfold addEv
    by_cases h : j = e.1 ∧ x = e.2
    · have : (j, x) ∈ e :: es := by rw [h.1, h.2]; exact .head _
      rw [if_pos this, if_pos h, addL_two, ← h.1, ← h.2, ite_self]
    · have : (j, x) ∈ e :: es ↔ (j, x) ∈ es := by
        rw [List.mem_cons]
        exact ⟨fun z => z.resolve_left fun q => h (by rw [← q]; exact ⟨rfl, rfl⟩), .inr⟩
      rw [if_neg h]
      by_cases h' : (j, x) ∈ es
      · rw [if_pos h', if_pos (this.mpr h')]
      · rw [if_neg h', if_neg fun z => h' (this.mp z)]
theorem addEvs_congr {f : Rec} {L : Int} {a b : List Ev} (h : ∀ e, e ∈ a ↔ e ∈ b) : addEvs f a L = addEvs f b L := by
  funext j x
  rw [addEvs_get, addEvs_get]
  by_cases q : (j, x) ∈ a
  · rw [if_pos q, if_pos ((h _).mp q)]
  · rw [if_neg q, if_neg fun z => q ((h _).mpr z)]
theorem evOk.of {a b : List Ev} (h : evOk a) (s : ∀ e, e ∈ b → e ∈ a) : evOk b := fun e he => h e (s e he)
theorem lookup_ex : ∀ {rows : List (Str × PV)} {x : Str}, x ∈ rows.map (·.1) → ∃ v, rows.lookup x = some v ∧ (x, v) ∈ rows
  | [], _, h => by simp at h
  | (y, v) :: r, x, h => by
    rw [List.lookup_cons]
    by_cases e : x = y
    · subst e
      exact ⟨v, by simp, .head _⟩
    · have : (x == y) = false := by simpa using e
      rw [this]
      rw [List.map_cons, List.mem_cons] at h
      obtain ⟨v', a, b⟩ := lookup_ex (h.resolve_left e)
      exact ⟨v', a, .tail _ b⟩

/-- what is done of a label -/
noncomputable def ctlN : List Stmt := match bodyN 13 with | .For _ _ (_ :: .If _ b _ _ :: _) .. :: _ => b | _ => []
noncomputable def ctlL : List Stmt := match bodyN 13 with | .For _ _ (_ :: .If _ _ (.If _ (.If _ _ l _ :: _) _ _ :: _) _ :: _) .. :: _ => l | _ => []
noncomputable def ctlU : List Stmt := match ctlL with | .If _ _ l _ :: _ => l | _ => []
theorem d_var {k : KH} {a : Addr} {x : PV} {n : Str} (h : k a = some (.tup [.str "var", x, .str n])) : TT k 10 1 (.ref a) n [] := .var h
set_option maxHeartbeats 4000000 in
theorem control_ok (g : Prg G) (hR : Room A 70) {k0 : KH} {N : Addr} {D : Nat → Addr} {f : Rec} {L : Int} {c : Addr} {word : Str} {rows : List (Str × PV)} {ev : Str → List Ev} (hf : Fz k0 k) (hc : k0 c = some (.dictS true rows)) (hn : rows.length < 20) (ht : CT k0 10 word rows ev) (hN : NotesAt G k N D) (B : Book k D f) (hb : Bd f L 1000)
    (ho : evOk ((rows.map (·.1)).flatMap ev)) (h : ∀ k', Book k' D (addEvs f ((rows.map (·.1)).flatMap ev) L) → BF D k k' → P .none k') : OkF prog w G A k "note_control" [.ref N, .str word, .ref c, .int L] P := by
  refine okF_fn (n := 13) (d := 69) g rfl hR (by decide +kernel) rfl fun env A' V => ?_
  have W := V.g
  have hc1 := hf _ _ hc rfl
  show OkX prog w G A' env k (setL (setL (setL (setL (fun _ => none) "notes" (.ref N)) "word" (.str word)) "control" (.ref c)) "line" (.int L)) (execs (bodyN 13) env) _
  refine okX_sForG V.r.handled V.f (store_of V.s (by decide +kernel)) (fun _ => rfl) ?_
  refine okE_sortedS g W V.r.handled (by decide +kernel) (by decide +kernel) ?_
  repeat walk_at "v1"
  refine ⟨c, true, rows, rfl, hc1, by first | lia | omega, fun ns hp _ => ⟨_, .inl ⟨true, rfl⟩, fun c1 k1 N1 => ?_⟩⟩
  have ho1 : evOk (ns.flatMap ev) := ho.of fun e he => by
    obtain ⟨x, hx, hxe⟩ := List.mem_flatMap.mp he
    exact List.mem_flatMap.mpr ⟨x, hp.mem_iff.mp hx, hxe⟩
  have hfin : addEvs f (ns.flatMap ev) L = addEvs f ((rows.map (·.1)).flatMap ev) L := addEvs_congr fun e => by
    rw [List.mem_flatMap, List.mem_flatMap]
    exact ⟨fun ⟨x, a, b⟩ => ⟨x, hp.mem_iff.mp a, b⟩, fun ⟨x, a, b⟩ => ⟨x, hp.mem_iff.mpr a, b⟩⟩
  refine ⟨_, _, fun its m' k' => ∃ ds rs, ds ++ rs = ns ∧ its = rs.map .str ∧ Book k' D (addEvs f (ds.flatMap ev) L) ∧ BF D k1 k' ∧ m' "notes" = some (.ref N) ∧ m' "line" = some (.int L) ∧ m' "word" = some (.str word) ∧ m' "control" = some (.ref c), src_list N1.at (.inl ⟨_, rfl⟩), ?_, ?_, ?_, ?_⟩
  · rintro its m' k' ⟨ds, rs, e1, e2, e3, e4, e5, e6⟩
    exact ⟨_, e4.fz _ _ N1.at rfl, .inl ⟨_, rfl⟩⟩
  · exact ⟨[], ns, rfl, rfl, B.new N1, BF.refl, by walk_at "lk", by walk_at "lk", by walk_at "lk", by walk_at "lk"⟩
  · rintro v its m' k' ⟨ds, rs, e1, e2, B, F0, m1, m2, m3, m4⟩
    match rs, e2 with
    | y :: rs, e2 =>
      rw [List.map_cons, List.cons.injEq] at e2
      obtain ⟨rfl, rfl⟩ := e2
      subst e1
      have hy : y ∈ rows.map (·.1) := hp.mem_iff.mp (by simp)
      obtain ⟨v, hv, hr⟩ := lookup_ex hy
      have hcv := ht y v hr
      have F1 : BF D k k' := N1.bf.comp F0
      have hN := hN.fz F1.fz
      have hc2 := F1.fz _ _ hc1 rfl
      have hf2 := hf.comp F1.fz
      have hb2 := hb.adds (by first | lia | omega) (ds.flatMap ev)
      rw [List.flatMap_append, List.flatMap_cons] at ho1
      have ho2 := ho1.right.left
      refine vAssign V rfl (by decide +kernel) ?_
      repeat walk_at "v1"
      refine oIdxS rfl hc2 hv ?_
      have fin : ∀ m2 kk, Book kk D (addEvs (addEvs f (ds.flatMap ev) L) (ev y) L) → BF D k' kk → m2 = setL (setL m' "key" (.str y)) "value" v → ∃ ds' rs', ds' ++ rs' = ds ++ y :: rs ∧ List.map PV.str rs = List.map PV.str rs' ∧ Book kk D (addEvs f (ds'.flatMap ev) L) ∧ BF D k1 kk ∧ m2 "notes" = some (.ref N) ∧ m2 "line" = some (.int L) ∧ m2 "word" = some (.str word) ∧ m2 "control" = some (.ref c) := by
        rintro m2 kk b1 b2 rfl
        exact ⟨ds ++ [y], rs, by simp, rfl, by rw [List.flatMap_append, addEvs_app, List.flatMap_cons, List.flatMap_nil, List.append_nil]; exact b1, F0.comp b2, by walk_at "lk", by walk_at "lk", by walk_at "lk", by walk_at "lk"⟩
      have note_ : ∀ {l : Int} {Q : PV → KH → Prop}, (2, Key.i l) ∈ ev y → (∀ kk, Book kk D (addEv (addEvs f (ds.flatMap ev) L) 2 (.i l) L) → BF D k' kk → Q .none kk) → OkF prog w G A' k' "note" [.ref (D 2), .int l, .int L] Q := fun hl hq =>
        note_i g (V.r.le (by first | lia | omega)) B (by first | lia | omega) (by first | lia | omega) (ho2 _ hl) hb2 hq
      have htrue : ∀ {t : Str}, t ∈ (["END", "ERR"] : List Str) → t = "END" ∨ t = "ERR" := by simp
      generalize hQ : (LoopQ _ _ _) = Q
      have fin2 : ∀ kk, Book kk D (addEvs (addEvs f (ds.flatMap ev) L) (ev y) L) → BF D k' kk → Q .next (setL (setL m' "key" (.str y)) "value" v) kk := fun kk a b => by rw [← hQ]; exact fin _ kk a b rfl
      clear fin
      have lk : (setL (setL m' "key" (.str y)) "value" v) "key" = some (.str y) := by walk_at "lk"
      have lv : (setL (setL m' "key" (.str y)) "value" v) "value" = some v := by walk_at "lk"
      have ln : (setL (setL m' "key" (.str y)) "value" v) "notes" = some (.ref N) := by walk_at "lk"
      have ll : (setL (setL m' "key" (.str y)) "value" v) "line" = some (.int L) := by walk_at "lk"
      have lw : (setL (setL m' "key" (.str y)) "value" v) "word" = some (.str word) := by walk_at "lk"
      generalize (setL (setL m' "key" (.str y)) "value" v) = mm at fin2 lk lv ln ll lw ⊢
      clear hQ
      generalize hE : ev y = E at *
      refine vIf V ?_
      refine okC_Bool ?_
      refine okC_orc ?_
      refine okC_inBase (x := "x") _ g W (by decide +kernel) rfl g.words ?_
      repeat walk_at "v1"
      cases hcv with
      | @label _ l =>
        have run : OkX prog w G A' env k' mm (execs ctlN env) (Seq prog w G A' env [] Q) := by
          refine vExpr V rfl ?_
          repeat walk_at "v1"
          refine eAt2 g (by walk_at "lk") hN ?_
          repeat walk_at "v1"
          refine note_ (.head _) fun kk b1 b2 => ?_
          exact vNil (seq_next (vNil (fin2 _ b1 b2)))
        refine ⟨fun _ => ⟨fun _ => run, fun hh => nomatch hh⟩, fun _ => ?_⟩
        refine okC_orc ?_
        refine okC_call (okE_isI g W (by decide +kernel) (by decide +kernel) rfl ?_)
        repeat walk_at "v1"
        refine ⟨true, .inl ⟨rfl, _, rfl⟩, true, rfl, fun _ => ⟨fun _ => run, fun hh => nomatch hh⟩, fun hh => nomatch hh⟩
      | @star _ x n1 n2 =>
        refine ⟨fun hh => absurd (htrue (of_decide_eq_true hh)) (not_or.mpr ⟨n1, n2⟩), fun _ => ?_⟩
        refine okC_orc ?_
        refine okC_call (okE_isI g W (by decide +kernel) (by decide +kernel) rfl ?_)
        repeat walk_at "v1"
        refine ⟨false, .inr ⟨rfl, .inr (.inl ⟨_, rfl⟩)⟩, false, rfl, fun hh => (nomatch hh), fun _ => ?_⟩
        repeat walk_at "v1"
        refine ⟨fun hh => (nomatch hh), fun _ => ?_⟩
        refine vIf V ?_
        refine okC_call (okE_isT g W (by decide +kernel) (by decide +kernel) rfl ?_)
        repeat walk_at "v1"
        refine ⟨false, .inr ⟨rfl, .inr (.inr (.inl ⟨_, rfl⟩))⟩, false, rfl, fun hh => (nomatch hh), fun _ => ?_⟩
        exact vNil (seq_next (vNil (seq_next (vNil (fin2 _ B BF.refl)))))
      | @iostat a t r n es ha ht =>
        have ha2 := hf2 _ _ ha rfl
        refine ⟨fun hh => absurd (htrue (of_decide_eq_true hh)) (by decide +kernel), fun _ => ?_⟩
        refine okC_orc ?_
        refine okC_call (okE_isI g W (by decide +kernel) (by decide +kernel) rfl ?_)
        repeat walk_at "v1"
        refine ⟨false, .inr ⟨rfl, .inr (.inr ⟨_, _, rfl, ha2⟩)⟩, false, rfl, fun hh => (nomatch hh), fun _ => ?_⟩
        repeat walk_at "v1"
        refine ⟨fun hh => (nomatch hh), fun _ => ?_⟩
        refine vIf V ?_
        refine okC_call (okE_isT g W (by decide +kernel) (by decide +kernel) rfl ?_)
        repeat walk_at "v1"
        refine ⟨true, .inl ⟨rfl, _, _, rfl, ha2⟩, true, rfl, fun _ => ?_, fun hh => nomatch hh⟩
        refine vIf V ?_
        repeat walk_at "v1"
        refine ⟨fun _ => ?_, fun hh => absurd rfl (of_decide_eq_false hh)⟩
        refine ⟨fun _ => ?_, fun hh => nomatch hh⟩
        repeat walk_at "v1"
        refine (tgt_all g ht).run hf2 (V.r.le (by first | lia | omega)) hN B hb2 ho2 fun kk b1 b2 => ?_
        exact vNil (seq_next (vNil (seq_next (vNil (seq_next (vNil (fin2 _ b1 b2)))))))
      | @exist a t r n es hw ha ht =>
        have ha2 := hf2 _ _ ha rfl
        refine ⟨fun hh => absurd (htrue (of_decide_eq_true hh)) (by decide +kernel), fun _ => ?_⟩
        refine okC_orc ?_
        refine okC_call (okE_isI g W (by decide +kernel) (by decide +kernel) rfl ?_)
        repeat walk_at "v1"
        refine ⟨false, .inr ⟨rfl, .inr (.inr ⟨_, _, rfl, ha2⟩)⟩, false, rfl, fun hh => (nomatch hh), fun _ => ?_⟩
        repeat walk_at "v1"
        refine ⟨fun hh => (nomatch hh), fun _ => ?_⟩
        refine vIf V ?_
        refine okC_call (okE_isT g W (by decide +kernel) (by decide +kernel) rfl ?_)
        repeat walk_at "v1"
        refine ⟨true, .inl ⟨rfl, _, _, rfl, ha2⟩, true, rfl, fun _ => ?_, fun hh => nomatch hh⟩
        refine vIf V ?_
        repeat walk_at "v1"
        refine ⟨fun hh => absurd (of_decide_eq_true hh) (by decide +kernel), fun _ => ?_⟩
        refine okC_orc ?_
        refine okC_Bool ?_
        refine okC_andc ?_
        repeat walk_at "v1"
        refine ⟨fun _ => ?_, fun hh => absurd hw (of_decide_eq_false hh)⟩
        refine okC_andc ?_
        refine okC_inBase (x := "x") _ g W (by decide +kernel) rfl g.sets ?_
        repeat walk_at "v1"
        refine ⟨fun _ => ?_, fun hh => absurd (of_decide_eq_false hh) (fun z => z (by decide +kernel))⟩
        repeat walk_at "v1"
        refine ⟨fun _ => ?_, fun hh => nomatch hh⟩
        refine ⟨fun _ => ?_, fun hh => nomatch hh⟩
        repeat walk_at "v1"
        refine (tgt_all g ht).run hf2 (V.r.le (by first | lia | omega)) hN B hb2 ho2 fun kk b1 b2 => ?_
        exact vNil (seq_next (vNil (seq_next (vNil (seq_next (vNil (fin2 _ b1 b2)))))))
      | @unitC a n hw ha =>
        have hw2 : word ≠ "inquire" := by rw [hw]; decide +kernel
        have ha2 := hf2 _ _ ha rfl
        refine ⟨fun hh => absurd (htrue (of_decide_eq_true hh)) (by decide +kernel), fun _ => ?_⟩
        refine okC_orc ?_
        refine okC_call (okE_isI g W (by decide +kernel) (by decide +kernel) rfl ?_)
        repeat walk_at "v1"
        refine ⟨false, .inr ⟨rfl, .inr (.inr ⟨_, _, rfl, ha2⟩)⟩, false, rfl, fun hh => (nomatch hh), fun _ => ?_⟩
        repeat walk_at "v1"
        refine ⟨fun hh => (nomatch hh), fun _ => ?_⟩
        refine vIf V ?_
        refine okC_call (okE_isT g W (by decide +kernel) (by decide +kernel) rfl ?_)
        repeat walk_at "v1"
        refine ⟨true, .inl ⟨rfl, _, _, rfl, ha2⟩, true, rfl, fun _ => ?_, fun hh => nomatch hh⟩
        refine vIf V ?_
        repeat walk_at "v1"
        refine ⟨fun hh => absurd (of_decide_eq_true hh) (by decide +kernel), fun _ => ?_⟩
        refine okC_orc ?_
        refine okC_Bool ?_
        refine okC_andc ?_
        repeat walk_at "v1"
        refine ⟨fun hh => absurd (of_decide_eq_true hh) hw2, fun _ => ?_⟩
        refine ⟨fun hh => (nomatch hh), fun _ => ?_⟩
        repeat walk_at "v1"
        refine ⟨fun hh => (nomatch hh), fun _ => ?_⟩
        refine vIf V ?_
        refine okC_Bool ?_
        refine okC_andc ?_
        repeat walk_at "v1"
        refine ⟨fun _ => ?_, fun hh => absurd hw (of_decide_eq_false hh)⟩
        repeat walk_at "v1"
        refine ⟨fun _ => ?_, fun hh => absurd rfl (of_decide_eq_false hh)⟩
        repeat walk_at "v1"
        refine oIdxT rfl ha2 ⟨by decide, by decide⟩ (x := .int 5) rfl ?_
        repeat walk_at "v1"
        refine ⟨fun _ => ?_, fun hh => absurd rfl (of_decide_eq_false hh)⟩
        repeat walk_at "v1"
        refine ⟨fun _ => ?_, fun hh => nomatch hh⟩
        repeat walk_at "v1"
        refine (tgt_all g (d_var ha)).run hf2 (V.r.le (by first | lia | omega)) hN B hb2 ho2 fun kk b1 b2 => ?_
        repeat walk_at "v1"
        exact fin2 _ b1 b2
      | @unit a t c r es ha hc he =>
        have ha2 := hf2 _ _ ha rfl
        refine ⟨fun hh => absurd (htrue (of_decide_eq_true hh)) (by decide +kernel), fun _ => ?_⟩
        refine okC_orc ?_
        refine okC_call (okE_isI g W (by decide +kernel) (by decide +kernel) rfl ?_)
        repeat walk_at "v1"
        refine ⟨false, .inr ⟨rfl, .inr (.inr ⟨_, _, rfl, ha2⟩)⟩, false, rfl, fun hh => (nomatch hh), fun _ => ?_⟩
        repeat walk_at "v1"
        refine ⟨fun hh => (nomatch hh), fun _ => ?_⟩
        refine vIf V ?_
        refine okC_call (okE_isT g W (by decide +kernel) (by decide +kernel) rfl ?_)
        repeat walk_at "v1"
        refine ⟨true, .inl ⟨rfl, _, _, rfl, ha2⟩, true, rfl, fun _ => ?_, fun hh => nomatch hh⟩
        refine vIf V ?_
        repeat walk_at "v1"
        refine ⟨fun hh => absurd (of_decide_eq_true hh) (by decide +kernel), fun _ => ?_⟩
        refine okC_orc ?_
        refine okC_Bool ?_
        refine okC_andc ?_
        have last : OkX prog w G A' env k' mm (execs ctlL env) (Seq prog w G A' env [] (Seq prog w G A' env [] (Seq prog w G A' env [] Q))) := by
          refine vIf V ?_
          refine okC_Bool ?_
          refine okC_andc ?_
          repeat walk_at "v1"
          have run : OkX prog w G A' env k' mm (execs ctlU env) (Seq prog w G A' env [] (Seq prog w G A' env [] (Seq prog w G A' env [] (Seq prog w G A' env [] Q)))) := by
            refine vExpr V rfl ?_
            repeat walk_at "v1"
            refine (uses_one g he).run hf2 (V.r.le (by first | lia | omega)) hN B hb2 ho2 fun kk b1 b2 => ?_
            repeat walk_at "v1"
            exact fin2 _ b1 b2
          refine ⟨fun hh => ?_, fun hh => ⟨fun hh => (nomatch hh), fun _ => run⟩⟩
          have hw : word = "write" := of_decide_eq_true hh
          repeat walk_at "v1"
          refine ⟨fun _ => ?_, fun hh => absurd rfl (of_decide_eq_false hh)⟩
          repeat walk_at "v1"
          refine oIdxT rfl ha2 ⟨by decide, by decide⟩ (x := .int c) (pyIdx_pos (by decide) rfl) ?_
          repeat walk_at "v1"
          refine ⟨fun hh => absurd (of_decide_eq_true hh) (hc hw), fun _ => ⟨fun hh => (nomatch hh), fun _ => run⟩⟩
        repeat walk_at "v1"
        refine ⟨fun _ => ?_, fun _ => ?_⟩
        · refine okC_andc ?_
          refine okC_inBase (x := "x") _ g W (by decide +kernel) rfl g.sets ?_
          repeat walk_at "v1"
          refine ⟨fun hh => absurd (of_decide_eq_true hh) (by decide +kernel), fun _ => ?_⟩
          refine ⟨fun hh => (nomatch hh), fun _ => ?_⟩
          repeat walk_at "v1"
          exact ⟨fun hh => (nomatch hh), fun _ => last⟩
        · refine ⟨fun hh => (nomatch hh), fun _ => ?_⟩
          repeat walk_at "v1"
          exact ⟨fun hh => (nomatch hh), fun _ => last⟩
  · rintro m' k' ⟨ds, rs, e1, e2, B, F0, m1, m2, m3, m4⟩
    have : rs = [] := List.map_eq_nil_iff.mp e2.symm
    subst this
    rw [List.append_nil] at e1
    subst e1
    rw [hfin] at B
    exact vNil (h _ B (N1.bf.comp F0))
end

section
variable {prog : Program} {w : World} {G : Glob'}
theorem lab_one (l : Int) : [((2, Key.i l) : Ev)] = lab [l] := rfl
noncomputable def jumpTags : List Str := ["goto", "cgoto", "agoto", "aif", "setlabel", "do"]

/-- a statement that is no jump -/
theorem nojump (g : Prg G) {A : Around} {k : KH} {P : PV → KH → Prop} (hR : Room A 2) {N a : Addr} {L : Int} {t : Str} {l : List PV} (ha : k a = some (.tup (.str t :: l))) (ht : t ∉ jumpTags) (h : P (.bool false) k) : OkF prog w G A k "note_jump" [.ref N, .ref a, .int L] P := by
  refine okF_fn (n := 15) (d := 1) g rfl hR (by decide +kernel) rfl fun env A' V => ?_
  have W := V.g
  obtain ⟨h1, h2, h3, h4, h5, h6⟩ : t ≠ "goto" ∧ t ≠ "cgoto" ∧ t ≠ "agoto" ∧ t ≠ "aif" ∧ t ≠ "setlabel" ∧ t ≠ "do" := by
    simp only [jumpTags, List.mem_cons, List.not_mem_nil, or_false, not_or] at ht
    exact ht
  show OkX prog w G A' env k (setL (setL (setL (fun _ => none) "notes" (.ref N)) "stmt" (.ref a)) "line" (.int L)) (execs (bodyN 15) env) _
  refine vAssign V rfl (by decide +kernel) ?_
  repeat walk_at "v1"
  refine oIdxT rfl ha ⟨by decide, by decide⟩ (x := .str t) (pyIdx_pos (by decide) rfl) ?_
  repeat walk_at "v1"
  refine ⟨fun hh => absurd (of_decide_eq_true hh) h1, fun _ => ?_⟩
  repeat walk_at "v1"
  refine ⟨fun hh => absurd (of_decide_eq_true hh) h2, fun _ => ?_⟩
  repeat walk_at "v1"
  refine ⟨fun hh => absurd (of_decide_eq_true hh) h3, fun _ => ?_⟩
  repeat walk_at "v1"
  refine ⟨fun hh => absurd (of_decide_eq_true hh) h4, fun _ => ?_⟩
  repeat walk_at "v1"
  refine ⟨fun hh => absurd (of_decide_eq_true hh) h5, fun _ => ?_⟩
  repeat walk_at "v1"
  refine ⟨fun hh => absurd (of_decide_eq_true hh) h6, fun _ => ?_⟩
  repeat walk_at "v1"
  exact h

structure JmpP (prog : Program) (w : World) (G : Glob') (k0 : KH) (v : PV) (es : List Ev) : Prop where
  run : ∀ {A : Around} {k : KH} {P : PV → KH → Prop} {N : Addr} {D : Nat → Addr} {f : Rec} {L : Int}, Fz k0 k → Room A 65 → NotesAt G k N D → Book k D f → Bd f L 1000 → evOk es →
    (∀ k', Book k' D (addEvs f es L) → BF D k k' → P (.bool true) k') → OkF prog w G A k "note_jump" [.ref N, v, .int L] P

set_option maxHeartbeats 4000000 in
theorem jmp_all (g : Prg G) {k0 : KH} {v : PV} {es : List Ev} (hj : JT k0 10 v es) : JmpP prog w G k0 v es := by
  refine .mk fun {A k P N D f L} hf hR hN B hb ho h => ?_
  refine okF_fn (n := 15) (d := 64) g rfl hR (by decide +kernel) rfl fun env A' V => ?_
  have W := V.g
  cases hj with
  | @goto a l ha =>
    have ha := hf _ _ ha rfl
    show OkX prog w G A' env k (setL (setL (setL (fun _ => none) "notes" (.ref N)) "stmt" (.ref a)) "line" (.int L)) (execs (bodyN 15) env) _
    refine vAssign V rfl (by decide +kernel) ?_
    repeat walk_at "v1"
    refine oIdxT rfl ha ⟨by decide, by decide⟩ (x := .str "goto") (pyIdx_pos (by decide) rfl) ?_
    repeat walk_at "v1"
    refine ⟨fun _ => ?_, fun hh => absurd rfl (of_decide_eq_false hh)⟩
    repeat walk_at "v1"
    refine eListF ?_
    repeat walk_at "v1"
    refine oIdxT rfl ha ⟨by decide, by decide⟩ (x := .int l) rfl ?_
    repeat walk_at "v1"
    refine ⟨by simp, fun c1 k1 N1 => ?_⟩
    repeat walk_at "v1"
    refine labels_ok g (V.r.le (by first | lia | omega)) (ls := [l]) (.inl N1.at) (hN.fz N1.fz) (B.new N1) hb ho fun k2 B2 F2 => ?_
    repeat walk_at "v1"
    exact h _ B2 (N1.bf.comp F2)
  | @cgoto a ll ls e es ha hl he =>
    have ha := hf _ _ ha rfl
    have hl := hf _ _ hl rfl
    show OkX prog w G A' env k (setL (setL (setL (fun _ => none) "notes" (.ref N)) "stmt" (.ref a)) "line" (.int L)) (execs (bodyN 15) env) _
    refine vAssign V rfl (by decide +kernel) ?_
    repeat walk_at "v1"
    refine oIdxT rfl ha ⟨by decide, by decide⟩ (x := .str "cgoto") (pyIdx_pos (by decide) rfl) ?_
    repeat walk_at "v1"
    refine ⟨fun hh => absurd (of_decide_eq_true hh) (by decide +kernel), fun _ => ?_⟩
    repeat walk_at "v1"
    refine ⟨fun _ => ?_, fun hh => absurd rfl (of_decide_eq_false hh)⟩
    repeat walk_at "v1"
    refine oIdxT rfl ha ⟨by decide, by decide⟩ (x := .ref ll) rfl ?_
    repeat walk_at "v1"
    refine labels_ok g (V.r.le (by first | lia | omega)) (ls := ls) (.inl hl) hN B hb ho.left fun k2 B2 F2 => ?_
    repeat walk_at "v1"
    refine oIdxT rfl (F2.fz _ _ ha rfl) ⟨by decide, by decide⟩ (x := e) rfl ?_
    repeat walk_at "v1"
    refine (uses_one g he).run (hf.comp F2.fz) (V.r.le (by first | lia | omega)) (hN.fz F2.fz) B2 (hb.adds (by first | lia | omega) _) ho.right fun k3 B3 F3 => ?_
    repeat walk_at "v1"
    exact h _ (by rw [addEvs_app]; exact B3) (F2.comp F3)
  | @agoto a n ll ls ha hl =>
    have ha := hf _ _ ha rfl
    have hl := hf _ _ hl rfl
    show OkX prog w G A' env k (setL (setL (setL (fun _ => none) "notes" (.ref N)) "stmt" (.ref a)) "line" (.int L)) (execs (bodyN 15) env) _
    refine vAssign V rfl (by decide +kernel) ?_
    repeat walk_at "v1"
    refine oIdxT rfl ha ⟨by decide, by decide⟩ (x := .str "agoto") (pyIdx_pos (by decide) rfl) ?_
    repeat walk_at "v1"
    refine ⟨fun hh => absurd (of_decide_eq_true hh) (by decide +kernel), fun _ => ?_⟩
    repeat walk_at "v1"
    refine ⟨fun hh => absurd (of_decide_eq_true hh) (by decide +kernel), fun _ => ?_⟩
    repeat walk_at "v1"
    refine ⟨fun _ => ?_, fun hh => absurd rfl (of_decide_eq_false hh)⟩
    repeat walk_at "v1"
    refine eAt1 g (by walk_at "lk") hN ?_
    repeat walk_at "v1"
    refine oIdxT rfl ha ⟨by decide, by decide⟩ (x := .str n) rfl ?_
    repeat walk_at "v1"
    refine note_s g (V.r.le (by first | lia | omega)) B (by first | lia | omega) ho.head hb fun k2 B2 F2 => ?_
    repeat walk_at "v1"
    refine oIdxT rfl (F2.fz _ _ ha rfl) ⟨by decide, by decide⟩ (x := .ref ll) rfl ?_
    repeat walk_at "v1"
    refine labels_ok g (V.r.le (by first | lia | omega)) (ls := ls) (.inl (F2.fz _ _ hl rfl)) (hN.fz F2.fz) B2 (hb.add (by first | lia | omega) _ _) ho.tail fun k3 B3 F3 => ?_
    repeat walk_at "v1"
    exact h _ B3 (F2.comp F3)
  | @aif a e ls es ha hlen he =>
    have ha := hf _ _ ha rfl
    show OkX prog w G A' env k (setL (setL (setL (fun _ => none) "notes" (.ref N)) "stmt" (.ref a)) "line" (.int L)) (execs (bodyN 15) env) _
    refine vAssign V rfl (by decide +kernel) ?_
    repeat walk_at "v1"
    refine oIdxT rfl ha ⟨by decide, by decide⟩ (x := .str "aif") (pyIdx_pos (by decide) rfl) ?_
    repeat walk_at "v1"
    refine ⟨fun hh => absurd (of_decide_eq_true hh) (by decide +kernel), fun _ => ?_⟩
    repeat walk_at "v1"
    refine ⟨fun hh => absurd (of_decide_eq_true hh) (by decide +kernel), fun _ => ?_⟩
    repeat walk_at "v1"
    refine ⟨fun hh => absurd (of_decide_eq_true hh) (by decide +kernel), fun _ => ?_⟩
    repeat walk_at "v1"
    refine ⟨fun _ => ?_, fun hh => absurd rfl (of_decide_eq_false hh)⟩
    repeat walk_at "v1"
    refine oIdxT rfl ha ⟨by decide, by decide⟩ (x := e) (pyIdx_pos (by decide) rfl) ?_
    repeat walk_at "v1"
    refine (uses_one g he).run hf (V.r.le (by first | lia | omega)) hN B hb ho.left fun k2 B2 F2 => ?_
    refine vExpr V rfl ?_
    refine okE_CF g W (by decide +kernel) (by walk_at "isd") (by decide +kernel) ?_
    refine okEs_cons rfl ?_
    walk_at "v1"
    refine okEs_cons rfl ?_
    refine okE_sliceT (n := 2) ?_
    repeat walk_at "v1"
    have ha2 := F2.fz _ _ ha rfl
    refine ⟨a, _, rfl, ha2, by decide, by simp [hlen], sz_le (by simp [hlen]), fun c5 k5 N5 => ?_⟩
    have hk5 : k5 c5 = some (.tup (ls.map .int)) := N5.at
    repeat walk_at "v1"
    refine labels_ok g (V.r.le (by first | lia | omega)) (ls := ls) (.inr hk5) (hN.fz (F2.fz.comp N5.fz)) (B2.new N5) (hb.adds (by first | lia | omega) _) ho.right fun k3 B3 F3 => ?_
    repeat walk_at "v1"
    exact h _ (by rw [addEvs_app]; exact B3) ((F2.comp N5.bf).comp F3)
  | @setlabel a l n ha =>
    have ha := hf _ _ ha rfl
    show OkX prog w G A' env k (setL (setL (setL (fun _ => none) "notes" (.ref N)) "stmt" (.ref a)) "line" (.int L)) (execs (bodyN 15) env) _
    refine vAssign V rfl (by decide +kernel) ?_
    repeat walk_at "v1"
    refine oIdxT rfl ha ⟨by decide, by decide⟩ (x := .str "setlabel") (pyIdx_pos (by decide) rfl) ?_
    repeat walk_at "v1"
    refine ⟨fun hh => absurd (of_decide_eq_true hh) (by decide +kernel), fun _ => ?_⟩
    repeat walk_at "v1"
    refine ⟨fun hh => absurd (of_decide_eq_true hh) (by decide +kernel), fun _ => ?_⟩
    repeat walk_at "v1"
    refine ⟨fun hh => absurd (of_decide_eq_true hh) (by decide +kernel), fun _ => ?_⟩
    repeat walk_at "v1"
    refine ⟨fun hh => absurd (of_decide_eq_true hh) (by decide +kernel), fun _ => ?_⟩
    repeat walk_at "v1"
    refine ⟨fun _ => ?_, fun hh => absurd rfl (of_decide_eq_false hh)⟩
    repeat walk_at "v1"
    refine eListF ?_
    repeat walk_at "v1"
    refine oIdxT rfl ha ⟨by decide, by decide⟩ (x := .int l) rfl ?_
    repeat walk_at "v1"
    refine ⟨by simp, fun c1 k1 N1 => ?_⟩
    repeat walk_at "v1"
    refine labels_ok g (V.r.le (by first | lia | omega)) (ls := [l]) (.inl N1.at) (hN.fz N1.fz) (B.new N1) hb (ho.of (by simp [lab])) fun k2 B2 F2 => ?_
    repeat walk_at "v1"
    refine eAt0 g (by walk_at "lk") (hN.fz (N1.fz.comp F2.fz)) ?_
    repeat walk_at "v1"
    refine oIdxT rfl (F2.fz _ _ (N1.get ha) rfl) ⟨by decide, by decide⟩ (x := .str n) rfl ?_
    repeat walk_at "v1"
    refine note_s g (V.r.le (by first | lia | omega)) B2 (by first | lia | omega) ho.tail.head (hb.adds (by first | lia | omega) _) fun k3 B3 F3 => ?_
    repeat walk_at "v1"
    exact h _ B3 ((N1.bf.comp F2).comp F3)
  | @doo a l gg n e1 e2 e3 es1 es2 ha ht he =>
    have ha := hf _ _ ha rfl
    show OkX prog w G A' env k (setL (setL (setL (fun _ => none) "notes" (.ref N)) "stmt" (.ref a)) "line" (.int L)) (execs (bodyN 15) env) _
    refine vAssign V rfl (by decide +kernel) ?_
    repeat walk_at "v1"
    refine oIdxT rfl ha ⟨by decide, by decide⟩ (x := .str "do") (pyIdx_pos (by decide) rfl) ?_
    repeat walk_at "v1"
    refine ⟨fun hh => absurd (of_decide_eq_true hh) (by decide +kernel), fun _ => ?_⟩
    repeat walk_at "v1"
    refine ⟨fun hh => absurd (of_decide_eq_true hh) (by decide +kernel), fun _ => ?_⟩
    repeat walk_at "v1"
    refine ⟨fun hh => absurd (of_decide_eq_true hh) (by decide +kernel), fun _ => ?_⟩
    repeat walk_at "v1"
    refine ⟨fun hh => absurd (of_decide_eq_true hh) (by decide +kernel), fun _ => ?_⟩
    repeat walk_at "v1"
    refine ⟨fun hh => absurd (of_decide_eq_true hh) (by decide +kernel), fun _ => ?_⟩
    repeat walk_at "v1"
    refine ⟨fun _ => ?_, fun hh => absurd rfl (of_decide_eq_false hh)⟩
    rw [show ((2, Key.i l) :: (0, Key.s n) :: es1 ++ es2 : List Ev) = lab [l] ++ (((0, Key.s n) :: es1) ++ es2) from rfl] at ho h
    repeat walk_at "v1"
    refine eListF ?_
    repeat walk_at "v1"
    refine oIdxT rfl ha ⟨by decide, by decide⟩ (x := .int l) rfl ?_
    repeat walk_at "v1"
    refine ⟨by simp, fun c1 k1 N1 => ?_⟩
    repeat walk_at "v1"
    refine labels_ok g (V.r.le (by first | lia | omega)) (ls := [l]) (.inl N1.at) (hN.fz N1.fz) (B.new N1) hb ho.left fun k2 B2 F2 => ?_
    have F2 := N1.bf.comp F2
    repeat walk_at "v1"
    refine oIdxT rfl (F2.fz _ _ ha rfl) ⟨by decide, by decide⟩ (x := gg) rfl ?_
    repeat walk_at "v1"
    refine (tgt_all g ht).run (hf.comp F2.fz) (V.r.le (by first | lia | omega)) (hN.fz F2.fz) B2 (hb.adds (by first | lia | omega) _) ho.right.left fun k3 B3 F3 => ?_
    have F3 := F2.comp F3
    have ha3 := F3.fz _ _ ha rfl
    refine vForUses (D := D) (d1 := 10) (k0 := k0) (L := L) (f := addEvs (addEvs f (lab [l]) L) ((0, .s n) :: es1) L) V (by first | lia | omega) (by decide +kernel) (fun _ => rfl) ?_ ((hb.adds (by first | lia | omega) _).adds (by first | lia | omega) _) ho.right.right (by walk_at "lk") (by walk_at "lk") (fun v k' m' Q m1 m2 m3 hQ => ?_) fun m' k' m1 B' F' => ?_
    · refine okE_sliceT (n := 3) ?_
      repeat walk_at "v1"
      refine ⟨a, _, rfl, ha3, by decide, by simp, sz_le (by simp), fun c5 k5 N5 => ?_⟩
      have hk5 : k5 c5 = some (.tup [e1, e2, e3]) := N5.at
      exact ⟨_, _, src_tup hk5, fun k2 fz => fz _ _ hk5 rfl, uses_all g he, hf.comp (F3.fz.comp N5.fz), hN.fz (F3.fz.comp N5.fz), B3.new N5, N5.bf⟩
    · repeat walk_at "v1"
      refine okF_mono hQ fun _ k2 q => ?_
      exact vNil q
    · repeat walk_at "v1"
      exact h _ (by rw [addEvs_app, addEvs_app]; exact B') (F3.comp F')

/-- a statement -/
structure StmP (prog : Program) (w : World) (G : Glob') (k0 : KH) (v : PV) (es : List Ev) : Prop where
  run : ∀ {A : Around} {k : KH} {P : PV → KH → Prop} {N : Addr} {D : Nat → Addr} {f : Rec} {L : Int}, Fz k0 k → Room A 105 → NotesAt G k N D → Book k D f → Bd f L 1000 → evOk es →
    (∀ k', Book k' D (addEvs f es L) → BF D k k' → P .none k') → OkF prog w G A k "note_statement" [.ref N, v, .int L] P

theorem stm_jump (g : Prg G) {k0 : KH} {v : PV} {es : List Ev} (hj : JT k0 10 v es) {A : Around} {k : KH} {P : PV → KH → Prop} {N : Addr} {D : Nat → Addr} {f : Rec} {L : Int} (hf : Fz k0 k) (hR : Room A 66) (hN : NotesAt G k N D) (B : Book k D f) (hb : Bd f L 1000) (ho : evOk es)
    (h : ∀ k', Book k' D (addEvs f es L) → BF D k k' → P .none k') : OkF prog w G A k "note_statement" [.ref N, v, .int L] P := by
  refine okF_fn (n := 16) (d := 65) g rfl hR (by decide +kernel) rfl fun env A' V => ?_
  have W := V.g
  have J := jmp_all (prog := prog) (w := w) g hj
  obtain ⟨a, t, l, rfl, ha⟩ : ∃ a t l, v = .ref a ∧ k0 a = some (.tup (.str t :: l)) := by
    cases hj with
    | goto hx => exact ⟨_, _, _, rfl, hx⟩
    | cgoto hx _ _ => exact ⟨_, _, _, rfl, hx⟩
    | agoto hx _ => exact ⟨_, _, _, rfl, hx⟩
    | aif hx _ _ => exact ⟨_, _, _, rfl, hx⟩
    | setlabel hx => exact ⟨_, _, _, rfl, hx⟩
    | doo hx _ _ => exact ⟨_, _, _, rfl, hx⟩
  have ha := hf _ _ ha rfl
  show OkX prog w G A' env k (setL (setL (setL (fun _ => none) "notes" (.ref N)) "stmt" (.ref a)) "line" (.int L)) (execs (bodyN 16) env) _
  refine vAssign V rfl (by decide +kernel) ?_
  repeat walk_at "v1"
  refine oIdxT rfl ha ⟨by decide, by decide⟩ (x := .str t) (pyIdx_pos (by decide) rfl) ?_
  refine vIf V ?_
  refine okC_call ?_
  repeat walk_at "v1"
  refine J.run hf (V.r.le (by first | lia | omega)) hN B hb ho fun k2 B2 F2 => ?_
  refine ⟨true, rfl, fun _ => ?_, fun hh => nomatch hh⟩
  repeat walk_at "v1"
  exact h _ B2 F2
end

section
variable {prog : Program} {w : World} {G : Glob'}
theorem dec_true {p : Prop} [Decidable p] (h : p) : decide p = true := decide_eq_true h
noncomputable def exprL : List Str := ["if", "elseif", "return"]
noncomputable def ioL : List Str := ["read", "write"]
noncomputable def ctlL2 : List Str := ["open", "close", "inquire", "backspace", "rewind", "endfile"]


set_option maxHeartbeats 8000000 in
theorem stm_all (g : Prg G) {k0 : KH} {v : PV} {es : List Ev} (hs : ST k0 10 v es) : StmP prog w G k0 v es := by
  refine .mk fun {A k P N D f L} hf hR hN B0 hb ho h => ?_
  have F0 : BF D k k := BF.refl
  cases hs with
  | jump hj => exact stm_jump g hj hf (hR.le (by first | lia | omega)) hN B0 hb ho h
  | @assign a gg e n es1 es2 ha ht he =>
    refine okF_fn (n := 16) (d := 104) g rfl hR (by decide +kernel) rfl fun env A' V => ?_
    have W := V.g
    have ha := hf _ _ ha rfl
    show OkX prog w G A' env k (setL (setL (setL (fun _ => none) "notes" (.ref N)) "stmt" (.ref a)) "line" (.int L)) (execs (bodyN 16) env) _
    refine vAssign V rfl (by decide +kernel) ?_
    repeat walk_at "v1"
    refine oIdxT rfl ha ⟨by decide, by decide⟩ (x := .str "assign") (pyIdx_pos (by decide) rfl) ?_
    refine vIf V ?_
    refine okC_call ?_
    repeat walk_at "v1"
    refine nojump g (V.r.le (by first | lia | omega)) ha (by decide +kernel) ?_
    refine ⟨false, rfl, fun hh => (nomatch hh), fun _ => ?_⟩
    repeat walk_at "v1"
    refine ⟨fun _ => ?_, fun hh => absurd rfl (of_decide_eq_false hh)⟩
    repeat walk_at "v1"
    refine oIdxT rfl (F0.fz _ _ ha rfl) ⟨by decide, by decide⟩ (x := gg) rfl ?_
    repeat walk_at "v1"
    refine (tgt_all g ht).run (hf.comp F0.fz) (V.r.le (by first | lia | omega)) (hN.fz F0.fz) B0 hb ho.left fun k1 B1 G1 => ?_
    have F1 := F0.comp G1
    repeat walk_at "v1"
    refine oIdxT rfl (F1.fz _ _ ha rfl) ⟨by decide, by decide⟩ (x := e) rfl ?_
    repeat walk_at "v1"
    refine (uses_one g he).run (hf.comp F1.fz) (V.r.le (by first | lia | omega)) (hN.fz F1.fz) B1 (hb.adds (by first | lia | omega) _) ho.right fun k2 B2 G2 => ?_
    have F2 := F1.comp G2
    repeat walk_at "v1"
    exact h _ (by rw [addEvs_app]; exact B2) F2
  | @lif a e j es1 es2 ha he hj =>
    refine okF_fn (n := 16) (d := 104) g rfl hR (by decide +kernel) rfl fun env A' V => ?_
    have W := V.g
    have ha := hf _ _ ha rfl
    show OkX prog w G A' env k (setL (setL (setL (fun _ => none) "notes" (.ref N)) "stmt" (.ref a)) "line" (.int L)) (execs (bodyN 16) env) _
    refine vAssign V rfl (by decide +kernel) ?_
    repeat walk_at "v1"
    refine oIdxT rfl ha ⟨by decide, by decide⟩ (x := .str "lif") (pyIdx_pos (by decide) rfl) ?_
    refine vIf V ?_
    refine okC_call ?_
    repeat walk_at "v1"
    refine nojump g (V.r.le (by first | lia | omega)) ha (by decide +kernel) ?_
    refine ⟨false, rfl, fun hh => (nomatch hh), fun _ => ?_⟩
    repeat walk_at "v1"
    refine ⟨fun hh => absurd (of_decide_eq_true hh) (by decide +kernel), fun _ => ?_⟩
    repeat walk_at "v1"
    refine ⟨fun _ => ?_, fun hh => absurd rfl (of_decide_eq_false hh)⟩
    repeat walk_at "v1"
    refine oIdxT rfl (F0.fz _ _ ha rfl) ⟨by decide, by decide⟩ (x := e) rfl ?_
    repeat walk_at "v1"
    refine (uses_one g he).run (hf.comp F0.fz) (V.r.le (by first | lia | omega)) (hN.fz F0.fz) B0 hb ho.left fun k1 B1 G1 => ?_
    have F1 := F0.comp G1
    repeat walk_at "v1"
    refine oIdxT rfl (F1.fz _ _ ha rfl) ⟨by decide, by decide⟩ (x := j) rfl ?_
    repeat walk_at "v1"
    refine stm_jump g hj (hf.comp F1.fz) (V.r.le (by first | lia | omega)) (hN.fz F1.fz) B1 (hb.adds (by first | lia | omega) _) ho.right fun k2 B2 G2 => ?_
    have F2 := F1.comp G2
    repeat walk_at "v1"
    exact h _ (by rw [addEvs_app]; exact B2) F2
  | @expr a t e es tm ha he =>
    refine okF_fn (n := 16) (d := 104) g rfl hR (by decide +kernel) rfl fun env A' V => ?_
    have W := V.g
    have q : ∀ t ∈ exprTags, t ∉ jumpTags ∧ t ≠ "assign" ∧ t ≠ "lif" ∧ t ∈ exprL := by decide +kernel
    refine cps fun qZ hZ => ?_
    obtain ⟨q1, q2, q3, q4⟩ := q t tm
    refine hZ ?_
    clear hZ qZ
    have ha := hf _ _ ha rfl
    show OkX prog w G A' env k (setL (setL (setL (fun _ => none) "notes" (.ref N)) "stmt" (.ref a)) "line" (.int L)) (execs (bodyN 16) env) _
    refine vAssign V rfl (by decide +kernel) ?_
    repeat walk_at "v1"
    refine oIdxT rfl ha ⟨by decide, by decide⟩ (x := .str t) (pyIdx_pos (by decide) rfl) ?_
    refine vIf V ?_
    refine okC_call ?_
    repeat walk_at "v1"
    refine nojump g (V.r.le (by first | lia | omega)) ha q1 ?_
    refine ⟨false, rfl, fun hh => (nomatch hh), fun _ => ?_⟩
    repeat walk_at "v1"
    refine ⟨fun hh => absurd (of_decide_eq_true hh) q2, fun _ => ?_⟩
    repeat walk_at "v1"
    refine ⟨fun hh => absurd (of_decide_eq_true hh) q3, fun _ => ?_⟩
    repeat walk_at "v1"
    refine ⟨by simp, fun c1 k1 N1 => ?_⟩
    have B1 := B0.new N1
    have F1 := F0.comp N1.bf
    repeat walk_at "v1"
    refine oInTup exprL N1.at rfl ?_
    repeat walk_at "v1"
    refine ⟨fun _ => ?_, fun hh => absurd q4 (of_decide_eq_false hh)⟩
    repeat walk_at "v1"
    refine oIdxT rfl (F1.fz _ _ ha rfl) ⟨by decide, by decide⟩ (x := e) rfl ?_
    repeat walk_at "v1"
    refine (uses_one g he).run (hf.comp F1.fz) (V.r.le (by first | lia | omega)) (hN.fz F1.fz) B1 hb ho fun k2 B2 G2 => ?_
    have F2 := F1.comp G2
    repeat walk_at "v1"
    exact h _ B2 F2
  | @quiet a t l tm ha =>
    refine okF_fn (n := 16) (d := 104) g rfl hR (by decide +kernel) rfl fun env A' V => ?_
    have W := V.g
    have q : ∀ t ∈ quietTags, t ∉ jumpTags ∧ t ≠ "assign" ∧ t ≠ "lif" ∧ t ∉ exprL ∧ t ≠ "call" ∧ t ≠ "entry" ∧ t ∉ ioL ∧ t ∉ ctlL2 := by decide +kernel
    refine cps fun qZ hZ => ?_
    obtain ⟨q1, q2, q3, q4, q5, q6, q7, q8⟩ := q t tm
    refine hZ ?_
    clear hZ qZ
    have ha := hf _ _ ha rfl
    show OkX prog w G A' env k (setL (setL (setL (fun _ => none) "notes" (.ref N)) "stmt" (.ref a)) "line" (.int L)) (execs (bodyN 16) env) _
    refine vAssign V rfl (by decide +kernel) ?_
    repeat walk_at "v1"
    refine oIdxT rfl ha ⟨by decide, by decide⟩ (x := .str t) (pyIdx_pos (by decide) rfl) ?_
    refine vIf V ?_
    refine okC_call ?_
    repeat walk_at "v1"
    refine nojump g (V.r.le (by first | lia | omega)) ha q1 ?_
    refine ⟨false, rfl, fun hh => (nomatch hh), fun _ => ?_⟩
    repeat walk_at "v1"
    refine ⟨fun hh => absurd (of_decide_eq_true hh) q2, fun _ => ?_⟩
    repeat walk_at "v1"
    refine ⟨fun hh => absurd (of_decide_eq_true hh) q3, fun _ => ?_⟩
    repeat walk_at "v1"
    refine ⟨by simp, fun c1 k1 N1 => ?_⟩
    have B1 := B0.new N1
    have F1 := F0.comp N1.bf
    repeat walk_at "v1"
    refine oInTup exprL N1.at rfl ?_
    repeat walk_at "v1"
    refine ⟨fun hh => absurd (of_decide_eq_true hh) q4, fun _ => ?_⟩
    repeat walk_at "v1"
    refine ⟨fun hh => absurd (of_decide_eq_true hh) q5, fun _ => ?_⟩
    repeat walk_at "v1"
    refine ⟨fun hh => absurd (of_decide_eq_true hh) q6, fun _ => ?_⟩
    repeat walk_at "v1"
    refine ⟨by simp, fun c2 k2 N2 => ?_⟩
    have B2 := B1.new N2
    have F2 := F1.comp N2.bf
    repeat walk_at "v1"
    refine oInTup ioL N2.at rfl ?_
    repeat walk_at "v1"
    refine ⟨fun hh => absurd (of_decide_eq_true hh) q7, fun _ => ?_⟩
    repeat walk_at "v1"
    refine ⟨by simp, fun c3 k3 N3 => ?_⟩
    have B3 := B2.new N3
    have F3 := F2.comp N3.bf
    repeat walk_at "v1"
    refine oInTup ctlL2 N3.at rfl ?_
    repeat walk_at "v1"
    refine ⟨fun hh => absurd (of_decide_eq_true hh) q8, fun _ => ?_⟩
    repeat walk_at "v1"
    exact h _ B3 F3
  | @call a n ll vs es ha hl he =>
    refine okF_fn (n := 16) (d := 104) g rfl hR (by decide +kernel) rfl fun env A' V => ?_
    have W := V.g
    have hl := hf _ _ hl rfl
    have ha := hf _ _ ha rfl
    show OkX prog w G A' env k (setL (setL (setL (fun _ => none) "notes" (.ref N)) "stmt" (.ref a)) "line" (.int L)) (execs (bodyN 16) env) _
    refine vAssign V rfl (by decide +kernel) ?_
    repeat walk_at "v1"
    refine oIdxT rfl ha ⟨by decide, by decide⟩ (x := .str "call") (pyIdx_pos (by decide) rfl) ?_
    refine vIf V ?_
    refine okC_call ?_
    repeat walk_at "v1"
    refine nojump g (V.r.le (by first | lia | omega)) ha (by decide +kernel) ?_
    refine ⟨false, rfl, fun hh => (nomatch hh), fun _ => ?_⟩
    repeat walk_at "v1"
    refine ⟨fun hh => absurd (of_decide_eq_true hh) (by decide +kernel), fun _ => ?_⟩
    repeat walk_at "v1"
    refine ⟨fun hh => absurd (of_decide_eq_true hh) (by decide +kernel), fun _ => ?_⟩
    repeat walk_at "v1"
    refine ⟨by simp, fun c1 k1 N1 => ?_⟩
    have B1 := B0.new N1
    have F1 := F0.comp N1.bf
    repeat walk_at "v1"
    refine oInTup exprL N1.at rfl ?_
    repeat walk_at "v1"
    refine ⟨fun hh => absurd (of_decide_eq_true hh) (by decide +kernel), fun _ => ?_⟩
    repeat walk_at "v1"
    refine ⟨fun _ => ?_, fun hh => absurd rfl (of_decide_eq_false hh)⟩
    repeat walk_at "v1"
    refine eAt1 g (by walk_at "lk") (hN.fz F1.fz) ?_
    repeat walk_at "v1"
    refine oIdxT rfl (F1.fz _ _ ha rfl) ⟨by decide, by decide⟩ (x := .str n) rfl ?_
    repeat walk_at "v1"
    refine note_s g (V.r.le (by first | lia | omega)) B1 (by first | lia | omega) ho.head hb fun k2 B2 G2 => ?_
    have F2 := F1.comp G2
    have hl2 := F2.fz _ _ hl rfl
    refine vForUses (D := D) (d1 := 10) (k0 := k0) (L := L) (f := addEv f 1 (.s n) L) V (by first | lia | omega) (by decide +kernel) (fun _ => rfl) ?_ (hb.add (by first | lia | omega) _ _) ho.tail (by walk_at "lk") (by walk_at "lk") (fun v k' m' Q m1 m2 m3 hQ => ?_) fun m' k' m1 B' F' => ?_
    · repeat walk_at "v1"
      refine oIdxT rfl (F2.fz _ _ ha rfl) ⟨by decide, by decide⟩ (x := .ref ll) rfl ?_
      exact ⟨_, _, src_list hl2 (.inl ⟨_, rfl⟩), fun k2 fz => ⟨_, fz _ _ hl2 rfl, .inl ⟨_, rfl⟩⟩, uses_all g he, hf.comp F2.fz, hN.fz F2.fz, B2, BF.refl⟩
    · repeat walk_at "v1"
      refine okF_mono hQ fun _ k2 q => ?_
      exact vNil q
    · repeat walk_at "v1"
      exact h _ B' (F2.comp F')
  | @entry a n x ha =>
    refine okF_fn (n := 16) (d := 104) g rfl hR (by decide +kernel) rfl fun env A' V => ?_
    have W := V.g
    have ha := hf _ _ ha rfl
    show OkX prog w G A' env k (setL (setL (setL (fun _ => none) "notes" (.ref N)) "stmt" (.ref a)) "line" (.int L)) (execs (bodyN 16) env) _
    refine vAssign V rfl (by decide +kernel) ?_
    repeat walk_at "v1"
    refine oIdxT rfl ha ⟨by decide, by decide⟩ (x := .str "entry") (pyIdx_pos (by decide) rfl) ?_
    refine vIf V ?_
    refine okC_call ?_
    repeat walk_at "v1"
    refine nojump g (V.r.le (by first | lia | omega)) ha (by decide +kernel) ?_
    refine ⟨false, rfl, fun hh => (nomatch hh), fun _ => ?_⟩
    repeat walk_at "v1"
    refine ⟨fun hh => absurd (of_decide_eq_true hh) (by decide +kernel), fun _ => ?_⟩
    repeat walk_at "v1"
    refine ⟨fun hh => absurd (of_decide_eq_true hh) (by decide +kernel), fun _ => ?_⟩
    repeat walk_at "v1"
    refine ⟨by simp, fun c1 k1 N1 => ?_⟩
    have B1 := B0.new N1
    have F1 := F0.comp N1.bf
    repeat walk_at "v1"
    refine oInTup exprL N1.at rfl ?_
    repeat walk_at "v1"
    refine ⟨fun hh => absurd (of_decide_eq_true hh) (by decide +kernel), fun _ => ?_⟩
    repeat walk_at "v1"
    refine ⟨fun hh => absurd (of_decide_eq_true hh) (by decide +kernel), fun _ => ?_⟩
    repeat walk_at "v1"
    refine ⟨fun _ => ?_, fun hh => absurd rfl (of_decide_eq_false hh)⟩
    repeat walk_at "v1"
    refine eAt0 g (by walk_at "lk") (hN.fz F1.fz) ?_
    repeat walk_at "v1"
    refine oIdxT rfl (F1.fz _ _ ha rfl) ⟨by decide, by decide⟩ (x := .str n) rfl ?_
    repeat walk_at "v1"
    refine note_s g (V.r.le (by first | lia | omega)) B1 (by first | lia | omega) ho.head hb fun k2 B2 G2 => ?_
    have F2 := F1.comp G2
    repeat walk_at "v1"
    exact h _ B2 F2
  | @inquire a c rows ev ha hc hnd hrl hct =>
    refine okF_fn (n := 16) (d := 104) g rfl hR (by decide +kernel) rfl fun env A' V => ?_
    have W := V.g
    have ha := hf _ _ ha rfl
    show OkX prog w G A' env k (setL (setL (setL (fun _ => none) "notes" (.ref N)) "stmt" (.ref a)) "line" (.int L)) (execs (bodyN 16) env) _
    refine vAssign V rfl (by decide +kernel) ?_
    repeat walk_at "v1"
    refine oIdxT rfl ha ⟨by decide, by decide⟩ (x := .str "inquire") (pyIdx_pos (by decide) rfl) ?_
    refine vIf V ?_
    refine okC_call ?_
    repeat walk_at "v1"
    refine nojump g (V.r.le (by first | lia | omega)) ha (by decide +kernel) ?_
    refine ⟨false, rfl, fun hh => (nomatch hh), fun _ => ?_⟩
    repeat walk_at "v1"
    refine ⟨fun hh => absurd (of_decide_eq_true hh) (by decide +kernel), fun _ => ?_⟩
    repeat walk_at "v1"
    refine ⟨fun hh => absurd (of_decide_eq_true hh) (by decide +kernel), fun _ => ?_⟩
    repeat walk_at "v1"
    refine ⟨by simp, fun c1 k1 N1 => ?_⟩
    have B1 := B0.new N1
    have F1 := F0.comp N1.bf
    repeat walk_at "v1"
    refine oInTup exprL N1.at rfl ?_
    repeat walk_at "v1"
    refine ⟨fun hh => absurd (of_decide_eq_true hh) (by decide +kernel), fun _ => ?_⟩
    repeat walk_at "v1"
    refine ⟨fun hh => absurd (of_decide_eq_true hh) (by decide +kernel), fun _ => ?_⟩
    repeat walk_at "v1"
    refine ⟨fun hh => absurd (of_decide_eq_true hh) (by decide +kernel), fun _ => ?_⟩
    repeat walk_at "v1"
    refine ⟨by simp, fun c2 k2 N2 => ?_⟩
    have B2 := B1.new N2
    have F2 := F1.comp N2.bf
    repeat walk_at "v1"
    refine oInTup ioL N2.at rfl ?_
    repeat walk_at "v1"
    refine ⟨fun hh => absurd (of_decide_eq_true hh) (by decide +kernel), fun _ => ?_⟩
    repeat walk_at "v1"
    refine ⟨by simp, fun c3 k3 N3 => ?_⟩
    have B3 := B2.new N3
    have F3 := F2.comp N3.bf
    repeat walk_at "v1"
    refine oInTup ctlL2 N3.at rfl ?_
    repeat walk_at "v1"
    refine ⟨fun _ => ?_, fun hh => absurd (by decide +kernel) (of_decide_eq_false hh)⟩
    repeat walk_at "v1"
    refine oIdxT rfl (F3.fz _ _ ha rfl) ⟨by decide, by decide⟩ (x := .ref c) rfl ?_
    repeat walk_at "v1"
    refine control_ok g (V.r.le (by first | lia | omega)) (hf.comp F3.fz) hc hrl hct (hN.fz F3.fz) B3 hb ho fun k4 B4 G4 => ?_
    have F4 := F3.comp G4
    repeat walk_at "v1"
    exact h _ B4 F4
  | @io a t b c rows ev items j es htb ha hc hnd hrl hct hj hi =>
    refine okF_fn (n := 16) (d := 104) g rfl hR (by decide +kernel) rfl fun env A' V => ?_
    have W := V.g
    rcases htb with ⟨rfl, rfl⟩ | ⟨rfl, rfl⟩
    · have ha := hf _ _ ha rfl
      show OkX prog w G A' env k (setL (setL (setL (fun _ => none) "notes" (.ref N)) "stmt" (.ref a)) "line" (.int L)) (execs (bodyN 16) env) _
      refine vAssign V rfl (by decide +kernel) ?_
      repeat walk_at "v1"
      refine oIdxT rfl ha ⟨by decide, by decide⟩ (x := .str "read") (pyIdx_pos (by decide) rfl) ?_
      refine vIf V ?_
      refine okC_call ?_
      repeat walk_at "v1"
      refine nojump g (V.r.le (by first | lia | omega)) ha (by decide +kernel) ?_
      refine ⟨false, rfl, fun hh => (nomatch hh), fun _ => ?_⟩
      repeat walk_at "v1"
      refine ⟨fun hh => absurd (of_decide_eq_true hh) (by decide +kernel), fun _ => ?_⟩
      repeat walk_at "v1"
      refine ⟨fun hh => absurd (of_decide_eq_true hh) (by decide +kernel), fun _ => ?_⟩
      repeat walk_at "v1"
      refine ⟨by simp, fun c1 k1 N1 => ?_⟩
      have B1 := B0.new N1
      have F1 := F0.comp N1.bf
      repeat walk_at "v1"
      refine oInTup exprL N1.at rfl ?_
      repeat walk_at "v1"
      refine ⟨fun hh => absurd (of_decide_eq_true hh) (by decide +kernel), fun _ => ?_⟩
      repeat walk_at "v1"
      refine ⟨fun hh => absurd (of_decide_eq_true hh) (by decide +kernel), fun _ => ?_⟩
      repeat walk_at "v1"
      refine ⟨fun hh => absurd (of_decide_eq_true hh) (by decide +kernel), fun _ => ?_⟩
      repeat walk_at "v1"
      refine ⟨by simp, fun c2 k2 N2 => ?_⟩
      have B2 := B1.new N2
      have F2 := F1.comp N2.bf
      repeat walk_at "v1"
      refine oInTup ioL N2.at rfl ?_
      repeat walk_at "v1"
      refine ⟨fun _ => ?_, fun hh => absurd (by decide +kernel) (of_decide_eq_false hh)⟩
      repeat walk_at "v1"
      refine oIdxT rfl (F2.fz _ _ ha rfl) ⟨by decide, by decide⟩ (x := .ref c) rfl ?_
      repeat walk_at "v1"
      refine control_ok g (V.r.le (by first | lia | omega)) (hf.comp F2.fz) hc hrl hct (hN.fz F2.fz) B2 hb ho.left fun k3 B3 G3 => ?_
      have F3 := F2.comp G3
      repeat walk_at "v1"
      refine oIdxT rfl (F3.fz _ _ ha rfl) ⟨by decide, by decide⟩ (x := items) rfl ?_
      repeat walk_at "v1"
      rw [show decide (Str.ofString "read" = Str.ofString "read") = true by decide +kernel]
      repeat walk_at "v1"
      refine (items_it g hi).run (hf.comp F3.fz) (V.r.le (by first | lia | omega)) (hN.fz F3.fz) B3 (hb.adds (by first | lia | omega) _) ho.right fun k4 B4 G4 => ?_
      have F4 := F3.comp G4
      repeat walk_at "v1"
      exact h _ (by rw [addEvs_app]; exact B4) F4
    · have ha := hf _ _ ha rfl
      show OkX prog w G A' env k (setL (setL (setL (fun _ => none) "notes" (.ref N)) "stmt" (.ref a)) "line" (.int L)) (execs (bodyN 16) env) _
      refine vAssign V rfl (by decide +kernel) ?_
      repeat walk_at "v1"
      refine oIdxT rfl ha ⟨by decide, by decide⟩ (x := .str "write") (pyIdx_pos (by decide) rfl) ?_
      refine vIf V ?_
      refine okC_call ?_
      repeat walk_at "v1"
      refine nojump g (V.r.le (by first | lia | omega)) ha (by decide +kernel) ?_
      refine ⟨false, rfl, fun hh => (nomatch hh), fun _ => ?_⟩
      repeat walk_at "v1"
      refine ⟨fun hh => absurd (of_decide_eq_true hh) (by decide +kernel), fun _ => ?_⟩
      repeat walk_at "v1"
      refine ⟨fun hh => absurd (of_decide_eq_true hh) (by decide +kernel), fun _ => ?_⟩
      repeat walk_at "v1"
      refine ⟨by simp, fun c1 k1 N1 => ?_⟩
      have B1 := B0.new N1
      have F1 := F0.comp N1.bf
      repeat walk_at "v1"
      refine oInTup exprL N1.at rfl ?_
      repeat walk_at "v1"
      refine ⟨fun hh => absurd (of_decide_eq_true hh) (by decide +kernel), fun _ => ?_⟩
      repeat walk_at "v1"
      refine ⟨fun hh => absurd (of_decide_eq_true hh) (by decide +kernel), fun _ => ?_⟩
      repeat walk_at "v1"
      refine ⟨fun hh => absurd (of_decide_eq_true hh) (by decide +kernel), fun _ => ?_⟩
      repeat walk_at "v1"
      refine ⟨by simp, fun c2 k2 N2 => ?_⟩
      have B2 := B1.new N2
      have F2 := F1.comp N2.bf
      repeat walk_at "v1"
      refine oInTup ioL N2.at rfl ?_
      repeat walk_at "v1"
      refine ⟨fun _ => ?_, fun hh => absurd (by decide +kernel) (of_decide_eq_false hh)⟩
      repeat walk_at "v1"
      refine oIdxT rfl (F2.fz _ _ ha rfl) ⟨by decide, by decide⟩ (x := .ref c) rfl ?_
      repeat walk_at "v1"
      refine control_ok g (V.r.le (by first | lia | omega)) (hf.comp F2.fz) hc hrl hct (hN.fz F2.fz) B2 hb ho.left fun k3 B3 G3 => ?_
      have F3 := F2.comp G3
      repeat walk_at "v1"
      refine oIdxT rfl (F3.fz _ _ ha rfl) ⟨by decide, by decide⟩ (x := items) rfl ?_
      repeat walk_at "v1"
      rw [show decide (Str.ofString "write" = Str.ofString "read") = false by decide +kernel]
      repeat walk_at "v1"
      refine (items_it g hi).run (hf.comp F3.fz) (V.r.le (by first | lia | omega)) (hN.fz F3.fz) B3 (hb.adds (by first | lia | omega) _) ho.right fun k4 B4 G4 => ?_
      have F4 := F3.comp G4
      repeat walk_at "v1"
      exact h _ (by rw [addEvs_app]; exact B4) F4
end

section
variable {prog : Program} {w : World} {G : Glob'} {A : Around} {k : KH} {P : PV → KH → Prop} {m : Loc} {env : Env} {sc : Scope} {d : Nat} {rest : List Stmt} {PX : Fl → Loc → KH → Prop}

theorem okX_frzs {k' : KH} {t : Sem Flow} (f : Frzs k k') (h : OkX prog w G A env k' m t PX) : OkX prog w G A env k m t PX := fun R O F s Q H q => h R O F s Q (H.frzs f) q
theorem okE_frzs {k' : KH} {t : Sem Value} (f : Frzs k k') (h : OkE prog w G A env k' m t P) : OkE prog w G A env k m t P := fun R O F s Q H q => h R O F s Q (H.frzs f) q
theorem okE_post {t : Sem Value} (h : OkE prog w G A env k m t fun v k' => ∃ k'', Frzs k' k'' ∧ P v k'') : OkE prog w G A env k m t P := fun R O F s Q H q => h R O F s Q H fun v h' tk' k' p H' => let ⟨k'', f, p⟩ := p; q v h' tk' k'' p (H'.frzs f)
noncomputable def Ext (k k' : KH) : Prop := ∀ a p, k a = some p → k' a = some p
theorem Ext.refl {k : KH} : Ext k k := fun _ _ e => e
theorem Ext.comp {k k' k'' : KH} (h : Ext k k') (h' : Ext k' k'') : Ext k k'' := fun a p e => h' a p (h a p e)
theorem New.ext {k k' : KH} {c : Addr} {p : PO} (N : New k c p k') : Ext k k' := fun _ _ e => N.get e
theorem Ext.fz {k k' : KH} (h : Ext k k') : Fz k k' := fun a p e _ => h a p e
/-- grown, or frozen -/
noncomputable def Le (k k' : KH) : Prop := ∀ a p, k a = some p → k' a = some p ∨ k' a = some p.fz
theorem Ext.le {k k' : KH} (h : Ext k k') : Le k k' := fun a p e => .inl (h a p e)
theorem fz_fz (p : PO) : p.fz.fz = p.fz := by cases p <;> rfl
theorem fz_of (p : PO) (h : p.frz = true) : p.fz = p := by cases p <;> simp_all [PO.frz, PO.fz]
theorem Le.comp {k k' k'' : KH} (h : Le k k') (h' : Le k' k'') : Le k k'' := fun a p e => by
  rcases h a p e with x | x
  · exact h' a p x
  · rcases h' a _ x with y | y
    · exact .inr y
    · rw [fz_fz] at y; exact .inr y
theorem Le.fz {k k' : KH} (h : Le k k') : Fz k k' := fun a p e f => by
  rcases h a p e with x | x
  · exact x
  · rw [fz_of p f] at x; exact x
theorem Frzs.le {k k' : KH} (h : Frzs k k') : Le k k' := fun a p e => by
  rcases h a with x | ⟨q, x, y⟩
  · exact .inl (x.trans e)
  · rw [e] at x; cases x; exact .inr y
/-- all is frozen, but for some places -/
noncomputable def frzBut (S : Addr → Prop) [DecidablePred S] (k : KH) : KH := fun a => if S a then k a else (k a).map PO.fz
theorem frzBut_frzs {S : Addr → Prop} [DecidablePred S] {k : KH} : Frzs k (frzBut S k) := fun a => by
  unfold frzBut
  by_cases h : S a
  · rw [if_pos h]; exact .inl rfl
  · rw [if_neg h]
    cases e : k a with
    | none => exact .inl rfl
    | some p => exact .inr ⟨p, rfl, rfl⟩

/-! a class's first dict -/
structure Ini (k0 k : KH) (x C dx : Addr) (es : List (Str × PV)) (L : List (Addr × PO)) : Prop where
  ob : k x = some (.inst C dx)
  di : k dx = some (.dictS false es)
  ext : ∀ a p, k0 a = some p → k a = some p ∧ a ≠ dx ∧ a ∉ L.map (·.1)
  tr : ∀ q, q ∈ L → k q.1 = some q.2 ∧ q.1 ≠ dx
  nd : (L.map (·.1)).Nodup
theorem Ini.start {k0 k2 k3 : KH} {x C dx : Addr} (N : New k0 dx (.dictS false []) k2) (N' : New k2 x (.inst C dx) k3) : Ini k0 k3 x C dx [] [] where
  ob := N'.at
  di := N'.get N.at
  ext := fun a p e => ⟨N'.get (N.get e), N.ne e, by simp⟩
  tr := fun q h => by cases h
  nd := by simp
theorem Ini.new {k0 k k' : KH} {x C dx c : Addr} {p : PO} {es : List (Str × PV)} {L : List (Addr × PO)} (I : Ini k0 k x C dx es L) (N : New k c p k') : Ini k0 k' x C dx es ((c, p) :: L) where
  ob := N.get I.ob
  di := N.get I.di
  ext := fun a q e => by
    obtain ⟨h1, h2, h3⟩ := I.ext a q e
    refine ⟨N.get h1, h2, ?_⟩
    rw [List.map_cons, List.mem_cons, not_or]
    exact ⟨N.ne h1, h3⟩
  tr := fun q h => by
    rcases List.mem_cons.mp h with e | e
    · subst e; exact ⟨N.at, fun z => by have := I.di; rw [← z] at this; exact N.ne this rfl⟩
    · exact ⟨N.get (I.tr q e).1, (I.tr q e).2⟩
  nd := by
    rw [List.map_cons, List.nodup_cons]
    refine ⟨fun h => ?_, I.nd⟩
    obtain ⟨q, hq, e⟩ := List.mem_map.mp h
    exact N.ne (I.tr q hq).1 e
theorem Ini.set {k0 k k' : KH} {x C dx : Addr} {es es' : List (Str × PV)} {L : List (Addr × PO)} (I : Ini k0 k x C dx es L) (U : Upd k dx (.dictS false es') k') : Ini k0 k' x C dx es' L where
  ob := by rw [U.ne (fun z => by have := I.ob; rw [z, I.di] at this; cases this)]; exact I.ob
  di := U.at
  ext := fun a q e => by
    obtain ⟨h1, h2, h3⟩ := I.ext a q e
    exact ⟨by rw [U.ne h2]; exact h1, h2, h3⟩
  tr := fun q h => ⟨by rw [U.ne (I.tr q h).2]; exact (I.tr q h).1, (I.tr q h).2⟩
  nd := I.nd
theorem vSelf (g : Prg G) {e : PySem.Expr} {attr : Str} {pp px pos : Pos} (V : EnvOk G env A sc d) (he : notComp e = true) {k0 : KH} {x C dx : Addr} {n : Nat} {c : Str} {es : List (Str × PV)} {L : List (Addr × PO)} (hC : ClsG G n c C) (I : Ini k0 k x C dx es L) (hf : attr ∈ fieldNames) (hself : m "self" = some (.ref x))
    {ns : List Str} (hks : es.map (·.1) = ns) (hn : attr ∉ ns) (hlen : es.length < 900)
    (h : OkE prog w G A env k m (eval e env) fun v k1 => ∃ L', Ini k0 k1 x C dx es L' ∧ ∀ k', Ini k0 k' x C dx (es ++ [(attr, v)]) L' → OkX prog w G A env k' m (execs rest env) PX) :
    OkX prog w G A env k m (execs (.Assign [.Attribute (.Name "self" pp) attr px] e pos :: rest) env) PX :=
  vAttrSet g V he (okE_mono h fun v k1 ⟨L', I1, h1⟩ => okE_Name hself (by decide +kernel) ⟨x, C, dx, es, n, c, rfl, I1.ob, hC, hf, I1.di, hlen, fun k' U => h1 k' (by
    rw [putK_new v (by rw [hks]; exact hn)] at U
    exact I1.set U)⟩)

/-- Notes() -/
theorem eNotes (g : Prg G) (W : EnvG env sc) {p pos : Pos} (hx : globOk sc "Notes" = true) (hR : Room A 3)
    (h : ∀ N D k', NotesAt G k' N D → Book k' D (fun _ _ => none) → Ext k k' → (∀ j, j < 4 → k (D j) = none) → P (.ref N) k') : OkE prog w G A env k m (eval (.Call (.Name "Notes" p) [] [] pos) env) P := by
  refine okE_post (okE_cls0 (n := 7) (d := 1) g W hx rfl hR (by decide +kernel) ⟨by decide +kernel, fun C x dx k2 k3 hC N2 N3 env' A' V => ?_⟩)
  have I := Ini.start N2 N3
  show OkX prog w G A' env' k3 (setL (fun _ => none) "self" (.ref x)) (execs (iBody 7) env') _
  refine vSelf g V rfl hC I (by decide +kernel) (by walk_at "lk") (ns := []) rfl (by decide +kernel) (by simp) ?_
  refine eDictS fun c0 k4 N4 => ⟨_, I.new N4, fun k5 I => ?_⟩
  refine vSelf g V rfl hC I (by decide +kernel) (by walk_at "lk") (ns := ["set_at"]) rfl (by decide +kernel) (by simp) ?_
  refine eDictS fun c1 k6 N6 => ⟨_, I.new N6, fun k7 I => ?_⟩
  refine vSelf g V rfl hC I (by decide +kernel) (by walk_at "lk") (ns := ["set_at", "used_at"]) rfl (by decide +kernel) (by simp) ?_
  refine eDictI fun c3 k8 N8 => ⟨_, I.new N8, fun k9 I => ?_⟩
  refine vSelf g V rfl hC I (by decide +kernel) (by walk_at "lk") (ns := ["set_at", "used_at", "defined"]) rfl (by decide +kernel) (by simp) ?_
  refine eDictI fun c2 k10 N10 => ⟨_, I.new N10, fun k11 I => ?_⟩
  refine vNil ⟨rfl, ?_⟩
  refine ⟨upd k11 dx (.dictS true _), frzs_one I.di, ?_⟩
  have e : ∀ p a, a ≠ dx → upd k11 dx p a = k11 a := fun p a ha => upd_ne ha
  have xd : x ≠ dx := fun z => by have := I.ob; rw [z, I.di] at this; cases this
  have t0 := I.tr (c0, .dictS false []) (by simp)
  have t1 := I.tr (c1, .dictS false []) (by simp)
  have t2 := I.tr (c2, .dictI false []) (by simp)
  have t3 := I.tr (c3, .dictI false []) (by simp)
  have nd := I.nd
  simp only [List.map_cons, List.map_nil, List.nodup_cons, List.mem_cons, List.not_mem_nil, or_false, not_or] at nd
  refine h x (fun j => if j = 0 then c0 else if j = 1 then c1 else if j = 2 then c2 else c3) _ ⟨C, dx, by rw [e _ _ xd]; exact I.ob, hC, upd_at⟩ ⟨fun _ _ => 0, ⟨fun j hj => ?_, fun j x l _ h => (by cases h), fun _ _ _ _ _ _ h => absurd rfl h, fun _ _ _ _ h => (by cases h), fun j j' hj hj' h => ?_⟩⟩ (fun a p ha => ?_) fun j hj => ?_
  · match j, hj with
    | 0, _ => exact .s (es := []) (by rw [e]; exact t0.1; exact t0.2) (by simp) (fun _ => rfl) fun _ => rfl
    | 1, _ => exact .s (es := []) (by rw [e]; exact t1.1; exact t1.2) (by simp) (fun _ => rfl) fun _ => rfl
    | 2, _ => exact .i (es := []) (by rw [e]; exact t2.1; exact t2.2) (by simp) (fun _ => rfl) fun _ => rfl
    | 3, _ => exact .i (es := []) (by rw [e]; exact t3.1; exact t3.2) (by simp) (fun _ => rfl) fun _ => rfl
  · refine cps fun qZ hZ => ?_
    obtain ⟨⟨n23, n21, n20⟩, ⟨n31, n30⟩, n10, _⟩ := nd
    refine hZ ?_
    clear hZ qZ
    match j, j', hj, hj' with
    | 0, 0, _, _ => rfl
    | 1, 1, _, _ => rfl
    | 2, 2, _, _ => rfl
    | 3, 3, _, _ => rfl
    | 0, 1, _, _ => exact absurd h.symm n10
    | 1, 0, _, _ => exact absurd h n10
    | 0, 2, _, _ => exact absurd h.symm n20
    | 2, 0, _, _ => exact absurd h n20
    | 0, 3, _, _ => exact absurd h.symm n30
    | 3, 0, _, _ => exact absurd h n30
    | 1, 2, _, _ => exact absurd h.symm n21
    | 2, 1, _, _ => exact absurd h n21
    | 1, 3, _, _ => exact absurd h.symm n31
    | 3, 1, _, _ => exact absurd h n31
    | 2, 3, _, _ => exact absurd h n23
    | 3, 2, _, _ => exact absurd h.symm n23
  · obtain ⟨h1, h2, _⟩ := I.ext a p ha
    rw [e _ _ h2]; exact h1
  · have fresh : ∀ c, c ∈ [c0, c1, c2, c3] → k c = none := fun c hc => by
      cases hk : k c with
      | none => rfl
      | some p =>
        have := (I.ext c p hk).2.2
        simp only [List.map_cons, List.map_nil, List.mem_cons, List.not_mem_nil, or_false, not_or] at this hc
        rcases hc with z | z | z | z
        · exact absurd z this.2.2.2
        · exact absurd z this.2.2.1
        · exact absurd z this.1
        · exact absurd z this.2.1
    match j, hj with
    | 0, _ => exact fresh _ (by simp)
    | 1, _ => exact fresh _ (by simp)
    | 2, _ => exact fresh _ (by simp)
    | 3, _ => exact fresh _ (by simp)
end

/-! what a value reads -/
mutual
inductive RD (k : KH) : PV → PyData → Prop
  | int {i} : RD k (.int i) (.int i)
  | str {x} : RD k (.str x) (.str x)
  | list {a fz vs ds} : k a = some (.list fz vs) → RDs k vs ds → RD k (.ref a) (.list ds)
  | tup {a vs ds} : k a = some (.tup vs) → RDs k vs ds → RD k (.ref a) (.tuple ds)
inductive RDs (k : KH) : List PV → List PyData → Prop
  | nil : RDs k [] []
  | cons {v d vs ds} : RD k v d → RDs k vs ds → RDs k (v :: vs) (d :: ds)
end
mutual
theorem RD.mono {k k' : KH} (f : Le k k') : ∀ {v d}, RD k v d → RD k' v d
  | _, _, .int => .int
  | _, _, .str => .str
  | _, _, .list e r => by
    rcases f _ _ e with x | x
    · exact .list x (RDs.mono f r)
    · exact .list x (RDs.mono f r)
  | _, _, .tup e r => by
    rcases f _ _ e with x | x
    · exact .tup x (RDs.mono f r)
    · exact .tup x (RDs.mono f r)
theorem RDs.mono {k k' : KH} (f : Le k k') : ∀ {v d}, RDs k v d → RDs k' v d
  | _, _, .nil => .nil
  | _, _, .cons h r => .cons (RD.mono f h) (RDs.mono f r)
end
theorem RDs.append {k : KH} : ∀ {vs ds vs' ds'}, RDs k vs ds → RDs k vs' ds' → RDs k (vs ++ vs') (ds ++ ds')
  | _, _, _, _, .nil, h => h
  | _, _, _, _, .cons a r, h => .cons a (r.append h)
theorem RDs.one {k : KH} {v d} (h : RD k v d) : RDs k [v] [d] := .cons h .nil
theorem RDs.ints {k : KH} : ∀ ns : List Int, RDs k (ns.map .int) (ns.map PyData.int)
  | [] => .nil
  | _ :: r => .cons .int (RDs.ints r)

noncomputable def All2 {α β : Type} (R : α → β → Prop) : List α → List β → Prop
  | [], [] => True
  | a :: as, b :: bs => R a b ∧ All2 R as bs
  | _, _ => False
theorem All2.mono {α β : Type} {R R' : α → β → Prop} (s : ∀ a b, R a b → R' a b) : ∀ {as bs}, All2 R as bs → All2 R' as bs
  | [], [], _ => trivial
  | _ :: _, _ :: _, ⟨h, r⟩ => ⟨s _ _ h, r.mono s⟩
theorem All2.snoc {α β : Type} {R : α → β → Prop} {a : α} {b : β} : ∀ {as bs}, All2 R as bs → R a b → All2 R (as ++ [a]) (bs ++ [b])
  | [], [], _, h => ⟨h, trivial⟩
  | _ :: _, _ :: _, ⟨h, r⟩, h' => ⟨h, r.snoc h'⟩

/-! the statements, as they are told -/
abbrev Hist := Int × List Ev × Int
noncomputable def evs (h : Hist) : List Ev := (if h.1 = 0 then [] else [(3, .i h.1)]) ++ h.2.1
noncomputable def stepR (f : Rec) (h : Hist) : Rec := addEvs f (evs h) h.2.2
noncomputable def foldR (hs : List Hist) : Rec := hs.foldl stepR fun _ _ => none
theorem foldR_snoc (hs : List Hist) (h : Hist) : foldR (hs ++ [h]) = addEvs (foldR hs) (evs h) h.2.2 := by unfold foldR; rw [List.foldl_append]; rfl
noncomputable def StAt (k : KH) (v : PV) (h : Hist) : Prop := ∃ a s, v = .ref a ∧ k a = some (.tup [.int h.1, s, .int h.2.2]) ∧ ST k 10 s h.2.1 ∧ evOk h.2.1 ∧ (h.1 = 0 ∨ 10 ≤ h.1 ∧ h.1 < 18)
theorem StAt.mono {k k' : KH} {v : PV} {h : Hist} (s : StAt k v h) (f : Fz k k') : StAt k' v h := let ⟨a, t, e1, e2, e3, e4, e5⟩ := s; ⟨a, t, e1, f _ _ e2 rfl, e3.mono f, e4, e5⟩
noncomputable def Len (f : Rec) (n : Nat) : Prop := ∀ j x l, f j x = some l → l.length ≤ n
theorem Len.adds {f : Rec} {n : Nat} (h : Len f n) (es : List Ev) (L : Int) : Len (addEvs f es L) (n + 1) := fun j x l e => by
  rw [addEvs_get] at e
  split at e
  · cases e
    cases hf : f j x with
    | none => simp [addL]
    | some l =>
      have := h j x l hf
      unfold addL
      dsimp only
      split
      · (first | lia | omega)
      · rw [List.length_append, List.length_singleton]; (first | lia | omega)
  · have := h j x l e
    (first | lia | omega)
theorem Len.fold : ∀ (hs : List Hist) {f : Rec} {n : Nat}, Len f n → Len (hs.foldl stepR f) (n + hs.length)
  | [], _, _, h => h
  | x :: hs, f, n, h => by
    have := Len.fold hs (h.adds (evs x) x.2.2)
    rw [List.length_cons, show n + (hs.length + 1) = n + 1 + hs.length by first | lia | omega]; exact this
theorem Len.bd {f : Rec} {n : Nat} {L : Int} (h : Len f n) (hn : n < 1000) : Bd f L 1000 := fun j x l e => by
  have := h j x l e
  split <;> (first | lia | omega)
theorem foldR_bd {hs : List Hist} {L : Int} (h : hs.length < 1000) : Bd (foldR hs) L 1000 := (Len.fold hs (f := fun _ _ => none) (n := 0) fun _ _ _ e => (by cases e)).bd (by first | lia | omega)

/-- what is left as it was, of all but lists of ints that are not frozen -/
noncomputable def keepC (p : PO) : Prop := ∀ i r, p ≠ .list false (.int i :: r)
noncomputable def Keep (k k' : KH) : Prop := ∀ a p, k a = some p → keepC p → k' a = some p
theorem Keep.fz {k k' : KH} (h : Keep k k') : Fz k k' := fun a p e f => h a p e fun i r z => by subst z; cases f
theorem Keep.comp {k k' k'' : KH} (h : Keep k k') (h' : Keep k' k'') : Keep k k'' := fun a p e c => h' a p (h a p e c) c
theorem Ext.keep {k k' : KH} (h : Ext k k') : Keep k k' := fun a p e _ => h a p e
theorem BF.keep {D : Nat → Addr} {k0 k k' : KH} (h : BF D k k') (E : Ext k0 k) (hD : ∀ j, j < 4 → k0 (D j) = none) : Keep k0 k' := fun a p e c => h a p (E a p e) (by
  have hne : ∀ j, j < 4 → a ≠ D j := fun j hj z => by rw [z, hD j hj] at e; cases e
  cases hf : p.frz with
  | true => exact .inl hf
  | false =>
    cases p with
    | list fz vs =>
      have : fz = false := hf
      subst this
      exact .inr (.inr (.inl ⟨vs, rfl, fun i r z => c i r (by rw [z])⟩))
    | wlist vs => exact .inr (.inl ⟨vs, rfl⟩)
    | dictS fz es =>
      have : fz = false := hf
      subst this
      exact .inr (.inr (.inr ⟨.inl ⟨es, rfl⟩, hne⟩))
    | dictI fz es =>
      have : fz = false := hf
      subst this
      exact .inr (.inr (.inr ⟨.inr ⟨es, rfl⟩, hne⟩))
    | _ => cases hf)

section
variable {prog : Program} {w : World} {G : Glob'} {A : Around} {k : KH} {P : PV → KH → Prop}
set_option maxHeartbeats 2000000 in
theorem notes_of_ok (g : Prg G) (hR : Room A 110) {sl : Addr} {vs : List PV} {hs : List Hist} (hk : k sl = some (.list true vs)) (hv : All2 (StAt k) vs hs) (hn : hs.length < 900)
    (h : ∀ N D k', NotesAt G k' N D → Book k' D (foldR hs) → Keep k k' → P (.ref N) k') : OkF prog w G A k "notes_of" [.ref sl] P := by
  refine okF_fn (n := 19) (d := 109) g rfl hR (by decide +kernel) rfl fun env A' V => ?_
  have W := V.g
  show OkX prog w G A' env k (setL (fun _ => none) "statements" (.ref sl)) (execs (bodyN 19) env) _
  refine vAssign V rfl (by decide +kernel) ?_
  refine eNotes g W (by decide +kernel) (V.r.le (by first | lia | omega)) fun N D k1 hN B E1 hD => ?_
  refine okX_sFor3 (fun its m' k' => ∃ ds rs, ds ++ rs = hs ∧ All2 (StAt k1) its rs ∧ Book k' D (foldR ds) ∧ BF D k1 k' ∧ m' "notes" = some (.ref N)) V.r.handled V.f (store_of V.s (by decide +kernel)) (store_of V.s (by decide +kernel)) (store_of V.s (by decide +kernel)) (fun _ => rfl) ?_ (fun v its m' k' hJ => ?_) (fun m' k' hJ => ?_)
  · repeat walk_at "v1"
    refine ⟨_, _, src_list (E1 _ _ hk) (.inl ⟨_, rfl⟩), ?_, ?_⟩
    · rintro its m' k' ⟨ds, rs, e1, e2, e3, e4, e5⟩
      exact ⟨_, e4.fz _ _ (E1 _ _ hk) rfl, .inl ⟨_, rfl⟩⟩
    · exact ⟨[], hs, rfl, hv.mono fun a b x => x.mono E1.fz, B, BF.refl, by walk_at "lk"⟩
  · refine cps fun qZ hZ => ?_
    obtain ⟨ds, rs, e1, e2, B, F0, m1⟩ := hJ
    refine hZ ?_
    clear hZ qZ
    match rs, e2 with
    | x :: rs, ⟨hst, q2⟩ =>
    refine cps fun qZ hZ => ?_
    obtain ⟨a, s, rfl, ha, hs1, ho, hlab⟩ := hst
    refine hZ ?_
    clear hZ qZ
    obtain ⟨lb, es, L⟩ := x
    dsimp only at ha hs1 ho hlab
    subst e1
    have hb : Bd (foldR ds) L 1000 := foldR_bd (by rw [List.length_append, List.length_cons] at hn; (first | lia | omega))
    refine ⟨a, _, _, _, rfl, F0.fz _ _ ha rfl, ?_⟩
    refine vIfJ (fun m2 k2 => m2 = setL (setL (setL m' "label" (.int lb)) "stmt" s) "line" (.int L) ∧ Book k2 D (addEvs (foldR ds) (if lb = 0 then [] else [(3, .i lb)]) L) ∧ BF D k1 k2) V ?_ ?_
    · repeat walk_at "v1"
      refine ⟨fun hh => ?_, fun hh => ?_⟩
      · have hl0 : lb ≠ 0 := by simpa using hh
        repeat walk_at "v1"
        refine eAt3 g (by walk_at "lk") (hN.fz F0.fz) ?_
        repeat walk_at "v1"
        refine note_i g (V.r.le (by first | lia | omega)) B (by first | lia | omega) (by first | lia | omega) ⟨by first | lia | omega, by first | lia | omega, by first | lia | omega, by first | lia | omega⟩ hb fun k2 B2 F2 => ?_
        repeat walk_at "v1"
        refine ⟨rfl, rfl, ?_, F0.comp F2⟩
        rw [if_neg hl0]; exact B2
      · have hl0 : lb = 0 := by simpa using hh
        repeat walk_at "v1"
        refine ⟨rfl, rfl, ?_, F0⟩
        rw [if_pos hl0]; exact B
    · rintro m2 k2 ⟨rfl, B2, F2⟩
      repeat walk_at "v1"
      refine (stm_all g hs1).run F2.fz (V.r.le (by first | lia | omega)) (hN.fz F2.fz) B2 (hb.adds (by first | lia | omega) _) ho fun k3 B3 F3 => ?_
      repeat walk_at "v1"
      refine ⟨ds ++ [(lb, es, L)], rs, by simp, q2, ?_, F2.comp F3, by walk_at "lk"⟩
      rw [foldR_snoc, evs, addEvs_app]; exact B3
  · refine cps fun qZ hZ => ?_
    obtain ⟨ds, rs, e1, e2, B, F0, m1⟩ := hJ
    refine hZ ?_
    clear hZ qZ
    match rs, e2 with
    | [], _ =>
    rw [List.append_nil] at e1
    subst e1
    repeat walk_at "v1"
    exact h N D _ (hN.fz F0.fz) B (BF.keep F0 E1 hD)
end

/-! reading, within some places -/
noncomputable def only (S : Addr → Prop) (k : KH) : KH := fun a => open Classical in if S a then k a else none
theorem only_at {S : Addr → Prop} {k : KH} {a : Addr} (h : S a) : only S k a = k a := by unfold only; rw [if_pos h]
theorem only_some {S : Addr → Prop} {k : KH} {a : Addr} {p : PO} (h : only S k a = some p) : S a ∧ k a = some p := by
  unfold only at h
  split at h
  · exact ⟨by assumption, h⟩
  · cases h
noncomputable def LeR (k k' : KH) : Prop := (∀ a fz vs, k a = some (.list fz vs) → ∃ fz', k' a = some (.list fz' vs)) ∧ ∀ a vs, k a = some (.tup vs) → k' a = some (.tup vs)
mutual
theorem RD.le {k k' : KH} (f : LeR k k') : ∀ {v d}, RD k v d → RD k' v d
  | _, _, .int => .int
  | _, _, .str => .str
  | _, _, .list e r => by
    obtain ⟨fz', x⟩ := f.1 _ _ _ e
    exact .list x (RDs.le f r)
  | _, _, .tup e r => .tup (f.2 _ _ e) (RDs.le f r)
theorem RDs.le {k k' : KH} (f : LeR k k') : ∀ {v d}, RDs k v d → RDs k' v d
  | _, _, .nil => .nil
  | _, _, .cons h r => .cons (RD.le f h) (RDs.le f r)
end
theorem LeR.only {S S' : Addr → Prop} {k k' : KH} (h : ∀ a p, S a → k a = some p → S' a ∧ k' a = some p) : LeR (only S k) (only S' k') :=
  ⟨fun a fz vs e => by
    obtain ⟨x, y⟩ := only_some e
    obtain ⟨z, u⟩ := h _ _ x y
    exact ⟨fz, by rw [only_at z]; exact u⟩, fun a vs e => by
    obtain ⟨x, y⟩ := only_some e
    obtain ⟨z, u⟩ := h _ _ x y
    rw [only_at z]; exact u⟩
theorem Le.r {k k' : KH} (h : Le k k') : LeR k k' :=
  ⟨fun a fz vs e => by
    rcases h a _ e with x | x
    · exact ⟨_, x⟩
    · exact ⟨_, x⟩, fun a vs e => by
    rcases h a _ e with x | x
    · exact x
    · exact x⟩
theorem LeR.comp {k k' k'' : KH} (h : LeR k k') (h' : LeR k' k'') : LeR k k'' := ⟨fun a fz vs e => let ⟨_, x⟩ := h.1 a fz vs e; h'.1 _ _ _ x, fun a vs e => h'.2 _ _ (h.2 _ _ e)⟩
theorem LeR.all {S : Addr → Prop} {k : KH} : LeR (Mine.only S k) k := ⟨fun a fz vs e => ⟨fz, (only_some e).2⟩, fun a vs e => (only_some e).2⟩

noncomputable def intsD (l : Option (List Int)) : PyData := .list ((l.getD []).map .int)
/-- a list of lines, or a new one -/
noncomputable def GotL (k0 k : KH) (adr : Nat → Key → Addr) (f : Rec) (j : Nat) (x : Key) (v : PV) (k' : KH) : Prop := ∃ a, v = .ref a ∧ k' a = some (.list false (((f j x).getD []).map .int)) ∧ (k a = none ∨ a = adr j x ∧ f j x ≠ none)

section
variable {prog : Program} {w : World} {G : Glob'} {A : Around} {k : KH} {P : PV → KH → Prop} {m : Loc} {env : Env} {sc : Scope} {d : Nat} {rest : List Stmt} {PX : Fl → Loc → KH → Prop}

theorem eGetS (g : Prg G) {o e : PySem.Expr} {apos lp pos : Pos} {j : Nat} {x : Str} {k0 : KH} {D : Nat → Addr} {f : Rec} {adr : Nat → Key → Addr} (ho : notCall o = true) (he : notStar e = true) (hline : (apos.endLine == pos.line) = true) (B : Book0 k0 D f adr) (E : Ext k0 k) (hj : j < 2)
    (h1 : ∀ P' : PV → KH → Prop, P' (.ref (D j)) k → OkE prog w G A env k m (eval o env) P') (h2 : ∀ P' : PV → KH → Prop, P' (.str x) k → OkE prog w G A env k m (eval e env) P')
    (h : ∀ v c k', New k c (.list false []) k' → GotL k0 k adr f j (.s x) v k' → P v k') : OkE prog w G A env k m (eval (.Call (.Attribute o "get" apos) [e, .List [] lp] [] pos) env) P := by
  refine cps fun qZ hZ => ?_
  obtain ⟨es, a1, a2, a3, a4, a5⟩ := B.dS hj
  refine hZ ?_
  clear hZ qZ
  refine okE_get g.good ho he rfl hline (h1 _ ⟨D j, rfl, .inl ⟨false, es, E _ _ a1, h2 _ (eListM (okEs_nil ⟨by simp, fun c k' N => ⟨x, rfl, N.get (E _ _ a1), h _ c k' N ?_⟩⟩))⟩⟩)
  rw [a3, refAt]
  cases hf : f j (.s x) with
  | none => exact ⟨c, rfl, by rw [hf]; exact N.at, .inl N.old⟩
  | some l => exact ⟨adr j (.s x), rfl, by rw [hf]; exact N.get (E _ _ (B.list j _ l (by first | lia | omega) hf)), .inr ⟨rfl, by rw [hf]; simp⟩⟩
theorem eGetI (g : Prg G) {o e : PySem.Expr} {apos lp pos : Pos} {j : Nat} {x : Int} {k0 : KH} {D : Nat → Addr} {f : Rec} {adr : Nat → Key → Addr} (ho : notCall o = true) (he : notStar e = true) (hline : (apos.endLine == pos.line) = true) (B : Book0 k0 D f adr) (E : Ext k0 k) (hj2 : 2 ≤ j) (hj : j < 4)
    (h1 : ∀ P' : PV → KH → Prop, P' (.ref (D j)) k → OkE prog w G A env k m (eval o env) P') (h2 : ∀ P' : PV → KH → Prop, P' (.int x) k → OkE prog w G A env k m (eval e env) P')
    (h : ∀ v c k', New k c (.list false []) k' → GotL k0 k adr f j (.i x) v k' → P v k') : OkE prog w G A env k m (eval (.Call (.Attribute o "get" apos) [e, .List [] lp] [] pos) env) P := by
  refine cps fun qZ hZ => ?_
  obtain ⟨es, a1, a2, a3, a4, a5⟩ := B.dI hj2 hj
  refine hZ ?_
  clear hZ qZ
  refine okE_get g.good ho he rfl hline (h1 _ ⟨D j, rfl, .inr ⟨false, es, E _ _ a1, h2 _ (eListM (okEs_nil ⟨by simp, fun c k' N => ⟨x, rfl, N.get (E _ _ a1), h _ c k' N ?_⟩⟩))⟩⟩)
  rw [a3, refAt]
  cases hf : f j (.i x) with
  | none => exact ⟨c, rfl, by rw [hf]; exact N.at, .inl N.old⟩
  | some l => exact ⟨adr j (.i x), rfl, by rw [hf]; exact N.get (E _ _ (B.list j _ l (by first | lia | omega) hf)), .inr ⟨rfl, by rw [hf]; simp⟩⟩
end

/-! the units -/
abbrev Sym := Str × Int × Str
structure UnitD where
  name : Str
  syms : List Sym
  hs : List Hist
noncomputable def SymAt (G : Glob') (k : KH) (row : Str × PV) (s : Sym) : Prop := row.1 = s.1 ∧ ∃ x C dx es, row.2 = .ref x ∧ k x = some (.inst C dx) ∧ ClsG G 22 "Symbol" C ∧ k dx = some (.dictS true es) ∧ es.lookup ("kind" : Str) = some (.int s.2.1) ∧ es.lookup ("use" : Str) = some (.str s.2.2)
theorem SymAt.mono {G k k' row s} (h : SymAt G k row s) (f : Fz k k') : SymAt G k' row s := let ⟨e, x, C, dx, es, a, b, c, d, e1, e2⟩ := h; ⟨e, x, C, dx, es, a, f _ _ b rfl, c, f _ _ d rfl, e1, e2⟩
noncomputable def UnitAt (G : Glob') (k : KH) (v : PV) (u : UnitD) : Prop := ∃ x C dx es sd sl rows vs, v = .ref x ∧ k x = some (.inst C dx) ∧ ClsG G 23 "UnitTree" C ∧ k dx = some (.dictS true es) ∧ es.lookup ("name" : Str) = some (.str u.name) ∧ es.lookup ("symbols" : Str) = some (.ref sd) ∧ es.lookup ("statements" : Str) = some (.ref sl) ∧
  k sd = some (.dictS true rows) ∧ All2 (SymAt G k) rows u.syms ∧ k sl = some (.list true vs) ∧ All2 (StAt k) vs u.hs
theorem UnitAt.mono {G k k' v u} (h : UnitAt G k v u) (f : Fz k k') : UnitAt G k' v u := let ⟨x, C, dx, es, sd, sl, rows, vs, a, b, c, d, e1, e2, e3, e4, e5, e6, e7⟩ := h; ⟨x, C, dx, es, sd, sl, rows, vs, a, f _ _ b rfl, c, f _ _ d rfl, e1, e2, e3, f _ _ e4 rfl, e5.mono fun _ _ x => x.mono f, f _ _ e6 rfl, e7.mono fun _ _ x => x.mono f⟩
structure SymOk (syms : List Sym) : Prop where
  nd : (syms.map (·.1)).Nodup
  srt : ∀ ns : List Str, ns.Perm (syms.map (·.1)) → sortedS ns = true → ns = syms.map (·.1)
  few : syms.length < 60
noncomputable def rowD (f : Rec) (s : Sym) : Option PyData := if (f 0 (.s s.1)).isSome || (f 1 (.s s.1)).isSome then some (.tuple [.str s.1, .int s.2.1, .str s.2.2, intsD (f 0 (.s s.1)), intsD (f 1 (.s s.1))]) else none
noncomputable def rowsD (f : Rec) (syms : List Sym) : List PyData := syms.filterMap (rowD f)
/-- what a call may read: what it has made, and the lists of the record -/
noncomputable def SB (k : KH) (adr : Nat → Key → Addr) (f : Rec) (a : Addr) : Prop := k a = none ∨ ∃ j x, j < 4 ∧ f j x ≠ none ∧ a = adr j x

theorem symAt_keys {G k} : ∀ {rows : List (Str × PV)} {syms : List Sym}, All2 (SymAt G k) rows syms → rows.map (·.1) = syms.map (·.1)
  | [], [], _ => rfl
  | _ :: _, _ :: _, ⟨h, r⟩ => by rw [List.map_cons, List.map_cons, h.1, symAt_keys r]
theorem symAt_at {G k} : ∀ {rows : List (Str × PV)} {syms ds rs : List Sym} {s : Sym}, All2 (SymAt G k) rows syms → (syms.map (·.1)).Nodup → ds ++ s :: rs = syms → ∃ v, rows.lookup s.1 = some v ∧ SymAt G k (s.1, v) s
  | [], [], [], _, _, _, _, e => by cases e
  | [], [], _ :: _, _, _, _, _, e => by cases e
  | r :: rows, _ :: syms, [], rs, s, ⟨h, t⟩, nd, e => by
    cases e
    refine ⟨r.2, ?_, ?_⟩
    · rw [List.lookup_cons, h.1]; simp
    · obtain ⟨h1, h2⟩ := h
      exact ⟨rfl, h2⟩
  | r :: rows, y :: syms, x :: ds, rs, s, ⟨h, t⟩, nd, e => by
    rw [List.cons_append, List.cons.injEq] at e
    rw [List.map_cons, List.nodup_cons] at nd
    obtain ⟨v, a, b⟩ := symAt_at t nd.2 e.2
    refine ⟨v, ?_, b⟩
    rw [List.lookup_cons, h.1]
    have : (s.1 == y.1) = false := by
      rw [beq_eq_false_iff_ne]
      intro z
      exact nd.1 (by rw [← z, ← e.2]; simp)
    rw [this]; exact a

theorem LeR.only' {S : Addr → Prop} {k k' : KH} (h : ∀ a p, S a → k a = some p → k' a = some p) : LeR (Mine.only S k) (Mine.only S k') := LeR.only fun a p x e => ⟨x, h a p x e⟩
/-- the places of a list of rows that is being made at c -/
noncomputable def SC (k : KH) (adr : Nat → Key → Addr) (f : Rec) (c : Addr) (a : Addr) : Prop := a ≠ c ∧ SB k adr f a
theorem GotL.rd {k0 k k' : KH} {adr : Nat → Key → Addr} {f : Rec} {j : Nat} {x : Key} {v : PV} {c : Addr} {D : Nat → Addr} (h : GotL k0 k adr f j x v k') (B : Book0 k0 D f adr) (hj : j < 4) (E : Ext k0 k) (hc : k c ≠ none) (hc0 : k0 c = none) : RD (only (SC k0 adr f c) k') v (intsD (f j x)) := by
  refine cps fun qZ hZ => ?_
  obtain ⟨a, rfl, ha, hs⟩ := h
  refine hZ ?_
  clear hZ qZ
  refine .list (fz := false) ?_ (RDs.ints _)
  rw [only_at, ha]
  rcases hs with z | ⟨z, z'⟩
  · refine ⟨fun e => hc (by rw [← e]; exact z), .inl ?_⟩
    cases hk : k0 a with
    | none => rfl
    | some p => rw [E _ _ hk] at z; cases z
  · refine ⟨fun e => ?_, .inr ⟨j, x, hj, z', z⟩⟩
    cases hf : f j x with
    | none => exact z' hf
    | some l =>
      have := B.list j x l hj hf
      rw [← z, e, hc0] at this; cases this
theorem book_isSome {k : KH} {D : Nat → Addr} {f : Rec} {adr : Nat → Key → Addr} {j : Nat} {x : Key} : (refAt f adr j x).isSome = (f j x).isSome := by unfold refAt; cases f j x <;> rfl
theorem Upd.fz {k k' : KH} {c : Addr} {p q : PO} (U : Upd k c p k') (h : k c = some q) (hf : q.frz = false) : Fz k k' := (U.trans h hf).fz

noncomputable def nrFor : Stmt := (bodyN 17).getD 1 (.Pass default)
noncomputable def nrBody : List Stmt := match nrFor with | .For _ _ (_ :: .If _ b _ _ :: _) .. => b | _ => []
noncomputable def nrRest : List Stmt := (bodyN 17).drop 2
section
variable {prog : Program} {w : World} {G : Glob'} {A : Around} {k : KH} {P : PV → KH → Prop}

set_option maxHeartbeats 4000000 in
theorem name_rows_ok (g : Prg G) (hR : Room A 3) {ux N : Addr} {u : UnitD} {D : Nat → Addr} {f : Rec} {adr : Nat → Key → Addr} (hu : UnitAt G k (.ref ux) u) (so : SymOk u.syms) (hN : NotesAt G k N D) (B : Book0 k D f adr)
    (h : ∀ c k', Ext k k' → k c = none → RD (only (SB k adr f) k') (.ref c) (.list (rowsD f u.syms)) → P (.ref c) k') : OkF prog w G A k "name_rows" [.ref ux, .ref N] P := by
  refine okF_fn (n := 17) (d := 2) g rfl hR (by decide +kernel) rfl fun env A' V => ?_
  have W := V.g
  refine cps fun qZ hZ => ?_
  obtain ⟨x, C, dx, es, sd, sl, rows, vs, e0, hx, hC, hdx, l1, l2, l3, hsd, hsy, hsl, hst⟩ := hu
  refine hZ ?_
  clear hZ qZ
  cases e0
  show OkX prog w G A' env k (setL (setL (fun _ => none) "unit" (.ref ux)) "notes" (.ref N)) (execs (bodyN 17) env) _
  refine vAssign V rfl (by decide +kernel) ?_
  refine eListM (okEs_nil ⟨by simp, fun c k1 N1 => ?_⟩)
  have hkeys : rows.map (·.1) = u.syms.map (·.1) := symAt_keys hsy
  refine okX_sForG V.r.handled V.f (store_of V.s (by decide +kernel)) (fun _ => rfl) ?_
  refine okE_sortedS g W V.r.handled (by decide +kernel) (by decide +kernel) ?_
  refine okE_Attr g rfl (by with_unfolding_all rfl) ?_
  repeat walk_at "v1"
  refine ⟨ux, C, dx, true, es, _, _, _, rfl, N1.get hx, hC, N1.get hdx, by decide +kernel, l2, (fun z => nomatch z), ?_⟩
  refine ⟨sd, true, rows, rfl, N1.get hsd, ?_, fun ns hp hs => ⟨_, .inl ⟨true, rfl⟩, fun c2 k2 N2 => ?_⟩⟩
  · have := congrArg List.length hkeys
    rw [List.length_map, List.length_map] at this
    have := so.few
    (first | lia | omega)
  rw [hkeys] at hp
  have hns := so.srt ns hp hs
  subst hns
  refine ⟨_, _, fun its m' k' => ∃ ds rs vs, ds ++ rs = u.syms ∧ its = (rs.map (·.1)).map .str ∧ Ext k k' ∧ Fz k2 k' ∧ k' c = some (.list false vs) ∧ RDs (only (SC k adr f c) k') vs (rowsD f ds) ∧ vs.length ≤ ds.length ∧ m' "unit" = some (.ref ux) ∧ m' "notes" = some (.ref N) ∧ m' "rows" = some (.ref c),
    src_list N2.at (.inl ⟨_, rfl⟩), ?_, ?_, ?_, ?_⟩
  · rintro its m' k' ⟨ds, rs, vs, e1, e2, e3, e4, e5⟩
    exact ⟨_, e4 _ _ N2.at rfl, .inl ⟨_, rfl⟩⟩
  · exact ⟨[], u.syms, [], rfl, rfl, N1.ext.comp N2.ext, Fz.refl, N2.get N1.at, .nil, Nat.le_refl _, by walk_at "lk", by walk_at "lk", by walk_at "lk"⟩
  · rintro v its m' k' ⟨ds, rs, ls, e1, e2, E, F, hc, hrd, hlen, m1, m2, m3⟩
    match rs, e2 with
    | s :: rs, e2 =>
    rw [List.map_cons, List.map_cons, List.cons.injEq] at e2
    obtain ⟨rfl, rfl⟩ := e2
    obtain ⟨v, hv, hsym⟩ := symAt_at hsy so.nd e1
    refine cps fun qZ hZ => ?_
    obtain ⟨_, xs, Cs, dxs, ess, ev, hxs, hCs, hdxs, lk, lu⟩ := hsym
    refine hZ ?_
    clear hZ qZ
    dsimp only at ev
    subst ev
    have hN' := hN.fz E.fz
    refine cps fun qZ hZ => ?_
    obtain ⟨es0, b1, b2, b3, b4, b5⟩ := B.dS (show 0 < 2 by first | lia | omega)
    refine hZ ?_
    clear hZ qZ
    refine cps fun qZ hZ => ?_
    obtain ⟨es1, c1, c2', c3, c4, c5⟩ := B.dS (show 1 < 2 by first | lia | omega)
    refine hZ ?_
    clear hZ qZ
    refine vAssign V rfl (by decide +kernel) ?_
    repeat walk_at "v1"
    refine okE_Attr g rfl (by with_unfolding_all rfl) ?_
    repeat walk_at "v1"
    refine ⟨ux, C, dx, true, es, _, _, _, rfl, E _ _ hx, hC, E _ _ hdx, by decide +kernel, l2, (fun z => nomatch z), ?_⟩
    repeat walk_at "v1"
    refine oIdxS rfl (E _ _ hsd) hv ?_
    generalize hmm : setL (setL m' "name" (.str s.1)) "symbol" (.ref xs) = mm
    have n1 : mm "unit" = some (.ref ux) := by rw [← hmm]; walk_at "lk"
    have n2 : mm "notes" = some (.ref N) := by rw [← hmm]; walk_at "lk"
    have n3 : mm "rows" = some (.ref c) := by rw [← hmm]; walk_at "lk"
    have n4 : mm "name" = some (.str s.1) := by rw [← hmm]; walk_at "lk"
    have n5 : mm "symbol" = some (.ref xs) := by rw [← hmm]; walk_at "lk"
    have kc0 : k c = none := N1.old
    have run : ((f 0 (.s s.1)).isSome || (f 1 (.s s.1)).isSome) = true → OkX prog w G A' env k' mm (execs nrBody env) (Seq prog w G A' env [] (LoopQ (fun its m' k' => ∃ ds rs vs, ds ++ rs = u.syms ∧ its = (rs.map (·.1)).map .str ∧ Ext k k' ∧ Fz k2 k' ∧ k' c = some (.list false vs) ∧ RDs (only (SC k adr f c) k') vs (rowsD f ds) ∧ vs.length ≤ ds.length ∧ m' "unit" = some (.ref ux) ∧ m' "notes" = some (.ref N) ∧ m' "rows" = some (.ref c)) (Seq prog w G A' env nrRest fun fl x k' => P (retOf fl) k') ((rs.map (·.1)).map .str))) := fun hin => by
      refine vExpr V rfl ?_
      refine okE_append (by decide +kernel) (by decide +kernel) (by decide +kernel) ?_
      repeat walk_at "v1"
      refine ⟨c, ls, false, rfl, hc, ?_⟩
      refine eTup ?_
      repeat walk_at "v1"
      refine okE_Attr g rfl (by with_unfolding_all rfl) ?_
      repeat walk_at "v1"
      refine ⟨xs, Cs, dxs, true, ess, _, _, _, rfl, E _ _ hxs, hCs, E _ _ hdxs, by decide +kernel, lk, (fun z => nomatch z), ?_⟩
      refine okEs_cons rfl ?_
      refine okE_Attr g rfl (by with_unfolding_all rfl) ?_
      repeat walk_at "v1"
      refine ⟨xs, Cs, dxs, true, ess, _, _, _, rfl, E _ _ hxs, hCs, E _ _ hdxs, by decide +kernel, lu, (fun z => nomatch z), ?_⟩
      refine okEs_cons rfl ?_
      refine eGetS g (j := 0) (x := s.1) rfl rfl rfl B E (by first | lia | omega) (fun P' hp => eAt0 g n2 hN' hp) (fun P' hp => okE_Name n4 (by decide +kernel) hp) fun v1 g1 k3 M1 L1 => ?_
      refine okEs_cons rfl ?_
      refine eGetS g (j := 1) (x := s.1) rfl rfl rfl B (E.comp M1.ext) (by first | lia | omega) (fun P' hp => eAt1 g n2 (hN'.fz M1.fz) hp) (fun P' hp => okE_Name n4 (by decide +kernel) hp) fun v2 g2 k4 M2 L2 => ?_
      refine okEs_nil ⟨by simp, fun t k5 M3 => ?_⟩
      have hc5 : k5 c = some (.list false ls) := M3.get (M2.get (M1.get hc))
      refine ⟨ls, hc5, sz_le (by have := so.few; rw [← e1, List.length_append] at this; (first | lia | omega)), fun k6 U => ?_⟩
      have r1 := L1.rd B (by first | lia | omega) E (by rw [hc]; exact fun z => nomatch z) kc0
      have r2 := L2.rd B (by first | lia | omega) (E.comp M1.ext) (by rw [M1.get hc]; exact fun z => nomatch z) kc0
      have E5 : Ext k' k5 := M1.ext.comp (M2.ext.comp M3.ext)
      have up : ∀ {kk : KH}, Ext kk k5 → LeR (only (SC k adr f c) kk) (only (SC k adr f c) k6) := fun e => LeR.only' fun a p hS ha => by rw [U.ne hS.1]; exact e _ _ ha
      have ht : only (SC k adr f c) k6 t = some (.tup [.str s.1, .int s.2.1, .str s.2.2, v1, v2]) := by
        have tc : t ≠ c := fun z => M3.ne (M2.get (M1.get hc)) z.symm
        have tn : k t = none := by
          cases hk : k t with
          | none => rfl
          | some p => exact absurd rfl (M3.ne (M2.get (M1.get (E _ _ hk))))
        rw [only_at ⟨tc, .inl tn⟩, U.ne tc]; exact M3.at
      refine vNil (seq_next (vNil ⟨ds ++ [s], rs, ls ++ [.ref t], by simp [e1], rfl, fun a p ha => ?_, ?_, U.at, ?_, by simp; exact hlen, n1, n2, n3⟩))
      · rw [U.ne (fun z => by rw [z, kc0] at ha; cases ha)]; exact E5 _ _ (E _ _ ha)
      · exact F.comp (E5.fz.comp (U.fz hc5 rfl))
      · rw [rowsD, List.filterMap_append]
        refine (RDs.le (up E5) hrd).append ?_
        rw [List.filterMap_cons, List.filterMap_nil, rowD, if_pos hin]
        exact RDs.one (.tup ht (.cons .str (.cons .int (.cons .str (.cons (RD.le (up (M2.ext.comp M3.ext)) r1) (.cons (RD.le (up M3.ext) r2) .nil))))))
    refine vIf V ?_
    refine okC_Bool ?_
    refine okC_orc ?_
    refine okC_Cmp rfl ?_
    repeat walk_at "v1"
    refine eAt0 g n2 hN' ?_
    refine oInS g (E _ _ b1) ?_
    rw [b3, book_isSome (k := k) (D := D)]
    repeat walk_at "v1"
    refine ⟨fun hh => ⟨fun _ => run (by rw [hh]; rfl), fun hh => nomatch hh⟩, fun h0 => ?_⟩
    refine okC_orc ?_
    refine okC_Cmp rfl ?_
    repeat walk_at "v1"
    refine eAt1 g n2 hN' ?_
    refine oInS g (E _ _ c1) ?_
    rw [c3, book_isSome (k := k) (D := D)]
    repeat walk_at "v1"
    refine ⟨fun hh => ⟨fun _ => run (by rw [hh]; simp), fun hh => nomatch hh⟩, fun h1 => ?_⟩
    repeat walk_at "v1"
    refine ⟨fun hh => (nomatch hh), fun _ => ?_⟩
    refine vNil (seq_next (vNil ⟨ds ++ [s], rs, ls, by simp [e1], rfl, E, F, hc, ?_, by simp; (first | lia | omega), n1, n2, n3⟩))
    have hnone : rowD f s = none := by unfold rowD; rw [h0, h1]; rfl
    rw [rowsD, List.filterMap_append, List.filterMap_cons, hnone]
    show RDs _ _ (rowsD f ds ++ [])
    rw [List.append_nil]; exact hrd
  · rintro m' k' ⟨ds, rs, ls, e1, e2, E, F, hc, hrd, hlen, m1, m2, m3⟩
    match rs, e2 with
    | [], _ =>
    rw [List.append_nil] at e1
    repeat walk_at "v1"
    refine h c k' E N1.old (.list (fz := false) (by rw [only_at (.inl N1.old)]; exact hc) ?_)
    rw [← e1]
    exact RDs.le (LeR.only fun a p hS ha => ⟨hS.2, ha⟩) hrd
end

/-- the labels of a record, in order -/
structure Labs (f : Rec) (ns : List Int) : Prop where
  srt : ns.Pairwise (· ≤ ·)
  nd : ns.Nodup
  mem : ∀ n, n ∈ ns ↔ f 2 (.i n) ≠ none ∨ f 3 (.i n) ≠ none
theorem perm_of {l1 l2 : List Int} (h1 : l1.Nodup) (h2 : l2.Nodup) (h : ∀ a, a ∈ l1 ↔ a ∈ l2) : l1.Perm l2 := by
  rw [List.perm_iff_count]
  intro a
  rw [h1.count, h2.count]
  by_cases ha : a ∈ l1
  · rw [if_pos ha, if_pos ((h a).mp ha)]
  · rw [if_neg ha, if_neg fun z => ha ((h a).mpr z)]
theorem Labs.uniq {f : Rec} {ns ns' : List Int} (h : Labs f ns) (h' : Labs f ns') : ns = ns' :=
  List.Perm.eq_of_pairwise (le := (· ≤ ·)) (fun a b _ _ x y => Int.le_antisymm x y) h.srt h'.srt (perm_of h.nd h'.nd fun a => (h.mem a).trans (h'.mem a).symm)
noncomputable def labD (f : Rec) (n : Int) : PyData := .tuple [.int n, intsD (f 3 (.i n)), intsD (f 2 (.i n))]

section
variable {prog : Program} {w : World} {G : Glob'} {A : Around} {k : KH} {P : PV → KH → Prop} {m : Loc} {env : Env} {sc : Scope} {d : Nat} {rest : List Stmt} {PX : Fl → Loc → KH → Prop}

set_option maxHeartbeats 4000000 in
theorem eLabs (g : Prg G) (V : EnvOk G env A sc d) {k0 : KH} {D : Nat → Addr} {f : Rec} {adr : Nat → Key → Addr} (B : Book0 k0 D f adr) (E : Ext k0 k) {ja jb : Nat} (hab : (ja = 2 ∧ jb = 3) ∨ (ja = 3 ∧ jb = 2))
    {oA oB oC : PySem.Expr} {x : Str} {px px2 px3 ps pl pl2 pb pc pcc p : Pos} {scope : Scope} {caps : List Str} (hx : (x == ("__debug__" : Str)) = false) (hgs : globOk sc "sorted" = true) (hgl : globOk sc "list" = true) (hC : compOk scope sc x caps = true) (hsA : notStar oA = true) (hm : behindInMarks .NotIn oC = false)
    (hfold : ∀ y, foldedSetIterable oB env y = pure y)
    (h1 : ∀ kk (P' : PV → KH → Prop), Fz k kk → P' (.ref (D ja)) kk → OkE prog w G A env kk m (eval oA env) P')
    (h2 : ∀ kk (P' : PV → KH → Prop), Fz k kk → P' (.ref (D jb)) kk → OkE prog w G A env kk m (eval oB env) P')
    (h3 : ∀ kk cenv v (P' : PV → KH → Prop), Fz k kk → P' (.ref (D ja)) kk → OkE prog w G A cenv kk (setL (capL caps m) x v) (eval oC cenv) P')
    (h : ∀ ns c k', Labs f ns → ns.length < 64 → Ext k k' → k c = none → k' c = some (.list true (ns.map .int)) → P (.ref c) k') :
    OkE prog w G A env k m (eval (.Call (.Name "sorted" ps) [.BinOp (.Call (.Name "list" pl) [oA] [] pl2) .Add (.ListComp (.Name x px2) [⟨.Name x px, oB, [.Compare (.Name x px3) [.NotIn] [oC] pc], 0⟩] scope pcc) pb] [] p) env) P := by
  have W := V.g
  have hja : 2 ≤ ja ∧ ja < 4 := by first | lia | omega
  have hjb : 2 ≤ jb ∧ jb < 4 := by first | lia | omega
  refine cps fun qZ hZ => ?_
  obtain ⟨ea, a1, a2, a3, a4, a5⟩ := B.dI hja.1 hja.2
  refine hZ ?_
  clear hZ qZ
  refine cps fun qZ hZ => ?_
  obtain ⟨eb, b1, b2, b3, b4, b5⟩ := B.dI hjb.1 hjb.2
  refine hZ ?_
  clear hZ qZ
  have hne : D ja ≠ D jb := fun z => by have := B.apart ja jb hja.2 hjb.2 z; (first | lia | omega)
  refine okE_sortedI g W hgs rfl ?_
  refine okE_BinOp ?_
  refine okE_listI g W V.r.handled hgl hsA ?_
  refine h1 k _ Fz.refl ⟨D ja, false, ea, rfl, E _ _ a1, sz_le (by first | lia | omega), _, .inl ⟨true, rfl⟩, fun la k1 N1 => ?_⟩
  have E1 := E.comp N1.ext
  refine okE_compD (caps := caps) g.good V.r.handled V.e (by rw [V.s]; exact hC) okGs_t hfold ?_
  refine h2 k1 _ N1.fz ⟨D jb, _, _, rfl, E1 _ _ b1, rfl, ?_⟩
  have hback : upd (remK k1 (D jb)) (D jb) (.dictI false eb) = k1 := by
    funext a
    unfold upd remK
    split
    · rename_i z; rw [z]; exact (E1 _ _ b1).symm
    · rfl
  have hfz : Fz k (remK k1 (D jb)) := fun a q hq hf => by
    unfold remK
    rw [if_neg (fun z => by rw [z, E _ _ b1] at hq; cases hq; cases hf)]
    exact N1.fz _ _ hq hf
  have hda : remK k1 (D jb) (D ja) = some (.dictI false ea) := by unfold remK; rw [if_neg hne]; exact E1 _ _ a1
  refine wpCompT (fun its acc kk => kk = remK k1 (D jb) ∧ ∃ ds rs, ds ++ rs = eb.map (·.1) ∧ its = rs.map .int ∧ acc = (ds.filter fun n => !(ea.lookup n).isSome).map .int) ?_ ?_ ?_ _ _ _ ⟨rfl, [], eb.map (·.1), rfl, by rw [List.map_map]; rfl, rfl⟩
  · rintro its acc kk ⟨rfl, ds, rs, e1, e2, e3⟩
    refine ⟨trivial, sz_le ?_⟩
    rw [e3, List.length_map]
    have := List.length_filter_le (fun n => !(ea.lookup n).isSome) ds
    have hl := congrArg List.length e1
    rw [List.length_append, List.length_map] at hl
    (first | lia | omega)
  · rintro v its acc kk ⟨rfl, ds, rs, e1, e2, e3⟩
    match rs, e1, e2 with
    | y :: rs, e1, e2 =>
    rw [List.map_cons, List.cons.injEq] at e2
    obtain ⟨rfl, rfl⟩ := e2
    intro cenv hs hE
    refine okC_Cmp hm (okE_Name lk_here hx (h3 _ cenv _ _ hfz ?_))
    refine oNinI g hda ⟨_, rfl, fun hb => okE_Name lk_here hx ⟨rfl, ds ++ [y], rs, by simp [e1], rfl, ?_⟩, fun hb => ⟨rfl, ds ++ [y], rs, by simp [e1], rfl, ?_⟩⟩
    · rw [e3, List.filter_append, List.map_append]
      rw [List.filter_cons, if_pos hb]; rfl
    · rw [e3, List.filter_append, List.map_append]
      rw [List.filter_cons, if_neg (by rw [hb]; simp)]; rfl
  · rintro acc kk ⟨rfl, ds, rs, e1, e2, e3⟩
    match rs, e1, e2 with
    | [], e1, _ =>
    rw [List.append_nil] at e1
    subst e1 e3
    refine ⟨_, .inl ⟨true, rfl⟩, fun lb k2 N2 => ?_⟩
    have N2 : New (upd (remK k1 (D jb)) (D jb) (.dictI false eb)) lb _ k2 := N2
    rw [hback] at N2
    generalize hq : (eb.map (·.1)).filter (fun n => !(ea.lookup n).isSome) = qb at *
    have hlen : (ea.map (·.1)).length + qb.length < 64 := by
      have := List.length_filter_le (fun n => !(ea.lookup n).isSome) (eb.map (·.1))
      rw [hq, List.length_map] at this
      rw [List.length_map]
      (first | lia | omega)
    show OkO prog w G A k2 (binaryOp .Add) (.ref la) (.ref lb) _
    refine oAddL (N2.get N1.at) N2.at (by simp only [List.length_map] at hlen ⊢; (first | lia | omega)) ⟨_, .inl ⟨true, rfl⟩, fun lc k3 N3 => ?_⟩
    refine ⟨lc, true, ea.map (·.1) ++ qb, rfl, by rw [N3.at, List.map_append], by rw [List.length_append]; exact hlen, fun ns hp hs => ⟨_, .inl ⟨true, rfl⟩, fun c k4 N4 => ?_⟩⟩
    have E4 : Ext k k4 := ((N1.ext.comp N2.ext).comp N3.ext).comp N4.ext
    have ma : ∀ n, n ∈ ea.map (·.1) ↔ f ja (.i n) ≠ none := fun n => by
      have := (lookup_none_iff (rows := ea) (x := n))
      rw [a3, refAt] at this
      constructor
      · intro hn z
        rw [z] at this
        exact this.mp rfl hn
      · intro hn
        cases hf : f ja (.i n) with
        | none => exact absurd hf hn
        | some l =>
          rw [hf] at this
          exact Classical.byContradiction fun z => by have := this.mpr z; cases this
    have mb : ∀ n, n ∈ eb.map (·.1) ↔ f jb (.i n) ≠ none := fun n => by
      have := (lookup_none_iff (rows := eb) (x := n))
      rw [b3, refAt] at this
      constructor
      · intro hn z
        rw [z] at this
        exact this.mp rfl hn
      · intro hn
        cases hf : f jb (.i n) with
        | none => exact absurd hf hn
        | some l =>
          rw [hf] at this
          exact Classical.byContradiction fun z => by have := this.mpr z; cases this
    have mq : ∀ n, n ∈ qb ↔ n ∈ eb.map (·.1) ∧ n ∉ ea.map (·.1) := fun n => by
      rw [← hq, List.mem_filter]
      refine and_congr Iff.rfl ?_
      rw [← lookup_none_iff]
      cases ea.lookup n <;> simp
    refine h ns c k4 ⟨hs, ?_, fun n => ?_⟩ (by rw [hp.length_eq, List.length_append]; exact hlen) E4 ?_ N4.at
    · rw [hp.nodup_iff, List.nodup_append]
      refine ⟨a2, ?_, fun u hu v hv z => ?_⟩
      · rw [← hq]; exact b2.filter _
      · subst z; exact ((mq u).mp hv).2 hu
    · rw [hp.mem_iff, List.mem_append, mq, ma, mb]
      rcases hab with ⟨rfl, rfl⟩ | ⟨rfl, rfl⟩
      · by_cases q2 : f 2 (.i n) = none
        · simp [q2]
        · simp [q2]
      · by_cases q2 : f 3 (.i n) = none
        · simp [q2]
        · simp [q2]
    · cases hk : k c with
      | none => rfl
      | some p => exact absurd rfl (N4.ne (N3.get (N2.get (N1.get hk))))
end

theorem DAt.ext {k k' : KH} {d : Addr} {φ : Key → Option PV} {b : Bool} (h : DAt k d φ b) (E : Ext k k') : DAt k' d φ b := by
  cases h with
  | s a1 a2 a3 a4 => exact .s (E _ _ a1) a2 a3 a4
  | i a1 a2 a3 a4 => exact .i (E _ _ a1) a2 a3 a4
theorem Book0.ext {k k' : KH} {D : Nat → Addr} {f : Rec} {adr : Nat → Key → Addr} (B : Book0 k D f adr) (E : Ext k k') : Book0 k' D f adr := ⟨fun j hj => (B.dict j hj).ext E, fun j x l hj e => E _ _ (B.list j x l hj e), B.inj, B.ok, B.apart⟩
noncomputable def frzPart (k : KH) : KH := fun a => match k a with | some p => if p.frz then some p else none | none => none
theorem frzPart_some {k : KH} {a : Addr} {p : PO} (h : frzPart k a = some p) : k a = some p ∧ p.frz = true := by
  unfold frzPart at h
  split at h
  · rename_i q hq
    split at h
    · rename_i hf; cases h; exact ⟨hq, hf⟩
    · cases h
  · cases h
theorem frzPart_at {k : KH} {a : Addr} {p : PO} (h : k a = some p) (hf : p.frz = true) : frzPart k a = some p := by
  unfold frzPart; rw [h]; dsimp only; rw [if_pos hf]
theorem frzPart_le {k k' : KH} (f : Fz k k') : LeR (frzPart k) (frzPart k') := ⟨fun a fz vs e => by
    obtain ⟨x, y⟩ := frzPart_some e
    exact ⟨fz, frzPart_at (f _ _ x y) y⟩, fun a vs e => by
    obtain ⟨x, y⟩ := frzPart_some e
    exact frzPart_at (f _ _ x y) y⟩
theorem frzPart_all {k : KH} : LeR (frzPart k) k := ⟨fun a fz vs e => ⟨fz, (frzPart_some e).1⟩, fun a vs e => (frzPart_some e).1⟩
theorem frzBut_out {o : Addr} {k : KH} : frzBut (· = o) k o = k o := by unfold frzBut; rw [if_pos rfl]
theorem frzBut_ne {o a : Addr} {k : KH} {p : PO} (h : a ≠ o) (e : k a = some p) : frzBut (· = o) k a = some p.fz := by unfold frzBut; rw [if_neg h, e]; rfl

noncomputable def UD (u : UnitD) (d : PyData) : Prop := ∃ ns, Labs (foldR u.hs) ns ∧ ns.length < 64 ∧ d = .tuple [.str u.name, .list (rowsD (foldR u.hs) u.syms), .list (ns.map (labD (foldR u.hs)))]

section
variable {prog : Program} {w : World} {G : Glob'} {A : Around} {k : KH} {P : PV → KH → Prop}

set_option maxHeartbeats 4000000 in
theorem label_rows_ok (g : Prg G) (hR : Room A 3) {N : Addr} {D : Nat → Addr} {f : Rec} {adr : Nat → Key → Addr} (hN : NotesAt G k N D) (B : Book0 k D f adr)
    (h : ∀ ns c k', Labs f ns → ns.length < 64 → Ext k k' → k c = none → RD (only (SB k adr f) k') (.ref c) (.list (ns.map (labD f))) → P (.ref c) k') : OkF prog w G A k "label_rows" [.ref N] P := by
  refine okF_fn (n := 18) (d := 2) g rfl hR (by decide +kernel) rfl fun env A' V => ?_
  have W := V.g
  show OkX prog w G A' env k (setL (fun _ => none) "notes" (.ref N)) (execs (bodyN 18) env) _
  refine vAssign V rfl (by decide +kernel) ?_
  refine eListM (okEs_nil ⟨by simp, fun c k1 N1 => ?_⟩)
  refine okX_sForG V.r.handled V.f (store_of V.s (by decide +kernel)) (fun _ => rfl) ?_
  refine eLabs g V B N1.ext (.inr ⟨rfl, rfl⟩) (caps := ["notes"]) (by decide +kernel) (by decide +kernel) (by decide +kernel) (by decide +kernel) rfl rfl (fun _ => rfl)
    (fun kk P' F hp => eAt3 g (by walk_at "lk") (hN.fz (N1.fz.comp F)) hp) (fun kk P' F hp => eAt2 g (by walk_at "lk") (hN.fz (N1.fz.comp F)) hp) (fun kk cenv v P' F hp => eAt3 g (by walk_at "lk") (hN.fz (N1.fz.comp F)) hp) fun ns c2 k2 hL hlen E2 hc2 hk2 => ?_
  refine ⟨_, _, fun its m' k' => ∃ ds rs vs, ds ++ rs = ns ∧ its = rs.map .int ∧ Ext k k' ∧ Fz k2 k' ∧ k' c = some (.list false vs) ∧ RDs (only (SC k adr f c) k') vs (ds.map (labD f)) ∧ vs.length ≤ ds.length ∧ m' "notes" = some (.ref N) ∧ m' "rows" = some (.ref c),
    src_list hk2 (.inl ⟨_, rfl⟩), ?_, ?_, ?_, ?_⟩
  · rintro its m' k' ⟨ds, rs, vs, e1, e2, e3, e4, e5⟩
    exact ⟨_, e4 _ _ hk2 rfl, .inl ⟨_, rfl⟩⟩
  · exact ⟨[], ns, [], rfl, rfl, N1.ext.comp E2, Fz.refl, E2 _ _ N1.at, .nil, Nat.le_refl _, by walk_at "lk", by walk_at "lk"⟩
  · rintro v its m' k' ⟨ds, rs, ls, e1, e2, E, F, hc, hrd, hln, m2, m3⟩
    match rs, e1, e2 with
    | y :: rs, e1, e2 =>
    rw [List.map_cons, List.cons.injEq] at e2
    obtain ⟨rfl, rfl⟩ := e2
    have hN' := hN.fz E.fz
    have kc0 : k c = none := N1.old
    generalize hmm : setL m' "label" (.int y) = mm
    have n2 : mm "notes" = some (.ref N) := by rw [← hmm]; walk_at "lk"
    have n3 : mm "rows" = some (.ref c) := by rw [← hmm]; walk_at "lk"
    have n4 : mm "label" = some (.int y) := by rw [← hmm]; walk_at "lk"
    refine vExpr V rfl ?_
    refine okE_append (by decide +kernel) (by decide +kernel) (by decide +kernel) ?_
    repeat walk_at "v1"
    refine ⟨c, ls, false, rfl, hc, ?_⟩
    refine eTup ?_
    refine okEs_cons rfl ?_
    refine okE_Name n4 (by decide +kernel) ?_
    refine okEs_cons rfl ?_
    refine eGetI g (j := 3) (x := y) rfl rfl rfl B E (by first | lia | omega) (by first | lia | omega) (fun P' hp => eAt3 g n2 hN' hp) (fun P' hp => okE_Name n4 (by decide +kernel) hp) fun v1 g1 k3 M1 L1 => ?_
    refine okEs_cons rfl ?_
    refine eGetI g (j := 2) (x := y) rfl rfl rfl B (E.comp M1.ext) (by first | lia | omega) (by first | lia | omega) (fun P' hp => eAt2 g n2 (hN'.fz M1.fz) hp) (fun P' hp => okE_Name n4 (by decide +kernel) hp) fun v2 g2 k4 M2 L2 => ?_
    refine okEs_nil ⟨by simp, fun t k5 M3 => ?_⟩
    have hc5 : k5 c = some (.list false ls) := M3.get (M2.get (M1.get hc))
    refine ⟨ls, hc5, sz_le (by rw [← e1, List.length_append] at hlen; (first | lia | omega)), fun k6 U => ?_⟩
    have r1 := L1.rd B (by first | lia | omega) E (by rw [hc]; exact fun z => nomatch z) kc0
    have r2 := L2.rd B (by first | lia | omega) (E.comp M1.ext) (by rw [M1.get hc]; exact fun z => nomatch z) kc0
    have E5 : Ext k' k5 := M1.ext.comp (M2.ext.comp M3.ext)
    have up : ∀ {kk : KH}, Ext kk k5 → LeR (only (SC k adr f c) kk) (only (SC k adr f c) k6) := fun e => LeR.only' fun a p hS ha => by rw [U.ne hS.1]; exact e _ _ ha
    have ht : only (SC k adr f c) k6 t = some (.tup [.int y, v1, v2]) := by
      have tc : t ≠ c := fun z => M3.ne (M2.get (M1.get hc)) z.symm
      have tn : k t = none := by
        cases hk : k t with
        | none => rfl
        | some p => exact absurd rfl (M3.ne (M2.get (M1.get (E _ _ hk))))
      rw [only_at ⟨tc, .inl tn⟩, U.ne tc]; exact M3.at
    refine vNil ⟨ds ++ [y], rs, ls ++ [.ref t], by simp [e1], rfl, fun a p ha => ?_, ?_, U.at, ?_, by simp; exact hln, n2, n3⟩
    · rw [U.ne (fun z => by rw [z, kc0] at ha; cases ha)]; exact E5 _ _ (E _ _ ha)
    · exact F.comp (E5.fz.comp (U.fz hc5 rfl))
    · rw [List.map_append]
      refine (RDs.le (up E5) hrd).append ?_
      exact RDs.one (.tup ht (.cons .int (.cons (RD.le (up (M2.ext.comp M3.ext)) r1) (.cons (RD.le (up M3.ext) r2) .nil))))
  · rintro m' k' ⟨ds, rs, ls, e1, e2, E, F, hc, hrd, hln, m2, m3⟩
    match rs, e1, e2 with
    | [], e1, _ =>
    rw [List.append_nil] at e1
    repeat walk_at "v1"
    refine h ns c k' hL hlen E N1.old (.list (fz := false) (by rw [only_at (.inl N1.old)]; exact hc) ?_)
    rw [← e1]
    exact RDs.le (LeR.only fun a p hS ha => ⟨hS.2, ha⟩) hrd

set_option maxHeartbeats 4000000 in
theorem cross_ok (g : Prg G) (hR : Room A 112) {ul : Addr} {us : List UnitD} {vs : List PV} (hk : k ul = some (.list true vs)) (hv : All2 (UnitAt G k) vs us) (hu : ∀ u ∈ us, SymOk u.syms ∧ u.hs.length < 900) (hlen : us.length < 900)
    (h : ∀ c k' dd, All2 UD us dd → RD k' (.ref c) (.list dd) → Fz k k' → P (.ref c) k') : OkF prog w G A k "cross_reference" [.ref ul] P := by
  refine okF_fn (n := 20) (d := 111) g rfl hR (by decide +kernel) rfl fun env A' V => ?_
  have W := V.g
  show OkX prog w G A' env k (setL (fun _ => none) "units" (.ref ul)) (execs (bodyN 20) env) _
  refine vAssign V rfl (by decide +kernel) ?_
  refine eListM (okEs_nil ⟨by simp, fun c k1 N1 => ?_⟩)
  refine okX_sFor (fun its m' k' => ∃ ds rs ls dd, ds ++ rs = us ∧ All2 (UnitAt G k) its rs ∧ k' c = some (.list false ls) ∧ (∀ v ∈ ls, ∃ a, v = .ref a) ∧ All2 UD ds dd ∧ RDs (frzPart k') ls dd ∧ ls.length ≤ ds.length ∧ Fz k k' ∧ m' "out" = some (.ref c)) V.r.handled V.f (store_of V.s (by decide +kernel)) (fun _ => rfl) ?_ (fun v its m' k' hJ => ?_) (fun m' k' hJ => ?_)
  · repeat walk_at "v1"
    refine ⟨_, _, src_list (N1.get hk) (.inl ⟨_, rfl⟩), ?_, ?_⟩
    · rintro its m' k' ⟨ds, rs, ls, dd, e1, e2, e3, e4, e5, e6, e7, e8, e9⟩
      exact ⟨_, e8 _ _ hk rfl, .inl ⟨_, rfl⟩⟩
    · exact ⟨[], us, [], [], rfl, hv, N1.at, fun v hv => (by cases hv), trivial, .nil, Nat.le_refl _, N1.fz, by walk_at "lk"⟩
  · refine cps fun qZ hZ => ?_
    obtain ⟨ds, rs, ls, dd, e1, e2, hc, href, hdd, hrd, hln, F, m1⟩ := hJ
    refine hZ ?_
    clear hZ qZ
    match rs, e1, e2 with
    | u :: rs, e1, e2 =>
    obtain ⟨hat, q2⟩ := e2
    obtain ⟨hsy, hhs⟩ := hu u (by rw [← e1]; simp)
    have hat' := hat.mono F
    refine cps fun qZ hZ => ?_
    obtain ⟨x, C, dx, es, sd, sl, rows, vs', rfl, hx, hC, hdx, l1, l2, l3, hsd, hsyms, hsl, hst⟩ := hat'
    refine hZ ?_
    clear hZ qZ
    refine vAssign V rfl (by decide +kernel) ?_
    repeat walk_at "v1"
    refine okE_Attr g rfl (by with_unfolding_all rfl) ?_
    repeat walk_at "v1"
    refine ⟨x, C, dx, true, es, _, _, _, rfl, hx, hC, hdx, by decide +kernel, l3, (fun z => nomatch z), ?_⟩
    repeat walk_at "v1"
    refine notes_of_ok g (V.r.le (by first | lia | omega)) hsl hst hhs fun N D k2 hN B K => ?_
    obtain ⟨adr, B⟩ := B
    have hcC : keepC (.list false ls) := fun i r z => by
      cases z
      obtain ⟨a, ha⟩ := href _ (.head _)
      cases ha
    have hc2 : k2 c = some (.list false ls) := K _ _ hc hcC
    have hx2 := K.fz _ _ hx rfl
    have hdx2 := K.fz _ _ hdx rfl
    refine vExpr V rfl ?_
    refine okE_append (by decide +kernel) (by decide +kernel) (by decide +kernel) ?_
    repeat walk_at "v1"
    refine ⟨c, ls, false, rfl, hc2, ?_⟩
    refine eTup ?_
    refine okEs_cons rfl ?_
    refine okE_Attr g rfl (by with_unfolding_all rfl) ?_
    repeat walk_at "v1"
    refine ⟨x, C, dx, true, es, _, _, _, rfl, hx2, hC, hdx2, by decide +kernel, l1, (fun z => nomatch z), ?_⟩
    repeat walk_at "v1"
    refine name_rows_ok g (V.r.le (by first | lia | omega)) ((hat.mono F).mono K.fz) hsy hN B fun c3 k3 E3 n3 r3 => ?_
    repeat walk_at "v1"
    refine label_rows_ok g (V.r.le (by first | lia | omega)) (hN.fz E3.fz) (B.ext E3) fun ns c4 k4 hL hL64 E4 n4 r4 => ?_
    repeat walk_at "v1"
    refine ⟨by simp, fun t k5 N5 => ?_⟩
    have hc5 : k5 c = some (.list false ls) := N5.get (E4 _ _ (E3 _ _ hc2))
    refine ⟨ls, hc5, sz_le (by rw [← e1, List.length_append] at hlen; (first | lia | omega)), fun k6 U => ?_⟩
    refine okX_frzs (k' := frzBut (· = c) k6) frzBut_frzs ?_
    have tc : t ≠ c := fun z => N5.ne (E4 _ _ (E3 _ _ hc2)) z.symm
    have F6 : Fz k' (frzBut (· = c) k6) := ((K.fz.comp E3.fz).comp (E4.fz.comp N5.fz)).comp ((U.fz hc5 rfl).comp frzBut_frzs.le.fz)
    have adc : ∀ j y, j < 4 → foldR u.hs j y ≠ none → c ≠ adr j y := fun j y hj hf z => by
      cases hh : foldR u.hs j y with
      | none => exact hf hh
      | some l =>
        have h1 := B.list j y l hj hh
        rw [← z, hc2] at h1
        have h2 := (B.ok j y l hj hh).2
        cases l with
        | nil => exact h2 rfl
        | cons i l =>
          simp only [Option.some.injEq, PO.list.injEq, List.map_cons, true_and] at h1
          obtain ⟨a, ha⟩ := href (.int i) (by rw [h1]; exact .head _)
          cases ha
    have up : ∀ {kk kk' : KH}, Ext k2 kk → Ext kk' k5 → LeR (only (SB kk adr (foldR u.hs)) kk') (frzPart (frzBut (· = c) k6)) := fun {kk kk'} h0 e => by
      have key : ∀ a p, only (SB kk adr (foldR u.hs)) kk' a = some p → a ≠ c ∧ k6 a = some p := fun a p ha => by
        obtain ⟨hS, ha⟩ := only_some ha
        have ne : a ≠ c := by
          rcases hS with z | ⟨j, y, hj, hf, z⟩
          · intro q; rw [q, h0 _ _ hc2] at z; cases z
          · intro q; exact adc j y hj hf (q ▸ z)
        exact ⟨ne, by rw [U.ne ne]; exact e _ _ ha⟩
      refine ⟨fun a fz vs ha => ?_, fun a vs ha => ?_⟩
      · obtain ⟨ne, h6⟩ := key _ _ ha
        exact ⟨true, frzPart_at (frzBut_ne ne h6) rfl⟩
      · obtain ⟨ne, h6⟩ := key _ _ ha
        exact frzPart_at (frzBut_ne ne h6) rfl
    refine vNil ⟨ds ++ [u], rs, ls ++ [.ref t], dd ++ [_], by simp [e1], q2, ?_, ?_, hdd.snoc ⟨ns, hL, hL64, rfl⟩, ?_, by simp; exact hln, F.comp F6, by walk_at "lk"⟩
    · rw [frzBut_out]; exact U.at
    · intro v hv
      rcases List.mem_append.mp hv with z | z
      · exact href v z
      · rw [List.mem_singleton] at z; exact ⟨t, z⟩
    · have ht6 : k6 t = some _ := (U.ne tc).trans N5.at
      refine (RDs.le (frzPart_le F6) hrd).append (RDs.one (.tup (frzPart_at (frzBut_ne tc ht6) rfl) ?_))
      exact .cons .str (.cons (RD.le (up Ext.refl (E4.comp N5.ext)) r3) (.cons (RD.le (up E3 N5.ext) r4) .nil))
  · refine cps fun qZ hZ => ?_
    obtain ⟨ds, rs, ls, dd, e1, e2, hc, href, hdd, hrd, hln, F, m1⟩ := hJ
    refine hZ ?_
    clear hZ qZ
    match rs, e1, e2 with
    | [], e1, _ =>
    rw [List.append_nil] at e1
    subst e1
    repeat walk_at "v1"
    exact h c k' dd hdd (.list hc (RDs.le frzPart_all hrd)) F
end

/-! what an event may be -/
noncomputable def tyE (e : Ev) : Prop := (e.1 < 2 ∧ ∃ x, e.2 = .s x) ∨ (e.1 = 2 ∧ ∃ n, e.2 = .i n)
noncomputable def tyL (es : List Ev) : Prop := ∀ e ∈ es, tyE e
theorem tyL.nil : tyL [] := fun _ h => by cases h
theorem tyL.app {a b : List Ev} (h : tyL a) (h' : tyL b) : tyL (a ++ b) := fun e he => (List.mem_append.mp he).elim (h e) (h' e)
theorem tyL.cons {a : Ev} {b : List Ev} (h : tyE a) (h' : tyL b) : tyL (a :: b) := fun e he => by
  rcases List.mem_cons.mp he with z | z
  · rw [z]; exact h
  · exact h' e z
theorem ty_s {j : Nat} (x : Str) (h : j < 2) : tyE (j, .s x) := .inl ⟨h, x, rfl⟩
theorem ty_l (n : Int) : tyE (2, .i n) := .inr ⟨rfl, n, rfl⟩
theorem ETs.ty {k d vs es} (h : ETs k d vs es) : tyL es := by
  induction h with
  | nil => exact .nil
  | none _ ih => exact ih
  | const _ _ ih => exact ih
  | leaf _ _ _ ih => exact .cons (ty_s _ (by first | lia | omega)) ih
  | named _ _ _ _ _ i1 i2 => exact (tyL.cons (ty_s _ (by first | lia | omega)) i1).app i2
  | intr _ _ _ _ i1 i2 => exact i1.app i2
  | parts _ _ _ _ _ i1 i2 => exact i1.app i2
  | alt _ _ ih => exact .cons (ty_l _) ih
theorem TT.ty {k d j v n es} (h : TT k d j v n es) : tyL es := by
  induction h with
  | var _ => exact .nil
  | elem _ _ e => exact e.ty
  | sub _ _ e ih => exact ih.app e.ty
theorem IT.ty {k d j b v es} (h : IT k d j b v es) : tyL es := by
  induction h with
  | read _ t _ => exact .cons (ty_s _ (by first | lia | omega)) t.ty
  | write _ _ _ _ e => exact e.ty
  | ido _ _ _ e _ ih => exact (tyL.cons (ty_s _ (by first | lia | omega)) e.ty).app ih
theorem CV.ty {k d w key v es} (h : CV k d w key v es) : tyL es := by
  cases h with
  | label => exact .cons (ty_l _) .nil
  | star _ _ => exact .nil
  | iostat _ t => exact .cons (ty_s _ (by first | lia | omega)) t.ty
  | exist _ _ t => exact .cons (ty_s _ (by first | lia | omega)) t.ty
  | unitC _ _ => exact .cons (ty_s _ (by first | lia | omega)) .nil
  | unit _ _ e => exact e.ty
theorem tyL.labs : ∀ ls : List Int, tyL (ls.map fun l => ((2, .i l) : Ev))
  | [] => .nil
  | _ :: r => .cons (ty_l _) (tyL.labs r)
theorem JT.ty {k d v es} (h : JT k d v es) : tyL es := by
  cases h with
  | goto _ => exact .cons (ty_l _) .nil
  | cgoto _ _ e => exact (tyL.labs _).app e.ty
  | agoto _ _ => exact .cons (ty_s _ (by first | lia | omega)) (tyL.labs _)
  | aif _ _ e => exact e.ty.app (tyL.labs _)
  | setlabel _ => exact .cons (ty_l _) (.cons (ty_s _ (by first | lia | omega)) .nil)
  | doo _ t e => exact (tyL.cons (ty_l _) (.cons (ty_s _ (by first | lia | omega)) t.ty)).app e.ty
theorem CT.ty {k d w rows ev} (h : CT k d w rows ev) : tyL ((rows.map (·.1)).flatMap ev) := fun e he => by
  obtain ⟨x, hx, hxe⟩ := List.mem_flatMap.mp he
  obtain ⟨p, hp, rfl⟩ := List.mem_map.mp hx
  exact (h p.1 p.2 hp).ty e hxe
theorem ST.ty {k d v es} (h : ST k d v es) : tyL es := by
  cases h with
  | jump h => exact h.ty
  | assign _ t e => exact (tyL.cons (ty_s _ (by first | lia | omega)) t.ty).app e.ty
  | lif _ e j => exact e.ty.app j.ty
  | expr _ _ e => exact e.ty
  | quiet _ _ => exact .nil
  | call _ _ e => exact .cons (ty_s _ (by first | lia | omega)) e.ty
  | entry _ => exact .cons (ty_s _ (by first | lia | omega)) .nil
  | inquire _ _ _ _ c => exact c.ty
  | io _ _ _ _ _ c _ i => exact c.ty.app i.ty

/-! the logs, after a statement -/
noncomputable def logS (j : Nat) (ls : List Ev) : List Str := ls.filterMap fun e => match e.2 with | .s x => if e.1 = j then some x else none | .i _ => none
noncomputable def logI (ls : List Ev) : List Int := ls.filterMap fun e => match e.2 with | .i n => if e.1 = 2 then some n else none | .s _ => none
theorem logS_mem {j : Nat} {ls : List Ev} {x : Str} : x ∈ logS j ls ↔ (j, .s x) ∈ ls := by
  unfold logS
  rw [List.mem_filterMap]
  constructor
  · rintro ⟨⟨i, y⟩, h, e⟩
    cases y with
    | s y =>
      dsimp only at e
      split at e
      · rename_i q; subst q; cases e; exact h
      · cases e
    | i n => cases e
  · intro h
    exact ⟨_, h, by simp⟩
theorem logI_mem {ls : List Ev} {n : Int} : n ∈ logI ls ↔ (2, .i n) ∈ ls := by
  unfold logI
  rw [List.mem_filterMap]
  constructor
  · rintro ⟨⟨i, y⟩, h, e⟩
    cases y with
    | i y =>
      dsimp only at e
      split at e
      · rename_i q; subst q; cases e; exact h
      · cases e
    | s n => cases e
  · intro h
    exact ⟨_, h, by simp⟩
theorem appL_logs {Sa U M : Addr} (h1 : Sa ≠ U) (h2 : Sa ≠ M) (h3 : U ≠ M) : ∀ (ls : List Ev), tyL ls → appL (fun _ => []) (lE Sa U M ls) Sa = (logS 0 ls).map .str ∧ appL (fun _ => []) (lE Sa U M ls) U = (logS 1 ls).map .str ∧ appL (fun _ => []) (lE Sa U M ls) M = (logI ls).map .int
  | [], _ => ⟨rfl, rfl, rfl⟩
  | e :: ls, h => by
    obtain ⟨i1, i2, i3⟩ := appL_logs h1 h2 h3 ls fun e he => h e (.tail _ he)
    have step : ∀ a, appL (fun _ => []) (lE Sa U M (e :: ls)) a = appL (fun _ => []) (lE Sa U M [e]) a ++ appL (fun _ => []) (lE Sa U M ls) a := fun a => by
      rw [show e :: ls = [e] ++ ls from rfl, lE_app]
      simp [appL]
    rw [step, step, step, i1, i2, i3]
    have sS : ∀ j, logS j (e :: ls) = logS j [e] ++ logS j ls := fun j => by unfold logS; rw [← List.filterMap_append]; rfl
    have sI : logI (e :: ls) = logI [e] ++ logI ls := by unfold logI; rw [← List.filterMap_append]; rfl
    rw [sS, sS, sI, List.map_append, List.map_append, List.map_append]
    have key : appL (fun _ => []) (lE Sa U M [e]) Sa = (logS 0 [e]).map .str ∧ appL (fun _ => []) (lE Sa U M [e]) U = (logS 1 [e]).map .str ∧ appL (fun _ => []) (lE Sa U M [e]) M = (logI [e]).map .int := by
      obtain ⟨j, y⟩ := e
      rcases h _ (.head _) with ⟨a, x, b⟩ | ⟨a, n, b⟩
      · dsimp only at a b
        subst b
        rcases (show j = 0 ∨ j = 1 by first | lia | omega) with rfl | rfl
        · simp [appL, lE, logS, logI, h1, h2, Key.pv]
        · simp [appL, lE, logS, logI, h1.symm, h3, Key.pv]
      · dsimp only at a b
        subst b
        subst a
        simp [appL, lE, logS, logI, h2.symm, h3.symm, Key.pv]
    exact ⟨by rw [key.1], by rw [key.2.1], by rw [key.2.2]⟩
theorem log_ok {k : KH} {T : Addr} {Λ : Addr → Prop} {i : Int} {Sa U M : Addr} {ls : List Ev} (S : GS k T Λ i (appL (fun _ => []) (lE Sa U M ls))) (h1 : Sa ≠ U) (h2 : Sa ≠ M) (h3 : U ≠ M) (hS : Λ Sa) (hU : Λ U) (hM : Λ M) (hty : tyL ls) : evOk ls := fun e he => by
  obtain ⟨a1, a2, a3⟩ := appL_logs h1 h2 h3 ls hty
  obtain ⟨j, y⟩ := e
  rcases hty _ he with ⟨a, x, b⟩ | ⟨a, n, b⟩
  · dsimp only at a b
    subst b
    rcases (show j = 0 ∨ j = 1 by first | lia | omega) with rfl | rfl
    · exact ⟨by first | lia | omega, S.val Sa hS (.str x) (by rw [a1]; exact List.mem_map_of_mem (logS_mem.mpr he))⟩
    · exact ⟨by first | lia | omega, S.val U hU (.str x) (by rw [a2]; exact List.mem_map_of_mem (logS_mem.mpr he))⟩
  · dsimp only at a b
    subst b
    subst a
    have := S.val M hM (.int n) (by rw [a3]; exact List.mem_map_of_mem (logI_mem.mpr he))
    exact ⟨by first | lia | omega, by first | lia | omega, this.1, by have := this.2; (first | lia | omega)⟩

theorem DAt.same {k k' : KH} {d : Addr} {φ : Key → Option PV} {b : Bool} (h : DAt k d φ b) (e : ∀ p, k d = some p → k' d = some p) : DAt k' d φ b := by
  cases h with
  | s a1 a2 a3 a4 => exact .s (e _ a1) a2 a3 a4
  | i a1 a2 a3 a4 => exact .i (e _ a1) a2 a3 a4
/-- the record's places -/
noncomputable def InB (D : Nat → Addr) (adr : Nat → Key → Addr) (f : Rec) (a : Addr) : Prop := (∃ j, j < 4 ∧ a = D j) ∨ ∃ j x, j < 4 ∧ f j x ≠ none ∧ a = adr j x
theorem Book0.same {k k' : KH} {D : Nat → Addr} {f : Rec} {adr : Nat → Key → Addr} (B : Book0 k D f adr) (e : ∀ a p, InB D adr f a → k a = some p → k' a = some p) : Book0 k' D f adr :=
  ⟨fun j hj => (B.dict j hj).same fun p hp => e _ _ (.inl ⟨j, hj, rfl⟩) hp, fun j x l hj h => e _ _ (.inr ⟨j, x, hj, by rw [h]; exact fun z => (nomatch z), rfl⟩) (B.list j x l hj h), B.inj, B.ok, B.apart⟩
theorem Book0.notin {k : KH} {D : Nat → Addr} {f : Rec} {adr : Nat → Key → Addr} (B : Book0 k D f adr) {a : Addr} {fz : Bool} {vs : List PV} (ha : k a = some (.list fz vs)) (hv : ∀ i r, vs ≠ .int i :: r) : ¬ InB D adr f a := by
  rintro (⟨j, hj, rfl⟩ | ⟨j, x, hj, hf, rfl⟩)
  · obtain ⟨p, hp, hn⟩ := (B.dict j hj).get
    rw [ha] at hp; cases hp; exact hn _ _ rfl
  · cases h : f j x with
    | none => exact hf h
    | some l =>
      have h1 := B.list j x l hj h
      have h2 := (B.ok j x l hj h).2
      rw [ha] at h1
      cases l with
      | nil => exact h2 rfl
      | cons i l =>
        simp only [Option.some.injEq, PO.list.injEq, List.map_cons] at h1
        exact hv _ _ h1.2
theorem Book0.notinS {k : KH} {D : Nat → Addr} {f : Rec} {adr : Nat → Key → Addr} (B : Book0 k D f adr) {a : Addr} {fz : Bool} {es : List (Str × PV)} (ha : k a = some (.dictS fz es)) (hD : ∀ j, j < 4 → a ≠ D j) : ¬ InB D adr f a := by
  rintro (⟨j, hj, e⟩ | ⟨j, x, hj, hf, rfl⟩)
  · exact hD j hj e
  · cases h : f j x with
    | none => exact hf h
    | some l => have h1 := B.list j x l hj h; rw [ha] at h1; cases h1

section
variable {prog : Program} {w : World} {G : Glob'} {A : Around} {k : KH} {P : PV → KH → Prop} {m : Loc} {env : Env} {sc : Scope} {d : Nat} {rest : List Stmt} {PX : Fl → Loc → KH → Prop}

theorem okE_lenS (g : Prg G) (V : EnvG env sc) {p pos : Pos} (hx : globOk sc "len" = true) {e : PySem.Expr} (hs : notStar e = true)
    (h : OkE prog w G A env k m (eval e env) fun v k1 => ∃ x, v = .str x ∧ (x.length : Int) < 1000 ∧ P (.int x.length) k1) : OkE prog w G A env k m (eval (.Call (.Name "len" p) [e] [] pos) env) P :=
  okE_CallB g.good V.e (V.gl _ hx) g.len.1 g.len.2 hs (okE_mono h fun v k1 ⟨x, e1, e2, e3⟩ => fun R O vas ev => by
    match vas, ev with
    | [va], ev =>
      rw [List.map_cons, List.map_nil, List.cons.injEq] at ev
      obtain ⟨t, rfl⟩ := ab_str (ev.1.trans e1)
      exact fun s Q H q => SBL.len (by first | lia | omega) (q _ _ _ _ e3 H))
theorem swaps_comp {elt : PySem.Expr} {gens : List Comprehension} {scope : Scope} {pos py : Pos} {y : Str} {l : Nat} (h : (env.blockKind == .function && env.kindOf y == some .local && py.line == pos.line && !(scope.names.any fun (n, k) => n == y && (k == .local || k == .cell))) = true) :
    swapsWith (.ListComp elt gens scope pos) (some (.Name y py)) l env = pure true := by
  show pure (env.blockKind == .function && env.kindOf y == some .local && py.line == pos.line && !(scope.names.any fun (n, k) => n == y && (k == .local || k == .cell))) = _
  rw [h]
end

theorem lookup_put {rows : List (Str × PV)} {x y : Str} {v : PV} : (putP rows x v).lookup y = if y = x then some v else rows.lookup y := by
  by_cases h : x ∈ rows.map (·.1)
  · unfold putP
    have : (rows.any fun p => p.1 = x) = true := by
      obtain ⟨p, hp, e⟩ := List.mem_map.mp h
      exact List.any_eq_true.mpr ⟨p, hp, by simp [e]⟩
    rw [if_pos this]
    clear this
    induction rows with
    | nil => cases h
    | cons p r ih =>
      obtain ⟨a, b⟩ := p
      rw [List.map_cons, List.lookup_cons, List.lookup_cons]
      by_cases e : a = x
      · subst e
        simp only [if_true]
        by_cases z : y = a
        · subst z; simp
        · have z1 : (y == a) = false := by simpa using z
          rw [z1, if_neg z]
          dsimp only
          by_cases hr : a ∈ r.map (·.1)
          · rw [ih hr, if_neg z]
          · congr 1
            refine (List.map_congr_left fun q hq => ?_).trans (List.map_id _)
            rw [if_neg fun w => hr (List.mem_map.mpr ⟨q, hq, w⟩)]; rfl
      · rw [if_neg e]
        have hr : x ∈ r.map (·.1) := by
          rw [List.map_cons, List.mem_cons] at h
          exact h.resolve_left fun w => e w.symm
        rw [ih hr]
        by_cases z : y = a
        · subst z; simp [e]
        · have z1 : (y == a) = false := by simpa using z
          simp only [z1]
  · rw [putK_new v h, lookup_app h]
theorem put_len {rows : List (Str × PV)} {x : Str} {v : PV} : (putP rows x v).length ≤ rows.length + 1 := by
  unfold putP
  split
  · rw [List.length_map]; (first | lia | omega)
  · rw [List.length_append, List.length_singleton]; (first | lia | omega)

section
variable {prog : Program} {w : World} {G : Glob'} {A : Around} {k : KH} {P : PV → KH → Prop} {m : Loc} {env : Env} {sc : Scope} {d : Nat} {rest : List Stmt} {PX : Fl → Loc → KH → Prop}

theorem Ini.fresh {k0 k : KH} {x C dx : Addr} {es : List (Str × PV)} {L : List (Addr × PO)} (I : Ini k0 k x C dx es L) {q : Addr × PO} (h : q ∈ L) : k0 q.1 = none := by
  cases hk : k0 q.1 with
  | none => rfl
  | some p => exact absurd (List.mem_map_of_mem h) (I.ext _ _ hk).2.2

/-- UnitTree(..) -/
theorem eUnit_doc : True := trivial
set_option maxHeartbeats 2000000 in
theorem eUnit (g : Prg G) (W : EnvG env sc) {p pos p1 p2 : Pos} {c1 c2 : Nat} {kd nm : Str} (hx : globOk sc "UnitTree" = true) (hR : Room A 3) (hpl : (backTo pos (starEach [PySem.Expr.Constant (.str nm) c2 p2] env)).any (·.1) = false)
    (h : ∀ x C dx es sl sd k', k' x = some (.inst C dx) → ClsG G 23 "UnitTree" C → k' dx = some (.dictS true es) → es.lookup ("name" : Str) = some (.str nm) → es.lookup ("symbols" : Str) = some (.ref sd) → es.lookup ("statements" : Str) = some (.ref sl) →
      k' sl = some (.list false []) → k' sd = some (.dictS false []) → Ext k k' → k sl = none → k sd = none → P (.ref x) k') : OkE prog w G A env k m (eval (.Call (.Name "UnitTree" p) [.Constant (.str kd) c1 p1, .Constant (.str nm) c2 p2] [] pos) env) P := by
  refine okE_post (okE_cls (n := 23) (d := 1) g W hx rfl hR (by decide +kernel) rfl hpl ?_)
  refine okEs_cons rfl (okE_str (okEs_cons rfl (okE_str (okEs_nil ?_))))
  refine ⟨by show 3 = _; decide +kernel, fun C x dx k2 k3 hC N2 N3 env' A' V => ?_⟩
  have W' := V.g
  have I := Ini.start N2 N3
  show OkX prog w G A' env' k3 (setL (setL (setL (fun _ => none) "self" (.ref x)) "kind" (.str kd)) "name" (.str nm)) (execs (iBody 23) env') _
  refine vSelf g V rfl hC I (by decide +kernel) (by walk_at "lk") (ns := []) rfl (by decide +kernel) (by simp) ?_
  repeat walk_at "v1"
  refine ⟨_, I, fun k4 I => ?_⟩
  refine vSelf g V rfl hC I (by decide +kernel) (by walk_at "lk") (ns := ["kind"]) rfl (by decide +kernel) (by simp) ?_
  repeat walk_at "v1"
  refine ⟨_, I, fun k5 I => ?_⟩
  refine vSelf g V rfl hC I (by decide +kernel) (by walk_at "lk") (ns := ["kind", "name"]) rfl (by decide +kernel) (by simp) ?_
  refine eListM (okEs_nil ⟨by simp, fun c0 k6 N6 => ⟨_, I.new N6, fun k7 I => ?_⟩⟩)
  refine vSelf g V rfl hC I (by decide +kernel) (by walk_at "lk") (ns := ["kind", "name", "dummies"]) rfl (by decide +kernel) (by simp) ?_
  refine eDictS fun c1 k8 N8 => ⟨_, I.new N8, fun k9 I => ?_⟩
  refine vSelf g V rfl hC I (by decide +kernel) (by walk_at "lk") (ns := ["kind", "name", "dummies", "entries"]) rfl (by decide +kernel) (by simp) ?_
  refine eDictS fun c2 k10 N10 => ⟨_, I.new N10, fun k11 I => ?_⟩
  refine vSelf g V rfl hC I (by decide +kernel) (by walk_at "lk") (ns := ["kind", "name", "dummies", "entries", "symbols"]) rfl (by decide +kernel) (by simp) ?_
  refine eListM (okEs_nil ⟨by simp, fun c3 k12 N12 => ⟨_, I.new N12, fun k13 I => ?_⟩⟩)
  refine vSelf g V rfl hC I (by decide +kernel) (by walk_at "lk") (ns := ["kind", "name", "dummies", "entries", "symbols", "statements"]) rfl (by decide +kernel) (by simp) ?_
  refine eDictS fun c4 k14 N14 => ⟨_, I.new N14, fun k15 I => ?_⟩
  refine vSelf g V rfl hC I (by decide +kernel) (by walk_at "lk") (ns := ["kind", "name", "dummies", "entries", "symbols", "statements", "formats"]) rfl (by decide +kernel) (by simp) ?_
  refine eDictS fun c5 k16 N16 => ⟨_, I.new N16, fun k17 I => ?_⟩
  refine vSelf g V rfl hC I (by decide +kernel) (by walk_at "lk") (ns := ["kind", "name", "dummies", "entries", "symbols", "statements", "formats", "labels"]) rfl (by decide +kernel) (by simp) ?_
  repeat walk_at "v1"
  refine ⟨_, I, fun k18 I => ?_⟩
  refine vSelf g V rfl hC I (by decide +kernel) (by walk_at "lk") (ns := ["kind", "name", "dummies", "entries", "symbols", "statements", "formats", "labels", "result"]) rfl (by decide +kernel) (by simp) ?_
  refine eListM (okEs_nil ⟨by simp, fun c6 k19 N19 => ⟨_, I.new N19, fun k20 I => ?_⟩⟩)
  refine vSelf g V rfl hC I (by decide +kernel) (by walk_at "lk") (ns := ["kind", "name", "dummies", "entries", "symbols", "statements", "formats", "labels", "result", "commons"]) rfl (by decide +kernel) (by simp) ?_
  refine eListM (okEs_nil ⟨by simp, fun c7 k21 N21 => ⟨_, I.new N21, fun k22 I => ?_⟩⟩)
  refine vSelf g V rfl hC I (by decide +kernel) (by walk_at "lk") (ns := ["kind", "name", "dummies", "entries", "symbols", "statements", "formats", "labels", "result", "commons", "equivs"]) rfl (by decide +kernel) (by simp) ?_
  refine eListM (okEs_nil ⟨by simp, fun c8 k23 N23 => ⟨_, I.new N23, fun k24 I => ?_⟩⟩)
  refine vSelf g V rfl hC I (by decide +kernel) (by walk_at "lk") (ns := ["kind", "name", "dummies", "entries", "symbols", "statements", "formats", "labels", "result", "commons", "equivs", "datas"]) rfl (by decide +kernel) (by simp) ?_
  refine eListM (okEs_nil ⟨by simp, fun c9 k25 N25 => ⟨_, I.new N25, fun k26 I => ?_⟩⟩)
  refine vSelf g V rfl hC I (by decide +kernel) (by walk_at "lk") (ns := ["kind", "name", "dummies", "entries", "symbols", "statements", "formats", "labels", "result", "commons", "equivs", "datas", "saves"]) rfl (by decide +kernel) (by simp) ?_
  refine eDictS fun c10 k27 N27 => ⟨_, I.new N27, fun k28 I => ?_⟩
  refine vNil ⟨rfl, upd k28 dx (.dictS true _), frzs_one I.di, ?_⟩
  have e : ∀ p a, a ≠ dx → upd k28 dx p a = k28 a := fun p a ha => upd_ne ha
  have xd : x ≠ dx := fun z => by have := I.ob; rw [z, I.di] at this; cases this
  have t2 := I.tr (c2, .dictS false []) (by simp)
  have t3 := I.tr (c3, .list false []) (by simp)
  have f2 := I.fresh (q := (c2, .dictS false [])) (by simp)
  have f3 := I.fresh (q := (c3, .list false [])) (by simp)
  have nd : ∀ {es : List (Str × PV)}, es.map (·.1) = (["kind", "name", "dummies", "entries", "symbols", "statements", "formats", "labels", "result", "commons", "equivs", "datas", "saves", "constants"] : List Str) → (es.map (·.1)).Nodup := fun h => by rw [h]; decide +kernel
  refine h x C dx _ c3 c2 _ (by rw [e _ _ xd]; exact I.ob) hC upd_at (lookup_nodup (nd rfl) (List.mem_of_getElem? (i := 1) rfl)) (lookup_nodup (nd rfl) (List.mem_of_getElem? (i := 4) rfl)) (lookup_nodup (nd rfl) (List.mem_of_getElem? (i := 5) rfl)) (by rw [e _ _ t3.2]; exact t3.1) (by rw [e _ _ t2.2]; exact t2.1) (fun a p ha => ?_) f3 f2
  obtain ⟨h1, h2, _⟩ := I.ext a p ha
  rw [e _ _ h2]; exact h1

/-- Symbol(name) -/
theorem eSymbol (g : Prg G) (W : EnvG env sc) {p pos : Pos} {e : PySem.Expr} {y : Str} (hx : globOk sc "Symbol" = true) (hR : Room A 3) (hst : notStar e = true) (hy : ∀ P' : PV → KH → Prop, P' (.str y) k → OkE prog w G A env k m (eval e env) P')
    (h : ∀ x C dx es k', k' x = some (.inst C dx) → ClsG G 22 "Symbol" C → k' dx = some (.dictS false es) → es.length ≤ 100 → Ext k k' → k dx = none → P (.ref x) k') : OkE prog w G A env k m (eval (.Call (.Name "Symbol" p) [e] [] pos) env) P := by
  refine okE_cls (n := 22) (d := 1) g W hx rfl hR (by decide +kernel) hst rfl ?_
  refine okEs_cons hst (hy _ (okEs_nil ?_))
  refine ⟨by show 2 = _; decide +kernel, fun C x dx k2 k3 hC N2 N3 env' A' V => ?_⟩
  have W' := V.g
  have I := Ini.start N2 N3
  show OkX prog w G A' env' k3 (setL (setL (fun _ => none) "self" (.ref x)) "name" (.str y)) (execs (iBody 22) env') _
  refine vSelf g V rfl hC I (by decide +kernel) (by walk_at "lk") (ns := []) rfl (by decide +kernel) (by simp) ?_
  repeat walk_at "v1"
  refine ⟨_, I, fun k4 I => ?_⟩
  refine vSelf g V rfl hC I (by decide +kernel) (by walk_at "lk") (ns := ["name"]) rfl (by decide +kernel) (by simp) ?_
  repeat walk_at "v1"
  refine ⟨_, I, fun k5 I => ?_⟩
  refine vSelf g V rfl hC I (by decide +kernel) (by walk_at "lk") (ns := ["name", "kind"]) rfl (by decide +kernel) (by simp) ?_
  repeat walk_at "v1"
  refine ⟨_, I, fun k6 I => ?_⟩
  refine vSelf g V rfl hC I (by decide +kernel) (by walk_at "lk") (ns := ["name", "kind", "length"]) rfl (by decide +kernel) (by simp) ?_
  refine eListM (okEs_nil ⟨by simp, fun c0 k7 N7 => ⟨_, I.new N7, fun k8 I => ?_⟩⟩)
  refine vSelf g V rfl hC I (by decide +kernel) (by walk_at "lk") (ns := ["name", "kind", "length", "dims"]) rfl (by decide +kernel) (by simp) ?_
  repeat walk_at "v1"
  refine ⟨_, I, fun k9 I => ?_⟩
  refine vSelf g V rfl hC I (by decide +kernel) (by walk_at "lk") (ns := ["name", "kind", "length", "dims", "use"]) rfl (by decide +kernel) (by simp) ?_
  repeat walk_at "v1"
  refine ⟨_, I, fun k10 I => ?_⟩
  refine vSelf g V rfl hC I (by decide +kernel) (by walk_at "lk") (ns := ["name", "kind", "length", "dims", "use", "is_dummy"]) rfl (by decide +kernel) (by simp) ?_
  repeat walk_at "v1"
  refine ⟨_, I, fun k11 I => ?_⟩
  refine vSelf g V rfl hC I (by decide +kernel) (by walk_at "lk") (ns := ["name", "kind", "length", "dims", "use", "is_dummy", "value"]) rfl (by decide +kernel) (by simp) ?_
  repeat walk_at "v1"
  refine ⟨_, I, fun k12 I => ?_⟩
  refine vSelf g V rfl hC I (by decide +kernel) (by walk_at "lk") (ns := ["name", "kind", "length", "dims", "use", "is_dummy", "value", "common"]) rfl (by decide +kernel) (by simp) ?_
  repeat walk_at "v1"
  refine ⟨_, I, fun k13 I => ?_⟩
  refine vNil ⟨rfl, ?_⟩
  exact h x C dx _ _ I.ob hC I.di (by simp) (fun a p ha => (I.ext a p ha).1) N2.old
end

theorem GS.to {k k' : KH} {T : Addr} {Λ : Addr → Prop} {i : Int} {f : Addr → List PV} (S : GS k T Λ i f) (hT : ∀ vs, k T = some (.wlist vs) → k' T = some (.wlist vs)) (hF : Fz k k') : GS k' T (fun _ => False) i (fun _ => []) where
  tape := let ⟨S', ns, h1, h2, h3⟩ := S.tape; ⟨S', ns, hT _ h1, hF _ _ h2 rfl, h3⟩
  pos := S.pos
  logs := fun _ h => h.elim
  len := fun _ h => h.elim
  val := fun _ h => h.elim
theorem Book0.notinW {k : KH} {D : Nat → Addr} {f : Rec} {adr : Nat → Key → Addr} (B : Book0 k D f adr) {a : Addr} {vs : List PV} (ha : k a = some (.wlist vs)) : ¬ InB D adr f a := by
  rintro (⟨j, hj, rfl⟩ | ⟨j, x, hj, hf, rfl⟩)
  · have := B.dict j hj
    revert this
    generalize decide (j < 2) = b
    intro h
    cases h with
    | s a1 _ _ _ => rw [ha] at a1; cases a1
    | i a1 _ _ _ => rw [ha] at a1; cases a1
  · cases h : f j x with
    | none => exact hf h
    | some l => have h1 := B.list j x l hj h; rw [ha] at h1; cases h1

/-- the law's state between two statements -/
structure LS (G : Glob') (k : KH) (m : Loc) (T ux sl sd kn : Addr) (D : Nat → Addr) (hs : List Hist) (i : Int) : Prop where
  tape : GS k T (fun _ => False) i (fun _ => [])
  unit : ∃ C dx es, k ux = some (.inst C dx) ∧ ClsG G 23 "UnitTree" C ∧ k dx = some (.dictS true es) ∧ es.lookup ("name" : Str) = some (.str "S") ∧ es.lookup ("symbols" : Str) = some (.ref sd) ∧ es.lookup ("statements" : Str) = some (.ref sl)
  knl : k kn = some (.list true [.ref (D 0), .ref (D 1), .ref (D 2), .ref (D 3)])
  sts : ∃ vs, k sl = some (.list false vs) ∧ All2 (StAt k) vs hs
  syms : k sd = some (.dictS false [])
  sdD : ∀ j, j < 4 → sd ≠ D j
  book : Book k D (foldR hs)
  bound : i ≤ 2 + 1100 * hs.length
  mt : m "tape" = some (.ref T)
  mu : m "unit" = some (.ref ux)
  mkn : m "known" = some (.ref kn)
noncomputable def lawBody : List Stmt := match (bodyN 36).drop 4 with | .For _ _ b .. :: _ => b | _ => []

theorem sts_refs {k : KH} : ∀ {vs : List PV} {hs : List Hist}, All2 (StAt k) vs hs → (∀ v ∈ vs, ∃ a, v = .ref a) ∧ vs.length = hs.length
  | [], [], _ => ⟨fun _ h => (by cases h), rfl⟩
  | v :: vs, h :: hs, ⟨h1, h2⟩ => by
    obtain ⟨i1, i2⟩ := sts_refs h2
    refine cps fun qZ hZ => ?_
    obtain ⟨a, s, e, _⟩ := h1
    refine hZ ?_
    clear hZ qZ
    refine ⟨fun u hu => ?_, by simp [i2]⟩
    rcases List.mem_cons.mp hu with z | z
    · exact ⟨a, z.trans e⟩
    · exact i1 u z
theorem refs_noint {vs : List PV} (h : ∀ v ∈ vs, ∃ a, v = .ref a) : ∀ i r, vs ≠ .int i :: r := fun i r z => by
  obtain ⟨a, ha⟩ := h (.int i) (by rw [z]; exact .head _)
  cases ha

section
variable {prog : Program} {w : World} {G : Glob'} {A : Around} {k : KH} {m : Loc} {env : Env} {PX : Fl → Loc → KH → Prop}

theorem pick3 {t j : Int} (h : 0 ≤ j ∧ j < 3) (ht : 0 ≤ t ∧ t < 8) : ∃ lb, pyIdx [.int 0, .int 0, .int (10 + t)] j = some (.int lb) ∧ (lb = 0 ∨ 10 ≤ lb ∧ lb < 18) := by
  rcases (show j = 0 ∨ j = 1 ∨ j = 2 by first | lia | omega) with rfl | rfl | rfl
  · exact ⟨0, rfl, .inl rfl⟩
  · exact ⟨0, rfl, .inl rfl⟩
  · exact ⟨10 + t, rfl, .inr (by first | lia | omega)⟩

set_option maxHeartbeats 8000000 in
theorem turn_ok (g : Prg G) (V : EnvOk G env A (scopeN 36) 100) {T ux sl sd kn : Addr} {D : Nat → Addr} {hs : List Hist} {i ln t : Int} (L : LS G k m T ux sl sd kn D hs i) (hline : m "line" = some (.int ln)) (hturn : m "turn" = some (.int t)) (ht : 0 ≤ t ∧ t < 8) (hlen : hs.length < 20)
    (h : ∀ m' k' x ln' i', LS G k' m' T ux sl sd kn D (hs ++ [x]) i' → m' "line" = some (.int ln') → PX .next m' k') : OkX prog w G A env k m (execs lawBody env) PX := by
  have W := V.g
  refine cps fun qZ hZ => ?_
  obtain ⟨S0, hun, hkn, ⟨vs, hsl, hst⟩, hsd, hsdD, ⟨adr, B⟩, hbd, mt, mu, mk⟩ := L
  refine hZ ?_
  clear hZ qZ
  obtain ⟨hrefs, hvl⟩ := sts_refs hst
  refine cps fun qZ hZ => ?_
  obtain ⟨C, dx, es0, hux, hC, hdx, l1, l2, l3⟩ := hun
  refine hZ ?_
  clear hZ qZ
  have hb : Bd (foldR hs) ln 1000 := foldR_bd (by first | lia | omega)
  refine vAssign V rfl (by decide +kernel) ?_
  refine okE_Sub ?_
  refine eListF ?_
  repeat walk_at "v1"
  refine ⟨by simp, fun c1 k1 N1 => ?_⟩
  repeat walk_at "v1"
  refine take_ok g (V.r.le (by first | lia | omega)) (S0.new N1) (by first | lia | omega) (by decide) fun j k2 j0 j3 S2 t2 => ?_
  obtain ⟨lb, hlb, hlb2⟩ := pick3 ⟨j0, j3⟩ ht
  refine oIdxL rfl (t2.frz N1.at rfl) (.inl ⟨_, rfl⟩) ⟨by first | lia | omega, by first | lia | omega⟩ hlb ?_
  refine vAssign V rfl (by decide +kernel) ?_
  refine eListM (okEs_nil ⟨by simp, fun Sa k3 N3 => ?_⟩)
  refine vAssign V rfl (by decide +kernel) ?_
  refine eListM (okEs_nil ⟨by simp, fun U k4 N4 => ?_⟩)
  refine vAssign V rfl (by decide +kernel) ?_
  refine eListM (okEs_nil ⟨by simp, fun M k5 N5 => ?_⟩)
  generalize hmm : setL (setL (setL (setL m "label" (.int lb)) "sets" (.ref Sa)) "uses" (.ref U)) "marks" (.ref M) = mm
  have nt : mm "tape" = some (.ref T) := by rw [← hmm]; walk_at "lk"
  have nu : mm "unit" = some (.ref ux) := by rw [← hmm]; walk_at "lk"
  have nk : mm "known" = some (.ref kn) := by rw [← hmm]; walk_at "lk"
  have nl : mm "line" = some (.int ln) := by rw [← hmm]; walk_at "lk"
  have nb : mm "label" = some (.int lb) := by rw [← hmm]; walk_at "lk"
  have nS : mm "sets" = some (.ref Sa) := by rw [← hmm]; walk_at "lk"
  have nU : mm "uses" = some (.ref U) := by rw [← hmm]; walk_at "lk"
  have nM : mm "marks" = some (.ref M) := by rw [← hmm]; walk_at "lk"
  clear hmm
  -- what stands so far
  have hT0 : ∃ vs, k T = some (.wlist vs) := let ⟨S', ns, a, _, _⟩ := S0.tape; ⟨_, a⟩
  obtain ⟨tv, hT0⟩ := hT0
  have hslT : sl ≠ T := fun z => by rw [z, hT0] at hsl; cases hsl
  have K2 : ∀ a p, k a = some p → a ≠ T → k2 a = some p := fun a p e ne => t2.out (N1.get e) (fun z => z.elim ne id)
  have K5 : ∀ a p, k a = some p → a ≠ T → k5 a = some p ∧ a ≠ Sa ∧ a ≠ U ∧ a ≠ M := fun a p e ne =>
    ⟨N5.get (N4.get (N3.get (K2 a p e ne))), N3.ne (K2 a p e ne), N4.ne (N3.get (K2 a p e ne)), N5.ne (N4.get (N3.get (K2 a p e ne)))⟩
  have F5 : Fz k k5 := N1.fz.comp (t2.fz.comp (N3.fz.comp (N4.fz.comp N5.fz)))
  have hSU : Sa ≠ U := N4.ne N3.at
  have hSM : Sa ≠ M := N5.ne (N4.get N3.at)
  have hUM : U ≠ M := N5.ne N4.at
  have S5 : GS k5 T (fun a => a = Sa ∨ a = U ∨ a = M) (i + 1) (fun _ => []) := by
    have S4 := ((S2.new N3).new N4).new N5
    refine ⟨S4.tape, S4.pos, ?_, fun a _ => S4.pos, fun a _ x hx => (by cases hx)⟩
    rintro a (rfl | rfl | rfl)
    · exact N5.get (N4.get N3.at)
    · exact N5.get N4.at
    · exact N5.at
  refine cps fun qZ hZ => ?_
  obtain ⟨q1, q2, q3, q4⟩ := K5 sl _ hsl hslT
  refine hZ ?_
  clear hZ qZ
  refine vExpr V rfl ?_
  refine okE_append (by decide +kernel) (by decide +kernel) (by decide +kernel) ?_
  refine okE_Attr g rfl (by with_unfolding_all rfl) ?_
  refine okE_Name nu (by decide +kernel) ?_
  refine ⟨ux, C, dx, true, es0, _, _, _, rfl, F5 _ _ hux rfl, hC, F5 _ _ hdx rfl, by decide +kernel, l3, (fun z => nomatch z), ?_⟩
  refine ⟨sl, vs, false, rfl, q1, ?_⟩
  refine eTup ?_
  repeat walk_at "v1"
  refine stmt_ok g (V.r.le (by first | lia | omega)) S5 (by first | lia | omega) (.inl rfl) (.inr (.inl rfl)) (.inr (.inr rfl)) hSM hUM fun v es ls k6 i6 b1 b2 hmem S6 t6 T6 => ?_
  repeat walk_at "v1"
  refine ⟨by simp, fun tt k7 N7 => ?_⟩
  have K6 : ∀ a p, k a = some p → a ≠ T → k6 a = some p := fun a p e ne => by
    refine cps fun qZ hZ => ?_
    obtain ⟨x1, x2, x3, x4⟩ := K5 a p e ne
    refine hZ ?_
    clear hZ qZ
    exact t6.out x1 (fun z => z.elim ne fun z => z.elim x2 fun z => z.elim x3 x4)
  have hsl6 := K6 sl _ hsl hslT
  have hsl7 : k7 sl = some (.list false vs) := N7.get hsl6
  refine ⟨vs, hsl7, sz_le (by rw [hvl]; (first | lia | omega)), fun k8 U8 => ?_⟩
  refine okX_frzs (k' := frzBut (fun a => ¬(a = Sa ∨ a = U ∨ a = M)) k8) frzBut_frzs ?_
  generalize hk9 : frzBut (fun a => ¬(a = Sa ∨ a = U ∨ a = M)) k8 = k9
  have e9 : ∀ a, ¬(a = Sa ∨ a = U ∨ a = M) → k9 a = k8 a := fun a ha => by rw [← hk9]; unfold frzBut; rw [if_pos ha]
  have f9 : ∀ a p, (a = Sa ∨ a = U ∨ a = M) → k8 a = some p → k9 a = some p.fz := fun a p ha e => by rw [← hk9]; unfold frzBut; rw [if_neg (fun z => z ha), e]; rfl
  have F69 : Fz k6 k9 := N7.fz.comp ((U8.fz hsl7 rfl).comp (hk9 ▸ frzBut_frzs.le.fz))
  have K9 : ∀ a p, k a = some p → a ≠ T → a ≠ sl → k9 a = some p := fun a p e ne n2 => by
    refine cps fun qZ hZ => ?_
    obtain ⟨x1, x2, x3, x4⟩ := K5 a p e ne
    refine hZ ?_
    clear hZ qZ
    rw [e9 a (fun z => z.elim x2 fun z => z.elim x3 x4), U8.ne n2]
    exact N7.get (K6 a p e ne)
  have hT6 : ∃ vs, k6 T = some (.wlist vs) := let ⟨S', ns, a, _, _⟩ := S6.tape; ⟨_, a⟩
  have TS : ∀ a, a = Sa ∨ a = U ∨ a = M → k6 a = some (.list false (appL (fun _ => []) (lE Sa U M ls) a)) := fun a ha => S6.logs a ha
  have S9 : GS k9 T (fun _ => False) i6 (fun _ => []) := S6.to (fun vs e => by
    rw [e9 T (fun z => by rw [TS T z] at e; cases e), U8.ne (fun z => hslT z.symm)]
    exact N7.get e) F69
  have hty : tyL ls := fun e he => T6.ty e ((hmem e).mpr he)
  have hok : evOk ls := log_ok S6 hSU hSM hUM (.inl rfl) (.inr (.inl rfl)) (.inr (.inr rfl)) hty
  obtain ⟨a0, a1, a2⟩ := appL_logs hSU hSM hUM ls hty
  have fr : ∀ a, a = Sa ∨ a = U ∨ a = M → k9 a = some (.list true (appL (fun _ => []) (lE Sa U M ls) a)) := fun a ha => by
    have h8 : k8 a = some (.list false (appL (fun _ => []) (lE Sa U M ls) a)) := by
      rw [U8.ne (fun w => by subst w; exact ha.elim q2 fun z => z.elim q3 q4)]
      exact N7.get (TS a ha)
    exact f9 a _ ha h8
  have hS9 : k9 Sa = some (.list true ((logS 0 ls).map .str)) := by rw [fr Sa (.inl rfl), a0]
  have hU9 : k9 U = some (.list true ((logS 1 ls).map .str)) := by rw [fr U (.inr (.inl rfl)), a1]
  have hM9 : k9 M = some (.list true ((logI ls).map .int)) := by rw [fr M (.inr (.inr rfl)), a2]
  have B9 : Book k9 D (foldR hs) := ⟨adr, B.same fun a p ha e => K9 a p e (fun z => B.notinW hT0 (z ▸ ha)) fun z => B.notin hsl (refs_noint hrefs) (z ▸ ha)⟩
  have hkn9 := K9 kn _ hkn (fun z => by rw [z, hT0] at hkn; cases hkn) (fun z => by rw [z, hsl] at hkn; cases hkn)
  have hsd9 := K9 sd _ hsd (fun z => by rw [z, hT0] at hsd; cases hsd) (fun z => by rw [z, hsl] at hsd; cases hsd)
  have hsl9 : k9 sl = some (.list false (vs ++ [.ref tt])) := by
    rw [e9 sl (fun z => z.elim q2 fun z => z.elim q3 q4)]; exact U8.at
  have htt : tt ≠ sl := fun z => N7.ne hsl6 z.symm
  have htt7 : k7 tt = some (.tup [.int lb, v, .int ln]) := N7.at
  have htt9 : k9 tt = some (.tup [.int lb, v, .int ln]) := (N7.fz.comp Fz.refl |> fun _ => (show Fz k7 k9 from (U8.fz hsl7 rfl).comp (hk9 ▸ frzBut_frzs.le.fz))) _ _ htt7 rfl
  have refs' : ∀ u ∈ vs ++ [PV.ref tt], ∃ a, u = .ref a := fun u hu => by
    rcases List.mem_append.mp hu with z | z
    · exact hrefs u z
    · rw [List.mem_singleton] at z; exact ⟨tt, z⟩
  have F9 : Fz k k9 := fun a p e hf => K9 a p e (fun z => by rw [z, hT0] at e; cases e; cases hf) fun z => by rw [z, hsl] at e; cases e; cases hf
  clear hk9 e9 f9 K9 TS S5 K5 K6 K2
  -- the known lines
  repeat walk_at "v1"
  refine oIdxL rfl hkn9 (.inl ⟨_, rfl⟩) ⟨by decide, by decide⟩ (x := .ref (D 0)) rfl ?_
  repeat walk_at "v1"
  refine once_s g (V.r.le (by first | lia | omega)) B9 hS9 (by first | lia | omega) (fun y hy => hok _ (logS_mem.mp hy)) hb fun k10 B10 F10 => ?_
  repeat walk_at "v1"
  refine oIdxL rfl (F10.fz _ _ hkn9 rfl) (.inl ⟨_, rfl⟩) ⟨by decide, by decide⟩ (x := .ref (D 1)) rfl ?_
  repeat walk_at "v1"
  refine once_s g (V.r.le (by first | lia | omega)) B10 (F10.fz _ _ hU9 rfl) (by first | lia | omega) (fun y hy => hok _ (logS_mem.mp hy)) (hb.adds (by first | lia | omega) _) fun k11 B11 F11 => ?_
  have F11 := F10.comp F11
  repeat walk_at "v1"
  refine oIdxL rfl (F11.fz _ _ hkn9 rfl) (.inl ⟨_, rfl⟩) ⟨by decide, by decide⟩ (x := .ref (D 2)) rfl ?_
  repeat walk_at "v1"
  refine once_i g (V.r.le (by first | lia | omega)) B11 (F11.fz _ _ hM9 rfl) (by first | lia | omega) (by first | lia | omega) (fun y hy => hok _ (logI_mem.mp hy)) ((hb.adds (by first | lia | omega) _).adds (by first | lia | omega) _) fun k12 B12 F12 => ?_
  have F12 := F11.comp F12
  refine vIfJ (fun m2 k2 => m2 = mm ∧ Book k2 D (addEvs (addEvs (addEvs (addEvs (foldR hs) ((logS 0 ls).map fun y => (0, .s y)) ln) ((logS 1 ls).map fun y => (1, .s y)) ln) ((logI ls).map fun y => (2, .i y)) ln) (if lb = 0 then [] else [(3, .i lb)]) ln) ∧ BF D k9 k2) V ?_ ?_
  · repeat walk_at "v1"
    refine ⟨fun hh => ?_, fun hh => ?_⟩
    · have hl0 : 0 < lb := of_decide_eq_true hh
      repeat walk_at "v1"
      refine oIdxL rfl (F12.fz _ _ hkn9 rfl) (.inl ⟨_, rfl⟩) ⟨by decide, by decide⟩ (x := .ref (D 3)) rfl ?_
      refine okEs_cons rfl ?_
      refine eListF ?_
      repeat walk_at "v1"
      refine ⟨by simp, fun c13 k13 N13 => ?_⟩
      repeat walk_at "v1"
      refine once_i g (V.r.le (by first | lia | omega)) (B12.new N13) (ys := [lb]) N13.at (by first | lia | omega) (by first | lia | omega) (fun y hy => ?_) (((hb.adds (by first | lia | omega) _).adds (by first | lia | omega) _).adds (by first | lia | omega) _) fun k14 B14 F14 => ?_
      · rw [List.mem_singleton] at hy
        subst hy
        exact ⟨by first | lia | omega, by first | lia | omega, by first | lia | omega, by first | lia | omega⟩
      · repeat walk_at "v1"
        refine ⟨rfl, rfl, ?_, (F12.comp N13.bf).comp F14⟩
        rw [if_neg (show ¬ lb = 0 by first | lia | omega)]; exact B14
    · have hl0 : ¬ 0 < lb := of_decide_eq_false hh
      repeat walk_at "v1"
      refine ⟨rfl, rfl, ?_, F12⟩
      rw [if_pos (show lb = 0 by first | lia | omega)]; exact B12
  · rintro m2 k14 ⟨rfl, B14, F14⟩
    rw [← addEvs_app, ← addEvs_app, ← addEvs_app] at B14
    have hev : addEvs (foldR hs) (((logS 0 ls).map fun y => (0, .s y)) ++ (((logS 1 ls).map fun y => (1, .s y)) ++ (((logI ls).map fun y => (2, .i y)) ++ (if lb = 0 then [] else [(3, .i lb)])))) ln = foldR (hs ++ [(lb, es, ln)]) := by
      rw [foldR_snoc]
      refine addEvs_congr fun e => ?_
      simp only [evs, List.mem_append, List.mem_map]
      constructor
      · rintro (⟨y, hy, rfl⟩ | ⟨y, hy, rfl⟩ | ⟨y, hy, rfl⟩ | z)
        · exact .inr ((hmem _).mpr (logS_mem.mp hy))
        · exact .inr ((hmem _).mpr (logS_mem.mp hy))
        · exact .inr ((hmem _).mpr (logI_mem.mp hy))
        · exact .inl z
      · rintro (z | z)
        · exact .inr (.inr (.inr z))
        · have z := (hmem e).mp z
          obtain ⟨j, y⟩ := e
          rcases hty _ z with ⟨a, x, b⟩ | ⟨a, n, b⟩
          · dsimp only at a b
            subst b
            rcases (show j = 0 ∨ j = 1 by first | lia | omega) with rfl | rfl
            · exact .inl ⟨x, logS_mem.mpr z, rfl⟩
            · exact .inr (.inl ⟨x, logS_mem.mpr z, rfl⟩)
          · dsimp only at a b
            subst b
            subst a
            exact .inr (.inr (.inl ⟨n, logI_mem.mpr z, rfl⟩))
    rw [hev] at B14
    have S14 : GS k14 T (fun _ => False) i6 (fun _ => []) := S9.to (fun vs e => F14 _ _ e (.inr (.inl ⟨_, rfl⟩))) F14.fz
    refine vAug V (by decide +kernel) nl ?_
    repeat walk_at "v1"
    refine take_ok g (V.r.le (by first | lia | omega)) S14 (by first | lia | omega) (by decide) fun j2 k15 _ _ S15 t15 => ?_
    repeat walk_at "v1"
    have hT14 : ∃ vs, k14 T = some (.wlist vs) := let ⟨S', ns, a, _, _⟩ := S14.tape; ⟨_, a⟩
    obtain ⟨tv14, hT14⟩ := hT14
    have K15 : ∀ a p, k14 a = some p → (∀ vs, p ≠ .wlist vs) → k15 a = some p := fun a p e hn => t15.out e (by
      rintro (z | z)
      · rw [z, hT14] at e; cases e; exact hn _ rfl
      · exact z)
    have F15 : Fz k9 k15 := F14.fz.comp t15.fz
    refine h _ _ (lb, es, ln) (ln + (1 + j2)) (i6 + 1) ⟨S15, ⟨C, dx, es0, F15 _ _ (F9 _ _ hux rfl) rfl, hC, F15 _ _ (F9 _ _ hdx rfl) rfl, l1, l2, l3⟩, F15 _ _ hkn9 rfl, ⟨_, K15 _ _ (F14 _ _ hsl9 (.inr (.inr (.inl ⟨_, rfl, refs_noint refs'⟩)))) (fun _ z => nomatch z), ?_⟩,
      K15 _ _ (F14 _ _ hsd9 (.inr (.inr (.inr ⟨.inl ⟨_, rfl⟩, hsdD⟩)))) (fun _ z => nomatch z), hsdD, B14.keep K15, ?_, ?_, ?_, ?_⟩ lk_here
    · refine (hst.mono fun a b x => x.mono (F9.comp F15)).snoc ⟨tt, v, rfl, F15 _ _ htt9 rfl, (T6.mono F69).mono F15, fun e he => hok e ((hmem e).mp he), hlb2⟩
    · rw [List.length_append, List.length_singleton]; (first | lia | omega)
    · walk_at "lk"
    · walk_at "lk"
    · walk_at "lk"
end

section
variable {prog : Program} {w : World} {G : Glob'} {A : Around} {k : KH} {P : PV → KH → Prop} {R : RH}
mutual
theorem reads_of {h : Heap} (H : Has prog w h k R) : ∀ {v d va}, RD k v d → ab va = v → ∃ as, Reads h va d as
  | _, _, _, .int, e => by obtain ⟨t, rfl⟩ := ab_int e; exact ⟨_, .int _ _⟩
  | _, _, _, .str, e => by obtain ⟨t, rfl⟩ := ab_str e; exact ⟨_, .str _ _⟩
  | _, _, _, .list e1 r, e => by
    cases ab_ref e
    refine cps fun qZ hZ => ?_
    obtain ⟨arr, ⟨o, ho, hc, n, hd⟩, ht⟩ := H.isList e1 (.inl ⟨_, rfl⟩)
    refine hZ ?_
    clear hZ qZ
    obtain ⟨as, ra⟩ := reads_all H r ht
    exact ⟨_, .list ho hc hd ra⟩
  | _, _, _, .tup e1 r, e => by
    cases ab_ref e
    refine cps fun qZ hZ => ?_
    obtain ⟨arr, ⟨o, ho, hc, n, hd⟩, ht⟩ := H.isTuple e1
    refine hZ ?_
    clear hZ qZ
    obtain ⟨as, ra⟩ := reads_all H r ht
    exact ⟨_, .tuple ho hc hd ra⟩
theorem reads_all {h : Heap} (H : Has prog w h k R) : ∀ {vs ds vas}, RDs k vs ds → List.map ab vas = vs → ∃ as, ReadsAll h vas ds as
  | _, _, [], .nil, _ => ⟨_, .nil⟩
  | _, _, _ :: _, .nil, e => by cases e
  | _, _, [], .cons _ _, e => by cases e
  | _, _, _ :: _, .cons a r, e => by
    rw [List.map_cons, List.cons.injEq] at e
    obtain ⟨as, ra⟩ := reads_of H a e.1
    obtain ⟨bs, rb⟩ := reads_all H r e.2
    exact ⟨_, .cons ra rb⟩
end
mutual
theorem RD.same : ∀ {v d}, RD k v d → PySem.Spec.same d d = true
  | _, _, .int => by simp [PySem.Spec.same]
  | _, _, .str => by simp [PySem.Spec.same]
  | _, _, .list _ r => by rw [PySem.Spec.same]; exact r.same
  | _, _, .tup _ r => by rw [PySem.Spec.same]; exact r.same
theorem RDs.same : ∀ {v d}, RDs k v d → PySem.Spec.sameAll d d = true
  | _, _, .nil => rfl
  | _, _, .cons a r => by rw [PySem.Spec.sameAll, a.same, r.same]; rfl
end
mutual
theorem RD.mix : ∀ {v d}, RD k v d → PySem.SeqAt.noMix d d = true
  | _, _, .int => rfl
  | _, _, .str => rfl
  | _, _, .list _ r => by rw [PySem.SeqAt.noMix]; exact r.mix
  | _, _, .tup _ r => by rw [PySem.SeqAt.noMix]; exact r.mix
theorem RDs.mix : ∀ {v d}, RDs k v d → PySem.SeqAt.noMixAll d d = true
  | _, _, .nil => rfl
  | _, _, .cons a r => by rw [PySem.SeqAt.noMixAll, a.mix, r.mix]; rfl
end
theorem oEqD {a b : PV} {d : PyData} {e : Nat} (hR : Room A e) (ra : RD k a d) (rb : RD k b d) (sh : PySem.SeqAt.shaped d = true) (h : P (.bool true) k) : OkO prog w G A k (compareOp .Eq) a b P := fun R O va vb ea eb s Q H q => by
  obtain ⟨as, xa⟩ := reads_of H ra ea
  obtain ⟨bs, xb⟩ := reads_of H rb eb
  refine eq_dataH_same xa xb sh sh (by have := hR.units; unfold cLine; (first | lia | omega)) ra.mix ?_
  rw [ra.same]
  exact q _ _ _ _ h H
end

/-! the end's data -/
theorem lay_all {l : List PyData} (h : ∀ x ∈ l, PyData.canLay0 x = true) : PyData.canLayAll0 l = true := by
  induction l with
  | nil => rfl
  | cons x r ih => rw [PyData.canLayAll0, h x (.head _), ih fun y hy => h y (.tail _ hy)]; rfl
theorem depth_all {n : Nat} {l : List PyData} (h : ∀ x ∈ l, PyData.depth x ≤ n) : PyData.depthAll l ≤ n := by
  induction l with
  | nil => exact Nat.zero_le _
  | cons x r ih => rw [PyData.depthAll]; exact Nat.max_le.mpr ⟨h x (.head _), ih fun y hy => h y (.tail _ hy)⟩
theorem intsD_ok (l : Option (List Int)) : PyData.canLay0 (intsD l) = true ∧ PyData.depth (intsD l) ≤ 1 := by
  constructor
  · rw [intsD, PyData.canLay0]
    refine lay_all fun x hx => ?_
    obtain ⟨n, _, rfl⟩ := List.mem_map.mp hx
    rfl
  · rw [intsD, PyData.depth]
    refine Nat.succ_le_succ (depth_all fun x hx => ?_)
    obtain ⟨n, _, rfl⟩ := List.mem_map.mp hx
    exact Nat.le_refl _
noncomputable def finD (F : Rec) (syms : List Sym) (ns : List Int) : PyData := .list [.tuple [.str "S", .list (rowsD F syms), .list (ns.map (labD F))], .tuple [.str "D", .list [], .list []]]
theorem finD_ok {F : Rec} {syms : List Sym} {ns : List Int} (h : ∀ s ∈ syms, PyData.canLay0 (.str s.1) = true ∧ PyData.canLay0 (.str s.2.2) = true) : PySem.SeqAt.shaped (finD F syms ns) = true := by
  have row : ∀ x ∈ rowsD F syms, PyData.canLay0 x = true ∧ PyData.depth x ≤ 2 := fun x hx => by
    obtain ⟨s, hs, e⟩ := List.mem_filterMap.mp hx
    unfold rowD at e
    split at e
    · cases e
      obtain ⟨h1, h2⟩ := h s hs
      obtain ⟨a1, a2⟩ := intsD_ok (F 0 (.s s.1))
      obtain ⟨b1, b2⟩ := intsD_ok (F 1 (.s s.1))
      refine ⟨?_, ?_⟩
      · simp only [PyData.canLay0, PyData.canLayAll0, Bool.and_true] at h1 h2 ⊢
        rw [h1, h2, a1, b1]; rfl
      · simp only [PyData.depth, PyData.depthAll]
        (first | lia | omega)
    · cases e
  have lab : ∀ x ∈ ns.map (labD F), PyData.canLay0 x = true ∧ PyData.depth x ≤ 2 := fun x hx => by
    obtain ⟨n, _, rfl⟩ := List.mem_map.mp hx
    obtain ⟨a1, a2⟩ := intsD_ok (F 3 (.i n))
    obtain ⟨b1, b2⟩ := intsD_ok (F 2 (.i n))
    refine ⟨?_, ?_⟩
    · simp only [labD, PyData.canLay0, PyData.canLayAll0, Bool.and_true]
      rw [a1, b1]; rfl
    · simp only [labD, PyData.depth, PyData.depthAll]
      (first | lia | omega)
  have r1 := lay_all fun x hx => (row x hx).1
  have r2 := depth_all fun x hx => (row x hx).2
  have l1 := lay_all fun x hx => (lab x hx).1
  have l2 := depth_all fun x hx => (lab x hx).2
  have sS : PyData.canLay0 (.str "S") = true := by decide +kernel
  have sD : PyData.canLay0 (.str "D") = true := by decide +kernel
  unfold PySem.SeqAt.shaped
  rw [Bool.and_eq_true]
  constructor
  · simp only [finD, PyData.canLay0, PyData.canLayAll0, Bool.and_true] at sS sD ⊢
    rw [sS, sD, r1, l1]; rfl
  · refine decide_eq_true ?_
    simp only [finD, PyData.depth, PyData.depthAll]
    (first | lia | omega)

/-- the law's state, its statements told -/
structure LF (G : Glob') (k : KH) (m : Loc) (ux sl sd kn : Addr) (D : Nat → Addr) (adr : Nat → Key → Addr) (hs : List Hist) (syms : List Sym) : Prop where
  unit : ∃ C dx es, k ux = some (.inst C dx) ∧ ClsG G 23 "UnitTree" C ∧ k dx = some (.dictS true es) ∧ es.lookup ("name" : Str) = some (.str "S") ∧ es.lookup ("symbols" : Str) = some (.ref sd) ∧ es.lookup ("statements" : Str) = some (.ref sl)
  knl : k kn = some (.list true [.ref (D 0), .ref (D 1), .ref (D 2), .ref (D 3)])
  sts : ∃ vs, k sl = some (.list false vs) ∧ All2 (StAt k) vs hs
  syms : ∃ rows, k sd = some (.dictS false rows) ∧ All2 (SymAt G k) rows syms
  book : Book0 k D (foldR hs) adr
  mu : m "unit" = some (.ref ux)
  mkn : m "known" = some (.ref kn)

section
variable {prog : Program} {w : World} {G : Glob'} {A : Around} {k : KH} {m : Loc} {env : Env} {P : PV → KH → Prop}

theorem eKn {kn : Addr} {D : Nat → Addr} {j : Nat} {c : Nat} {p p2 p3 : Pos} (hm : m "known" = some (.ref kn)) (hk : k kn = some (.list true [.ref (D 0), .ref (D 1), .ref (D 2), .ref (D 3)])) (hj : j < 4) (h : P (.ref (D j)) k) :
    OkE prog w G A env k m (eval (.Subscript (.Name "known" p) (.Constant (.int (j : Int)) c p2) p3) env) P := by
  refine okE_Sub (okE_Name hm (by decide +kernel) (okE_int (oIdxL rfl hk (.inl ⟨_, rfl⟩) ⟨by first | lia | omega, by first | lia | omega⟩ (pyIdx_pos (by first | lia | omega) ?_) h)))
  match j, hj with
  | 0, _ => rfl
  | 1, _ => rfl
  | 2, _ => rfl
  | 3, _ => rfl

noncomputable def frzAll (k : KH) : KH := frzBut (fun _ => False) k
theorem frzAll_at {k : KH} {a : Addr} {p : PO} (h : k a = some p) : frzAll k a = some p.fz := by unfold frzAll frzBut; rw [if_neg id, h]; rfl
theorem frzAll_frzs {k : KH} : Frzs k (frzAll k) := frzBut_frzs
theorem frzAll_part {k : KH} : LeR k (frzPart (frzAll k)) := ⟨fun a fz vs e => ⟨true, frzPart_at (frzAll_at e) rfl⟩, fun a vs e => frzPart_at (frzAll_at e) rfl⟩
theorem all2_one {R : UnitD → PyData → Prop} {a b : UnitD} {dd : List PyData} (h : All2 R [a, b] dd) : ∃ x y, dd = [x, y] ∧ R a x ∧ R b y := by
  match dd, h with
  | [x, y], ⟨h1, h2, _⟩ => exact ⟨x, y, rfl, h1, h2⟩

set_option maxHeartbeats 8000000 in
theorem fin_ok (g : Prg G) {d : Nat} (hd : 120 ≤ d) (V : EnvOk G env A (scopeN 36) d) {ux sl sd kn c : Addr} {D : Nat → Addr} {adr : Nat → Key → Addr} {hs : List Hist} {syms : List Sym} (L : LF G k m ux sl sd kn D adr hs syms) (hc : m "rows" = some (.ref c)) (hr : RD k (.ref c) (.list (rowsD (foldR hs) syms)))
    (so : SymOk syms) (hlen : hs.length < 900) (hok : ∀ s ∈ syms, PyData.canLay0 (.str s.1) = true ∧ PyData.canLay0 (.str s.2.2) = true) : OkX prog w G A env k m (execs ((bodyN 36).drop 7) env) fun fl _ _ => retOf fl = .bool true := by
  have W := V.g
  refine cps fun qZ hZ => ?_
  obtain ⟨hun, hkn, ⟨vs, hsl, hst⟩, ⟨rows, hsd, hsy⟩, B, mu, mk⟩ := L
  refine hZ ?_
  clear hZ qZ
  -- marks
  refine vAssign V rfl (by decide +kernel) ?_
  refine eLabs g V B Ext.refl (ja := 2) (jb := 3) (.inl ⟨rfl, rfl⟩) (caps := ["known"]) (by decide +kernel) (by decide +kernel) (by decide +kernel) (by decide +kernel) rfl rfl (fun _ => rfl)
    (fun kk P' F hp => eKn (j := 2) mk (F _ _ hkn rfl) (by first | lia | omega) hp) (fun kk P' F hp => eKn (j := 3) mk (F _ _ hkn rfl) (by first | lia | omega) hp) (fun kk cenv v P' F hp => eKn (j := 2) (by walk_at "lk") (F _ _ hkn rfl) (by first | lia | omega) hp) fun ns c1 k1 hL hns E1 hc1 hk1 => ?_
  -- labels
  refine okX_seq V.f (okX_AssignComp (caps := ["known"]) V.r.handled V.e (by rw [V.s]; decide +kernel) okGs_e (fun _ => rfl) ?_ ?_ ?_)
  · unfold Env.kindOf; rw [V.s]; decide +kernel
  · refine swaps_comp ?_
    unfold Env.blockKind Env.kindOf
    rw [V.s]; decide +kernel
  refine okE_Name lk_here (by decide +kernel) ?_
  refine ⟨_, _, src_list hk1 (.inl ⟨_, rfl⟩), ?_⟩
  refine wpCompE (fun its acc kk => ∃ ds rs, ds ++ rs = ns ∧ its = rs.map .int ∧ Ext k1 kk ∧ RDs kk acc (ds.map (labD (foldR hs))) ∧ acc.length = ds.length) ?_ ?_ ?_ _ _ _ ⟨[], ns, rfl, rfl, Ext.refl, .nil, rfl⟩
  · rintro its acc kk ⟨ds, rs, e1, e2, E, r, hl⟩
    exact ⟨⟨_, E _ _ hk1, .inl ⟨_, rfl⟩⟩, sz_le (by rw [hl]; rw [← e1, List.length_append] at hns; (first | lia | omega))⟩
  · rintro v its acc kk ⟨ds, rs, e1, e2, E, r, hl⟩
    match rs, e1, e2 with
    | y :: rs, e1, e2 =>
    rw [List.map_cons, List.cons.injEq] at e2
    obtain ⟨rfl, rfl⟩ := e2
    intro cenv hs' hE
    have Wc := envG_rel hs' hE
    have EE := E1.comp E
    have hm2 : setL (capL ["known"] (setL m "marks" (.ref c1))) "label" (.int y) "known" = some (.ref kn) := by walk_at "lk"
    refine eTup ?_
    refine okEs_cons rfl ?_
    refine okE_Name lk_here (by decide +kernel) ?_
    refine okEs_cons rfl ?_
    refine eGetI g (j := 3) (x := y) rfl rfl rfl B EE (by first | lia | omega) (by first | lia | omega) (fun P' hp => eKn (j := 3) hm2 (EE _ _ hkn) (by first | lia | omega) hp) (fun P' hp => okE_Name lk_here (by decide +kernel) hp) fun v1 g1 k3 M1 L1 => ?_
    refine okEs_cons rfl ?_
    refine eGetI g (j := 2) (x := y) rfl rfl rfl B (EE.comp M1.ext) (by first | lia | omega) (by first | lia | omega) (fun P' hp => eKn (j := 2) hm2 (M1.get (EE _ _ hkn)) (by first | lia | omega) hp) (fun P' hp => okE_Name lk_here (by decide +kernel) hp) fun v2 g2 k4 M2 L2 => ?_
    refine okEs_nil ⟨by simp, fun t k5 M3 => ?_⟩
    refine cps fun qZ hZ => ?_
    obtain ⟨b1, rfl, h1, _⟩ := L1
    refine hZ ?_
    clear hZ qZ
    refine cps fun qZ hZ => ?_
    obtain ⟨b2, rfl, h2, _⟩ := L2
    refine hZ ?_
    clear hZ qZ
    refine ⟨ds ++ [y], rs, by simp [e1], rfl, E.comp (M1.ext.comp (M2.ext.comp M3.ext)), ?_, by simp [hl]⟩
    rw [List.map_append]
    refine (RDs.le ((M1.ext.comp (M2.ext.comp M3.ext)).le.r) r).append (RDs.one (.tup M3.at (.cons .int (.cons (.list (M3.get (M2.get h1)) (RDs.ints _)) (.cons (.list (M3.get h2) (RDs.ints _)) .nil)))))
  rintro acc kk ⟨ds, rs, e1, e2, E, rl, hl⟩
  match rs, e1, e2 with
  | [], e1, _ =>
  rw [List.append_nil] at e1
  subst e1
  refine ⟨_, .inl ⟨true, rfl⟩, fun c2 k2 N2 => ?_⟩
  have N2 : New kk c2 (.list true acc) k2 := N2
  have E2 : Ext k k2 := (E1.comp E).comp N2.ext
  have rl2 : RD k2 (.ref c2) (.list (ds.map (labD (foldR hs)))) := .list N2.at (RDs.le N2.ext.le.r rl)
  have rr2 : RD k2 (.ref c) (.list (rowsD (foldR hs) syms)) := RD.le E2.le.r hr
  refine seq_next ?_
  show OkX prog w G A env k2 (setL (setL m "marks" (.ref c1)) "labels" (.ref c2)) (execs ((bodyN 36).drop 9) env) _
  generalize hmm : setL (setL m "marks" (.ref c1)) "labels" (.ref c2) = mm
  have nu : mm "unit" = some (.ref ux) := by rw [← hmm]; walk_at "lk"
  have nr : mm "rows" = some (.ref c) := by rw [← hmm]; walk_at "lk"
  have nl : mm "labels" = some (.ref c2) := by rw [← hmm]; walk_at "lk"
  clear hmm
  -- all is frozen
  refine okX_frzs (k' := frzAll k2) frzAll_frzs ?_
  generalize hk3 : frzAll k2 = k3
  have F3 : Fz k k3 := E2.fz.comp (hk3 ▸ frzAll_frzs.le.fz)
  have rl3 : RD (frzPart k3) (.ref c2) (.list (ds.map (labD (foldR hs)))) := hk3 ▸ RD.le frzAll_part rl2
  have rr3 : RD (frzPart k3) (.ref c) (.list (rowsD (foldR hs) syms)) := hk3 ▸ RD.le frzAll_part rr2
  have hun3 : UnitAt G k3 (.ref ux) ⟨"S", syms, hs⟩ := by
    refine cps fun qZ hZ => ?_
    obtain ⟨C, dx, es, h1, h2, h3, h4, h5, h6⟩ := hun
    refine hZ ?_
    clear hZ qZ
    refine ⟨ux, C, dx, es, sd, sl, rows, vs, rfl, F3 _ _ h1 rfl, h2, F3 _ _ h3 rfl, h4, h5, h6, ?_, hsy.mono fun _ _ x => x.mono F3, ?_, hst.mono fun _ _ x => x.mono F3⟩
    · rw [← hk3]; exact frzAll_at (E2 _ _ hsd)
    · rw [← hk3]; exact frzAll_at (E2 _ _ hsl)
  clear hk3
  refine vRet V ?_
  refine okE_Compare (by decide +kernel) ?_
  refine okE_CF g W (by decide +kernel) (by walk_at "isd") rfl ?_
  refine okEs_cons rfl ?_
  refine eListF ?_
  refine okEs_cons rfl ?_
  refine okE_Name nu (by decide +kernel) ?_
  refine okEs_cons rfl ?_
  refine okE_post (eUnit g W (by decide +kernel) (V.r.le (by first | lia | omega)) rfl fun x C dx es sl2 sd2 k4 u1 u2 u3 u4 u5 u6 u7 u8 E4 _ _ => ⟨frzAll k4, frzAll_frzs, ?_⟩)
  have F4 : Fz k3 (frzAll k4) := E4.fz.comp frzAll_frzs.le.fz
  have hud : UnitAt G (frzAll k4) (.ref x) ⟨"D", [], []⟩ := ⟨x, C, dx, es, sd2, sl2, [], [], rfl, frzAll_at u1, u2, frzAll_at u3, u4, u5, u6, frzAll_at u8, trivial, frzAll_at u7, trivial⟩
  refine okEs_nil ⟨by simp, fun ul k5 N5 => ?_⟩
  refine okEs_nil ?_
  refine cross_ok g (V.r.le (by first | lia | omega)) (us := [⟨"S", syms, hs⟩, ⟨"D", [], []⟩]) N5.at ⟨(hun3.mono F4).mono N5.fz, hud.mono N5.fz, trivial⟩ (fun u hu => ?_) (by simp) fun cr k6 dd hdd hrd F6 => ?_
  · rcases List.mem_cons.mp hu with rfl | hu
    · exact ⟨so, hlen⟩
    · rw [List.mem_singleton] at hu
      subst hu
      exact ⟨⟨by simp, fun ns hp _ => hp.eq_nil, by simp⟩, by simp⟩
  refine cps fun qZ hZ => ?_
  obtain ⟨d1, d2, rfl, ⟨ns1, hL1, _, rfl⟩, ⟨ns2, hL2, _, rfl⟩⟩ := all2_one hdd
  refine hZ ?_
  clear hZ qZ
  have q1 : ns1 = ds := hL1.uniq hL
  have q2 : ns2 = [] := by
    cases ns2 with
    | nil => rfl
    | cons n r =>
      rcases (hL2.mem n).mp (.head _) with z | z
      · exact absurd rfl z
      · exact absurd rfl z
  subst q1 q2
  have F36 : Fz k3 k6 := F4.comp (N5.fz.comp F6)
  have rl6 := RD.le (frzPart_le F36) rl3
  have rr6 := RD.le (frzPart_le F36) rr3
  -- what is asked
  refine eListF ?_
  refine okEs_cons rfl ?_
  refine eTup ?_
  refine okEs_cons rfl (okE_str ?_)
  refine okEs_cons rfl (okE_Name nr (by decide +kernel) ?_)
  refine okEs_cons rfl (okE_Name nl (by decide +kernel) ?_)
  refine okEs_nil ⟨by simp, fun t1 k7 N7 => ?_⟩
  refine okEs_cons rfl ?_
  refine eTup ?_
  refine okEs_cons rfl (okE_str ?_)
  refine okEs_cons rfl ?_
  refine eListF (okEs_nil ⟨by simp, fun t2 k8 N8 => ?_⟩)
  refine okEs_cons rfl ?_
  refine eListF (okEs_nil ⟨by simp, fun t3 k9 N9 => ?_⟩)
  refine okEs_nil ⟨by simp, fun t4 k10 N10 => ?_⟩
  refine okEs_nil ⟨by simp, fun t5 k11 N11 => ?_⟩
  have E6 : Ext k6 k11 := N7.ext.comp (N8.ext.comp (N9.ext.comp (N10.ext.comp N11.ext)))
  have right : RD k11 (.ref t5) (finD (foldR hs) syms ns1) := by
    refine .list N11.at (.cons (.tup (N11.get (N10.get (N9.get (N8.get N7.at)))) (.cons .str (.cons ?_ (.cons ?_ .nil)))) (RDs.one (.tup (N11.get N10.at) (.cons .str (.cons (.list (N11.get (N10.get (N9.get N8.at))) .nil) (.cons (.list (N11.get (N10.get N9.at)) .nil) .nil))))))
    · exact RD.le (frzPart_all.comp E6.le.r) rr6
    · exact RD.le (frzPart_all.comp E6.le.r) rl6
  have left : RD k11 (.ref cr) (finD (foldR hs) syms ns1) := RD.le E6.le.r hrd
  exact oEqD V.r left right (finD_ok hok) rfl
end

noncomputable def S8 : List Str := ["A", "B", "C", "F", "I", "J", "Q", "SUB"]
noncomputable def rk (x : Str) : Nat := (S8.idxOf? x).getD 99
theorem rk_le : ∀ x ∈ S8, ∀ y ∈ S8, PySem.Spec.ltCps y.cps.toList x.cps.toList = false → rk x ≤ rk y := by decide +kernel
theorem rk_inj : ∀ x ∈ S8, ∀ y ∈ S8, rk x ≤ rk y → rk y ≤ rk x → x = y := by decide +kernel
theorem rk_pair : S8.Pairwise (fun a b => rk a ≤ rk b) := by decide +kernel
theorem rising_pair : ∀ (l : List Str) (p : Str), (∀ x ∈ p :: l, x ∈ S8) → risingS p l = true → (p :: l).Pairwise (fun a b => rk a ≤ rk b)
  | [], p, _, _ => by simp
  | x :: r, p, hm, h => by
    rw [risingS, Bool.and_eq_true, Bool.not_eq_true'] at h
    have i := rising_pair r x (fun y hy => hm y (.tail _ hy)) h.2
    have hpx := rk_le p (hm p (.head _)) x (hm x (.tail _ (.head _))) h.1
    rw [List.pairwise_cons]
    refine ⟨fun y hy => ?_, i⟩
    rcases List.mem_cons.mp hy with z | z
    · rw [z]; exact hpx
    · exact Nat.le_trans hpx ((List.pairwise_cons.mp i).1 y z)
theorem S8_srt (ns : List Str) (hp : ns.Perm S8) (hs : sortedS ns = true) : ns = S8 := by
  have h : ns.Pairwise (fun a b => rk a ≤ rk b) := by
    cases ns with
    | nil => simp
    | cons p l => exact rising_pair l p (fun x hx => hp.mem_iff.mp hx) hs
  exact List.Perm.eq_of_pairwise (le := fun a b => rk a ≤ rk b) (fun a b ha hb x y => rk_inj a (hp.mem_iff.mp ha) b hb x y) h rk_pair hp
theorem S8_nd : S8.Nodup := by decide +kernel
theorem S8_ok : ∀ x ∈ S8, PyData.canLay0 (.str x) = true ∧ (x.length : Int) < 1000 := by decide +kernel
noncomputable def uses3 : List Str := ["var", "array", "func"]
theorem uses3_ok : ∀ x ∈ uses3, PyData.canLay0 (.str x) = true := by decide +kernel
theorem symOk_S8 {syms : List Sym} (h : syms.map (·.1) = S8) : SymOk syms := ⟨by rw [h]; exact S8_nd, fun ns hp hs => by rw [h] at hp ⊢; exact S8_srt ns hp hs, by have := congrArg List.length h; rw [List.length_map] at this; rw [this]; decide⟩
theorem pick_use {j : Int} (h : 0 ≤ j ∧ j < 3) : ∃ u, pyIdx [.str "var", .str "array", .str "func"] j = some (.str u) ∧ u ∈ uses3 := by
  rcases (show j = 0 ∨ j = 1 ∨ j = 2 by first | lia | omega) with rfl | rfl | rfl
  · exact ⟨_, rfl, .head _⟩
  · exact ⟨_, rfl, .tail _ (.head _)⟩
  · exact ⟨_, rfl, .tail _ (.tail _ (.head _))⟩
theorem mod3 (n : Nat) : 0 ≤ (n : Int) % 3 ∧ (n : Int) % 3 < 3 := by first | lia | omega

noncomputable def lrBody : List Stmt := match (bodyN 36).drop 6 with | .For _ _ b .. :: _ => b | _ => []
noncomputable def lrIf : List Stmt := match lrBody.drop 4 with | .If _ b .. :: _ => b | _ => []

section
variable {prog : Program} {w : World} {G : Glob'} {A : Around} {k : KH} {m : Loc} {env : Env}

/-- the rows, while they are made -/
structure LR (G : Glob') (kB k2 : KH) (k : KH) (m : Loc) (ux sd kn c : Addr) (adr : Nat → Key → Addr) (F : Rec) (ds : List Str) (syms : List Sym) : Prop where
  names : syms.map (·.1) = ds
  hsy : ∃ rows, k sd = some (.dictS false rows) ∧ All2 (SymAt G k) rows syms
  rows : ∃ ls, k c = some (.list false ls) ∧ RDs (only (SC kB adr F c) k) ls (rowsD F syms) ∧ ls.length ≤ ds.length
  ok : ∀ s ∈ syms, PyData.canLay0 (.str s.1) = true ∧ PyData.canLay0 (.str s.2.2) = true
  old : ∀ a p, kB a = some p → a ≠ sd → k a = some p
  fz : Fz k2 k
  mu : m "unit" = some (.ref ux)
  mkn : m "known" = some (.ref kn)
  mr : m "rows" = some (.ref c)

set_option maxHeartbeats 8000000 in
theorem row_ok (g : Prg G) {d : Nat} (hd : 120 ≤ d) (V : EnvOk G env A (scopeN 36) d) {PX : Fl → Loc → KH → Prop} {kB k2 : KH} {ux sl sd kn c : Addr} {D : Nat → Addr} {adr : Nat → Key → Addr} {hs : List Hist} {ds rs : List Str} {syms : List Sym} {y : Str}
    {mB : Loc} (L : LF G kB mB ux sl sd kn D adr hs []) (hsdB : ¬ InB D adr (foldR hs) sd) (hcB : kB c = none) (R : LR G kB k2 k m ux sd kn c adr (foldR hs) ds syms) (hds : ds ++ y :: rs = S8)
    (h : ∀ m' k' syms', LR G kB k2 k' m' ux sd kn c adr (foldR hs) (ds ++ [y]) syms' → PX .next m' k') : OkX prog w G A env k (setL m "name" (.str y)) (execs lrBody env) PX := by
  have W := V.g
  refine cps fun qZ hZ => ?_
  obtain ⟨⟨C, dx, es, hux, hC, hdx, l1, l2, l3⟩, hkn, hsts, ⟨rows0, hsd0, _⟩, B, _, _⟩ := L
  refine hZ ?_
  clear hZ qZ
  refine cps fun qZ hZ => ?_
  obtain ⟨hnm, ⟨srows, hsd, hsy⟩, ⟨ls, hc, hrd, hln⟩, hok, hold, hfz, mu, mk, mr⟩ := R
  refine hZ ?_
  clear hZ qZ
  have hy : y ∈ S8 := by rw [← hds]; simp
  have hlen : ds.length < 8 := by have := congrArg List.length hds; rw [List.length_append, List.length_cons] at this; have h8 : S8.length = 8 := rfl; (first | lia | omega)
  have ne_sd : ∀ {a p}, kB a = some p → (∀ r, p ≠ .dictS false r) → a ≠ sd := fun e hn z => by rw [z, hsd0] at e; cases e; exact hn _ rfl
  have nux := ne_sd hux (fun _ z => nomatch z)
  have ndx := ne_sd hdx (fun _ z => nomatch z)
  have nkn := ne_sd hkn (fun _ z => nomatch z)
  have csd : c ≠ sd := fun z => by rw [z, hsd0] at hcB; cases hcB
  have hnew : y ∉ srows.map (·.1) := by
    rw [symAt_keys hsy, hnm]
    intro z
    have := S8_nd
    rw [← hds, List.nodup_append] at this
    exact this.2.2 y z y (.head _) rfl
  refine vAssign V rfl (by decide +kernel) ?_
  refine eSymbol g W (y := y) (by decide +kernel) (V.r.le (by first | lia | omega)) rfl (fun P' hp => okE_Name lk_here (by decide +kernel) hp) fun x Cs dxs es1 k3 hx hCs hdxs hes E3 hdx0 => ?_
  -- kind
  refine vAttrSet g V rfl ?_
  refine okE_BinOp ?_
  refine okE_lenS g W (by decide +kernel) rfl (okE_Name (by walk_at "lk") (by decide +kernel) ⟨y, rfl, (S8_ok y hy).2, ?_⟩)
  refine okE_BinOp ?_
  refine okE_len g W (by decide +kernel) rfl (okE_Name (by walk_at "lk") (by decide +kernel) ⟨c, ls, _, rfl, E3 _ _ hc, .inl ⟨_, rfl⟩, sz_le (by first | lia | omega), okE_int (oMod (by decide) (oAdd ?_))⟩)
  refine okE_Name lk_here (by decide +kernel) ⟨x, Cs, dxs, es1, 22, _, rfl, hx, hCs, by decide +kernel, hdxs, by first | lia | omega, fun k4 U4 => ?_⟩
  have xd : x ≠ dxs := fun z => by rw [z, hdxs] at hx; cases hx
  have hx4 : k4 x = some (.inst Cs dxs) := by rw [U4.ne xd]; exact hx
  have K4 : ∀ a p, k a = some p → k4 a = some p ∧ a ≠ dxs := fun a p e => by
    have : a ≠ dxs := fun z => by rw [z, hdx0] at e; cases e
    exact ⟨by rw [U4.ne this]; exact E3 _ _ e, this⟩
  -- use
  refine vAttrSet g V rfl ?_
  refine okE_Sub ?_
  refine eListF ?_
  repeat walk_at "v1"
  refine ⟨by simp, fun c5 k5 N5 => ?_⟩
  refine okE_BinOp ?_
  refine okE_len g W (by decide +kernel) rfl (okE_Name (by walk_at "lk") (by decide +kernel) ⟨c, ls, _, rfl, N5.get (K4 _ _ hc).1, .inl ⟨_, rfl⟩, sz_le (by first | lia | omega), okE_int (oMod (by decide) ?_)⟩)
  obtain ⟨u, hu, hu3⟩ := pick_use (mod3 ls.length)
  refine oIdxL rfl N5.at (.inl ⟨_, rfl⟩) ⟨by have := mod3 ls.length; (first | lia | omega), by have := mod3 ls.length; (first | lia | omega)⟩ hu ?_
  refine okE_Name lk_here (by decide +kernel) ⟨x, Cs, dxs, _, 22, _, rfl, N5.get hx4, hCs, by decide +kernel, N5.get U4.at, by have := put_len (rows := es1) (x := "kind") (v := .int ((y.length : Int) + (ls.length : Int) % 3)); (first | lia | omega), fun k6 U6 => ?_⟩
  generalize hes6 : putP (putP es1 "kind" (.int ((y.length : Int) + (ls.length : Int) % 3))) "use" (.str u) = es6 at U6
  have lk : es6.lookup ("kind" : Str) = some (.int ((y.length : Int) + (ls.length : Int) % 3)) := by
    rw [← hes6, lookup_put, if_neg (by decide +kernel), lookup_put, if_pos rfl]
  have lu : es6.lookup ("use" : Str) = some (.str u) := by rw [← hes6, lookup_put, if_pos rfl]
  have K6 : ∀ a p, k a = some p → k6 a = some p ∧ a ≠ dxs := fun a p e => ⟨by rw [U6.ne (K4 a p e).2]; exact N5.get (K4 a p e).1, (K4 a p e).2⟩
  have hx6 : k6 x = some (.inst Cs dxs) := by rw [U6.ne xd]; exact N5.get hx4
  refine okX_frzs (k' := upd k6 dxs (.dictS true es6)) (frzs_one U6.at) ?_
  generalize hk7 : upd k6 dxs (.dictS true es6) = k7
  have K7 : ∀ a p, k a = some p → k7 a = some p := fun a p e => by rw [← hk7, upd_ne (K6 a p e).2]; exact (K6 a p e).1
  have hx7 : k7 x = some (.inst Cs dxs) := by rw [← hk7, upd_ne xd]; exact hx6
  have hdx7 : k7 dxs = some (.dictS true es6) := by rw [← hk7]; exact upd_at
  clear hk7
  -- symbols
  refine vSetS V rfl ?_
  refine okE_Name lk_here (by decide +kernel) ?_
  refine okE_Attr g rfl (by with_unfolding_all rfl) ?_
  refine okE_Name (by walk_at "lk") (by decide +kernel) ?_
  refine ⟨ux, C, dx, true, es, _, _, _, rfl, K7 _ _ (hold _ _ hux nux), hC, K7 _ _ (hold _ _ hdx ndx), by decide +kernel, l2, (fun z => nomatch z), ?_⟩
  refine okE_Name (by walk_at "lk") (by decide +kernel) ?_
  have hsrl : srows.length ≤ 8 := by
    have h1 := congrArg List.length (symAt_keys hsy)
    rw [hnm, List.length_map] at h1
    (first | lia | omega)
  refine ⟨sd, srows, y, rfl, rfl, K7 _ _ hsd, sz_le (by first | lia | omega), fun k8 U8 => ?_⟩
  rw [putK_new _ hnew] at U8
  have F78 : Fz k7 k8 := U8.fz (K7 _ _ hsd) rfl
  have K8 : ∀ a p, k a = some p → a ≠ sd → k8 a = some p := fun a p e ne => by rw [U8.ne ne]; exact K7 _ _ e
  have KB8 : ∀ a p, kB a = some p → a ≠ sd → k8 a = some p := fun a p e ne => K8 _ _ (hold a p e ne) ne
  have F8 : Fz k k8 := fun a p e hf => K8 a p e fun z => by rw [z, hsd] at e; cases e; cases hf
  have hxs8 := F78 _ _ hx7 rfl
  have hdx8 := F78 _ _ hdx7 rfl
  have B8 : Book0 k8 D (foldR hs) adr := B.same fun a p ha e => KB8 a p e fun z => hsdB (z ▸ ha)
  have hc8 := K8 _ _ hc csd
  have hsd8 : k8 sd = some (.dictS false (srows ++ [(y, .ref x)])) := U8.at
  have hsym8 : All2 (SymAt G k8) (srows ++ [(y, .ref x)]) (syms ++ [(y, (y.length : Int) + (ls.length : Int) % 3, u)]) := (hsy.mono fun _ _ z => z.mono F8).snoc ⟨rfl, x, Cs, dxs, es6, rfl, hxs8, hCs, hdx8, lk, lu⟩
  generalize hs1 : ((y, (y.length : Int) + (ls.length : Int) % 3, u) : Sym) = s at hsym8
  have s1 : s.1 = y := by rw [← hs1]
  have s2 : s.2.1 = (y.length : Int) + (ls.length : Int) % 3 := by rw [← hs1]
  have s3 : s.2.2 = u := by rw [← hs1]
  rw [← s2] at lk
  rw [← s3] at lu
  have ok8 : ∀ z ∈ syms ++ [s], PyData.canLay0 (.str z.1) = true ∧ PyData.canLay0 (.str z.2.2) = true := fun z hz => by
    rcases List.mem_append.mp hz with q | q
    · exact hok z q
    · rw [List.mem_singleton] at q
      subst q
      rw [s1, s3]
      exact ⟨(S8_ok y hy).1, uses3_ok u hu3⟩
  have nm8 : (syms ++ [s]).map (·.1) = ds ++ [y] := by rw [List.map_append, hnm, List.map_cons, List.map_nil, s1]
  have up8 : LeR (only (SC kB adr (foldR hs) c) k) (only (SC kB adr (foldR hs) c) k8) := LeR.only' fun a p hS e => K8 a p e fun z => by
    rcases hS.2 with q | ⟨j, z2, hj, hf, q⟩
    · rw [z, hsd0] at q; cases q
    · exact hsdB (.inr ⟨j, z2, hj, hf, z ▸ q⟩)
  have rd8 := RDs.le up8 hrd
  have kn8 := KB8 _ _ hkn nkn
  clear hs1 hes6
  generalize hmm : setL (setL m "name" (.str y)) "symbol" (.ref x) = mm
  have n1 : mm "unit" = some (.ref ux) := by rw [← hmm]; walk_at "lk"
  have n2 : mm "known" = some (.ref kn) := by rw [← hmm]; walk_at "lk"
  have n3 : mm "rows" = some (.ref c) := by rw [← hmm]; walk_at "lk"
  have n4 : mm "name" = some (.str y) := by rw [← hmm]; walk_at "lk"
  have n5 : mm "symbol" = some (.ref x) := by rw [← hmm]; walk_at "lk"
  clear hmm
  have fz8 : Fz k2 k8 := hfz.comp F8
  -- a row
  have run : ((foldR hs 0 (.s s.1)).isSome || (foldR hs 1 (.s s.1)).isSome) = true → OkX prog w G A env k8 mm (execs lrIf env) (Seq prog w G A env [] PX) := fun hin => by
    refine vExpr V rfl ?_
    refine okE_append (by decide +kernel) (by decide +kernel) (by decide +kernel) ?_
    refine okE_Name n3 (by decide +kernel) ?_
    refine ⟨c, ls, false, rfl, hc8, ?_⟩
    refine eTup ?_
    refine okEs_cons rfl (okE_Name n4 (by decide +kernel) ?_)
    refine okEs_cons rfl ?_
    refine okE_Attr g rfl (by with_unfolding_all rfl) ?_
    refine okE_Name n5 (by decide +kernel) ?_
    refine ⟨x, Cs, dxs, true, es6, _, _, _, rfl, hxs8, hCs, hdx8, by decide +kernel, lk, (fun z => nomatch z), ?_⟩
    refine okEs_cons rfl ?_
    refine okE_Attr g rfl (by with_unfolding_all rfl) ?_
    refine okE_Name n5 (by decide +kernel) ?_
    refine ⟨x, Cs, dxs, true, es6, _, _, _, rfl, hxs8, hCs, hdx8, by decide +kernel, lu, (fun z => nomatch z), ?_⟩
    refine okEs_cons rfl ?_
    refine eGetS g (j := 0) (x := y) rfl rfl rfl B8 Ext.refl (by first | lia | omega) (fun P' hp => eKn (j := 0) n2 kn8 (by first | lia | omega) hp) (fun P' hp => okE_Name n4 (by decide +kernel) hp) fun v1 g1 k9 M1 L1 => ?_
    refine okEs_cons rfl ?_
    refine eGetS g (j := 1) (x := y) rfl rfl rfl B8 M1.ext (by first | lia | omega) (fun P' hp => eKn (j := 1) n2 (M1.get kn8) (by first | lia | omega) hp) (fun P' hp => okE_Name n4 (by decide +kernel) hp) fun v2 g2 k10 M2 L2 => ?_
    refine okEs_nil ⟨by simp, fun t k11 M3 => ?_⟩
    have E11 : Ext k8 k11 := M1.ext.comp (M2.ext.comp M3.ext)
    have hc11 := E11 _ _ hc8
    refine ⟨ls, hc11, sz_le (by first | lia | omega), fun k12 U => ?_⟩
    have kBnone : ∀ {a}, a ≠ sd → k8 a = none → kB a = none := fun {a} hne e => by
      cases hk : kB a with
      | none => rfl
      | some p => rw [KB8 a p hk hne] at e; cases e
    have got : ∀ {j : Nat} {v : PV} {kk kk' : KH}, j < 4 → Ext k8 kk → GotL k8 kk adr (foldR hs) j (.s y) v kk' → RD (only (SC kB adr (foldR hs) c) kk') v (intsD (foldR hs j (.s y))) := fun {j v kk kk'} hj Ek hg => by
      refine cps fun qZ hZ => ?_
      obtain ⟨a, rfl, ha, hsrc⟩ := hg
      refine hZ ?_
      clear hZ qZ
      refine .list (fz := false) ?_ (RDs.ints _)
      rw [only_at, ha]
      rcases hsrc with z | ⟨z, z'⟩
      · have n8 : k8 a = none := by
          cases hk : k8 a with
          | none => rfl
          | some p => rw [Ek _ _ hk] at z; cases z
        exact ⟨fun e => (by rw [e, hc8] at n8; cases n8), .inl (kBnone (fun e => by rw [e, hsd8] at n8; cases n8) n8)⟩
      · refine ⟨fun e => ?_, .inr ⟨j, _, hj, z', z⟩⟩
        cases hf : foldR hs j (.s y) with
        | none => exact z' hf
        | some l =>
          have := B.list j _ l hj hf
          rw [← z, e, hcB] at this; cases this
    have r1 := got (by first | lia | omega) Ext.refl L1
    have r2 := got (by first | lia | omega) M1.ext L2
    have up : ∀ {kk : KH}, Ext kk k11 → LeR (only (SC kB adr (foldR hs) c) kk) (only (SC kB adr (foldR hs) c) k12) := fun e => LeR.only' fun a p hS ha => by rw [U.ne hS.1]; exact e _ _ ha
    have tc : t ≠ c := fun z => M3.ne (M2.get (M1.get hc8)) z.symm
    have t8 : k8 t = none := by
      cases hk : k8 t with
      | none => rfl
      | some p => exact absurd rfl (M3.ne (M2.get (M1.get hk)))
    have ht : only (SC kB adr (foldR hs) c) k12 t = some (.tup [.str s.1, .int s.2.1, .str s.2.2, v1, v2]) := by
      rw [only_at ⟨tc, .inl (kBnone (fun e => by rw [e, hsd8] at t8; cases t8) t8)⟩, U.ne tc, s1]; exact M3.at
    have F12 : Fz k8 k12 := E11.fz.comp (U.fz hc11 rfl)
    refine vNil (seq_next (vNil (h mm k12 (syms ++ [s]) ⟨nm8, ⟨_, by rw [U.ne csd.symm]; exact E11 _ _ hsd8, hsym8.mono fun _ _ z => z.mono F12⟩, ⟨ls ++ [.ref t], U.at, ?_, by simp; exact hln⟩, ok8, fun a p e ne => ?_, fz8.comp F12, n1, n2, n3⟩)))
    · rw [rowsD, List.filterMap_append]
      refine (RDs.le (up E11) rd8).append ?_
      rw [List.filterMap_cons, List.filterMap_nil, rowD, if_pos hin]
      rw [s1] at ht ⊢
      exact RDs.one (.tup ht (.cons .str (.cons .int (.cons .str (.cons (RD.le (up (M2.ext.comp M3.ext)) r1) (.cons (RD.le (up M3.ext) r2) .nil))))))
    · rw [U.ne (fun z => by rw [z, hcB] at e; cases e)]; exact E11 _ _ (KB8 a p e ne)
  refine cps fun qZ hZ => ?_
  obtain ⟨eb0, b1, b2, b3, b4, b5⟩ := B8.dS (show 0 < 2 by first | lia | omega)
  refine hZ ?_
  clear hZ qZ
  refine cps fun qZ hZ => ?_
  obtain ⟨eb1, c1, c2', c3, c4, c5⟩ := B8.dS (show 1 < 2 by first | lia | omega)
  refine hZ ?_
  clear hZ qZ
  refine vIf V ?_
  refine okC_Bool ?_
  refine okC_orc ?_
  refine okC_Cmp rfl ?_
  refine okE_Name n4 (by decide +kernel) ?_
  refine eKn (j := 0) n2 kn8 (by first | lia | omega) ?_
  refine oInS g b1 ?_
  rw [b3, book_isSome (k := k8) (D := D), ← s1]
  repeat walk_at "v1"
  refine ⟨fun hh => ⟨fun _ => run (by rw [hh]; rfl), fun hh => nomatch hh⟩, fun h0 => ?_⟩
  refine okC_orc ?_
  refine okC_Cmp rfl ?_
  refine okE_Name n4 (by decide +kernel) ?_
  refine eKn (j := 1) n2 kn8 (by first | lia | omega) ?_
  refine oInS g c1 ?_
  rw [c3, book_isSome (k := k8) (D := D), ← s1]
  repeat walk_at "v1"
  refine ⟨fun hh => ⟨fun _ => run (by rw [hh]; simp), fun hh => nomatch hh⟩, fun h1 => ?_⟩
  repeat walk_at "v1"
  refine ⟨fun hh => (nomatch hh), fun _ => ?_⟩
  refine vNil (seq_next (vNil (h mm k8 (syms ++ [s]) ⟨nm8, ⟨_, hsd8, hsym8⟩, ⟨ls, hc8, ?_, by simp; (first | lia | omega)⟩, ok8, KB8, fz8, n1, n2, n3⟩)))
  have hnone : rowD (foldR hs) s = none := by unfold rowD; rw [h0, h1]; rfl
  rw [rowsD, List.filterMap_append, List.filterMap_cons, hnone]
  show RDs _ _ (rowsD (foldR hs) syms ++ [])
  rw [List.append_nil]; exact rd8
end

theorem EnvOk.le {G : Glob'} {env : Env} {A : Around} {sc : Scope} {d d' : Nat} (V : EnvOk G env A sc d) (h : d' ≤ d) : EnvOk G env A sc d' := ⟨V.s, V.e, V.f, V.r.le h, V.i⟩
theorem LS.set {G : Glob'} {k : KH} {m m' : Loc} {T ux sl sd kn : Addr} {D : Nat → Addr} {hs : List Hist} {i : Int} (L : LS G k m T ux sl sd kn D hs i) (h1 : m' "tape" = some (.ref T)) (h2 : m' "unit" = some (.ref ux)) (h3 : m' "known" = some (.ref kn)) : LS G k m' T ux sl sd kn D hs i := ⟨L.tape, L.unit, L.knl, L.sts, L.syms, L.sdD, L.book, L.bound, h1, h2, h3⟩

section
variable {prog : Program} {w : World} {G : Glob'} {A : Around} {k : KH} {m : Loc} {env : Env}

set_option maxHeartbeats 8000000 in
/-- from the rows on -/
theorem tail_ok (g : Prg G) {d : Nat} (hd : 120 ≤ d) (V : EnvOk G env A (scopeN 36) d) {ux sl sd kn : Addr} {D : Nat → Addr} {adr : Nat → Key → Addr} {hs : List Hist} (L : LF G k m ux sl sd kn D adr hs []) (hsdB : ¬ InB D adr (foldR hs) sd) (hlen : hs.length < 900) :
    OkX prog w G A env k m (execs ((bodyN 36).drop 5) env) fun fl _ _ => retOf fl = .bool true := by
  have W := V.g
  refine vAssign V rfl (by decide +kernel) ?_
  refine eListM (okEs_nil ⟨by simp, fun c k1 N1 => ?_⟩)
  have hcB := N1.old
  have L0 := L
  refine cps fun qZ hZ => ?_
  obtain ⟨hun, hkn, hsts, ⟨rows0, hsd0, hsy0⟩, B, mu, mk⟩ := L0
  refine hZ ?_
  clear hZ qZ
  have hr0 : rows0 = [] := by
    match rows0, hsy0 with
    | [], _ => rfl
  subst hr0
  refine okX_sForG V.r.handled V.f (store_of V.s (by decide +kernel)) (fun _ => rfl) ?_
  refine eListF ?_
  repeat walk_at "v1"
  refine ⟨by simp, fun c2 k2 N2 => ?_⟩
  refine ⟨_, _, fun its m' k' => ∃ ds rs syms, ds ++ rs = S8 ∧ its = rs.map .str ∧ LR G k k2 k' m' ux sd kn c adr (foldR hs) ds syms, src_list N2.at (.inl ⟨_, rfl⟩), ?_, ?_, ?_, ?_⟩
  · rintro its m' k' ⟨ds, rs, syms, e1, e2, R⟩
    exact ⟨_, R.fz _ _ N2.at rfl, .inl ⟨_, rfl⟩⟩
  · refine ⟨[], S8, [], rfl, rfl, rfl, ⟨[], N2.get (N1.get hsd0), trivial⟩, ⟨[], N2.get N1.at, .nil, Nat.le_refl _⟩, fun s h => (by cases h), fun a p e _ => N2.get (N1.get e), Fz.refl, ?_, ?_, ?_⟩
    · walk_at "lk"
    · walk_at "lk"
    · walk_at "lk"
  · rintro v its m' k' ⟨ds, rs, syms, e1, e2, R⟩
    match rs, e1, e2 with
    | y :: rs, e1, e2 =>
    rw [List.map_cons, List.cons.injEq] at e2
    obtain ⟨rfl, rfl⟩ := e2
    exact row_ok g hd V L hsdB hcB R e1 fun m2 k3 syms' R' => ⟨ds ++ [y], rs, syms', by simp [e1], rfl, R'⟩
  · rintro m' k' ⟨ds, rs, syms, e1, e2, R⟩
    match rs, e1, e2 with
    | [], e1, _ =>
    rw [List.append_nil] at e1
    subst e1
    refine cps fun qZ hZ => ?_
    obtain ⟨hnm, ⟨srows, hsd, hsy⟩, ⟨ls, hc, hrd, hln⟩, hok, hold, hfz, mu', mk', mr'⟩ := R
    refine hZ ?_
    clear hZ qZ
    have ne_sd : ∀ {a p}, k a = some p → (∀ r, p ≠ .dictS false r) → a ≠ sd := fun e hn z => by rw [z, hsd0] at e; cases e; exact hn _ rfl
    have F : Fz k k' := fun a p e hf => hold a p e (ne_sd e fun r z => by rw [z] at hf; cases hf)
    refine cps fun qZ hZ => ?_
    obtain ⟨C, dx, es, u1, u2, u3, u4, u5, u6⟩ := hun
    refine hZ ?_
    clear hZ qZ
    obtain ⟨vs, hsl, hst⟩ := hsts
    refine fin_ok g hd V ⟨⟨C, dx, es, F _ _ u1 rfl, u2, F _ _ u3 rfl, u4, u5, u6⟩, F _ _ hkn rfl, ⟨vs, hold _ _ hsl (ne_sd hsl fun _ z => nomatch z), hst.mono fun _ _ z => z.mono F⟩, ⟨srows, hsd, hsy⟩, B.same fun a p ha e => hold a p e fun z => hsdB (z ▸ ha), mu', mk'⟩ mr' (.list hc (RDs.le LeR.all hrd)) (symOk_S8 hnm) hlen hok

set_option maxHeartbeats 8000000 in
theorem law_ok (g : Prg G) {d : Nat} (hd : 120 ≤ d) (V : EnvOk G env A (scopeN 36) d) {sa : Addr} {ns : List Int} (hl : G.lists sa = some (ns.map .int)) (hz : ns.length ≤ 63) :
    OkX prog w G A env k (setL (fun _ => none) "script" (.ref sa)) (execs (bodyN 36) env) fun fl _ _ => retOf fl = .bool true := by
  have W := V.g
  refine vAssign V rfl (by decide +kernel) ?_
  refine eListW ?_
  refine okEs_cons rfl ?_
  refine okE_sliceB (n := 60) g hl (sz_le (by rw [List.length_map]; (first | lia | omega))) ?_
  refine okE_Name lk_here (by decide +kernel) ⟨rfl, .list true _, .inl ⟨true, rfl⟩, fun c0 k0 N0 => ?_⟩
  refine okEs_cons rfl (okE_int ?_)
  refine okEs_nil ⟨by simp, fun T k1 N1 => ?_⟩
  have hS0 : k1 c0 = some (.list true ((ns.take 60).map .int)) := by rw [N1.get N0.at, List.map_take]
  refine vAssign V rfl (by decide +kernel) ?_
  refine eUnit g W (by decide +kernel) (V.r.le (by first | lia | omega)) rfl fun ux C dx es sl sd k2 u1 u2 u3 u4 u5 u6 u7 u8 E2 _ _ => ?_
  refine vAssign V rfl (by decide +kernel) ?_
  refine eListF ?_
  refine okEs_cons rfl (eDictS fun d0 k3 N3 => ?_)
  refine okEs_cons rfl (eDictS fun d1 k4 N4 => ?_)
  refine okEs_cons rfl (eDictI fun d2 k5 N5 => ?_)
  refine okEs_cons rfl (eDictI fun d3 k6 N6 => ?_)
  refine okEs_nil ⟨by simp, fun kn k7 N7 => ?_⟩
  have e0 : k7 d0 = some (.dictS false []) := N7.get (N6.get (N5.get (N4.get N3.at)))
  have e1 : k7 d1 = some (.dictS false []) := N7.get (N6.get (N5.get N4.at))
  have e2 : k7 d2 = some (.dictI false []) := N7.get (N6.get N5.at)
  have e3 : k7 d3 = some (.dictI false []) := N7.get N6.at
  have n01 : d0 ≠ d1 := N4.ne N3.at
  have n23 : d2 ≠ d3 := N6.ne N5.at
  have E7 : Ext k2 k7 := N3.ext.comp (N4.ext.comp (N5.ext.comp (N6.ext.comp N7.ext)))
  have s0 : sd ≠ d0 := N3.ne u8
  have s1 : sd ≠ d1 := N4.ne (N3.get u8)
  generalize hD : (fun j : Nat => if j = 0 then d0 else if j = 1 then d1 else if j = 2 then d2 else d3) = D
  have D0 : D 0 = d0 := by rw [← hD]; rfl
  have D1 : D 1 = d1 := by rw [← hD]; rfl
  have D2 : D 2 = d2 := by rw [← hD]; rfl
  have D3 : D 3 = d3 := by rw [← hD]; rfl
  have sdD : ∀ j, j < 4 → sd ≠ D j := fun j hj => by
    match j, hj with
    | 0, _ => rw [D0]; exact s0
    | 1, _ => rw [D1]; exact s1
    | 2, _ => rw [D2]; exact fun z => by have := E7 _ _ u8; rw [z, e2] at this; cases this
    | 3, _ => rw [D3]; exact fun z => by have := E7 _ _ u8; rw [z, e3] at this; cases this
  have B7 : Book k7 D (foldR []) := by
    refine ⟨fun _ _ => 0, ⟨fun j hj => ?_, fun j x l _ h => (by cases h), fun _ _ _ _ _ _ h => absurd rfl h, fun _ _ _ _ h => (by cases h), fun j j' hj hj' h => ?_⟩⟩
    · match j, hj with
      | 0, _ => rw [D0]; exact .s (es := []) e0 (by simp) (fun _ => rfl) fun _ => rfl
      | 1, _ => rw [D1]; exact .s (es := []) e1 (by simp) (fun _ => rfl) fun _ => rfl
      | 2, _ => rw [D2]; exact .i (es := []) e2 (by simp) (fun _ => rfl) fun _ => rfl
      | 3, _ => rw [D3]; exact .i (es := []) e3 (by simp) (fun _ => rfl) fun _ => rfl
    · have n02 : d0 ≠ d2 := fun z => by rw [z, e2] at e0; cases e0
      have n03 : d0 ≠ d3 := fun z => by rw [z, e3] at e0; cases e0
      have n12 : d1 ≠ d2 := fun z => by rw [z, e2] at e1; cases e1
      have n13 : d1 ≠ d3 := fun z => by rw [z, e3] at e1; cases e1
      match j, j', hj, hj' with
      | 0, 0, _, _ => rfl
      | 1, 1, _, _ => rfl
      | 2, 2, _, _ => rfl
      | 3, 3, _, _ => rfl
      | 0, 1, _, _ => rw [D0, D1] at h; exact absurd h n01
      | 1, 0, _, _ => rw [D0, D1] at h; exact absurd h.symm n01
      | 0, 2, _, _ => rw [D0, D2] at h; exact absurd h n02
      | 2, 0, _, _ => rw [D0, D2] at h; exact absurd h.symm n02
      | 0, 3, _, _ => rw [D0, D3] at h; exact absurd h n03
      | 3, 0, _, _ => rw [D0, D3] at h; exact absurd h.symm n03
      | 1, 2, _, _ => rw [D1, D2] at h; exact absurd h n12
      | 2, 1, _, _ => rw [D1, D2] at h; exact absurd h.symm n12
      | 1, 3, _, _ => rw [D1, D3] at h; exact absurd h n13
      | 3, 1, _, _ => rw [D1, D3] at h; exact absurd h.symm n13
      | 2, 3, _, _ => rw [D2, D3] at h; exact absurd h n23
      | 3, 2, _, _ => rw [D2, D3] at h; exact absurd h.symm n23
  have hT7 : k7 T = some (.wlist [.ref c0, .int 0]) := E7 _ _ (E2 _ _ N1.at)
  have S7 : GS k7 T (fun _ => False) 0 (fun _ => []) := ⟨⟨c0, ns.take 60, hT7, E7 _ _ (E2 _ _ hS0), by have := List.length_take_le 60 ns; (first | lia | omega)⟩, by first | lia | omega, fun _ h => h.elim, fun _ h => h.elim, fun _ h => h.elim⟩
  have hkn7 : k7 kn = some (.list true [.ref (D 0), .ref (D 1), .ref (D 2), .ref (D 3)]) := by rw [D0, D1, D2, D3]; exact N7.at
  refine vAssign V rfl (by decide +kernel) ?_
  refine okE_int ?_
  generalize hmm : setL (setL (setL (setL (setL (fun _ => none) "script" (.ref sa)) "tape" (.ref T)) "unit" (.ref ux)) "known" (.ref kn)) "line" (.int 1) = mm
  have nt : mm "tape" = some (.ref T) := by rw [← hmm]; walk_at "lk"
  have nu : mm "unit" = some (.ref ux) := by rw [← hmm]; walk_at "lk"
  have nk : mm "known" = some (.ref kn) := by rw [← hmm]; walk_at "lk"
  have nl : mm "line" = some (.int 1) := by rw [← hmm]; walk_at "lk"
  clear hmm hD
  refine okX_sForG V.r.handled V.f (store_of V.s (by decide +kernel)) (fun _ => rfl) ?_
  refine okE_range g W (by decide +kernel) rfl ?_
  refine okE_BinOp (okE_int ?_)
  refine okE_CF g W (by decide +kernel) (by walk_at "isd") rfl ?_
  refine okEs_cons rfl (okE_Name nt (by decide +kernel) ?_)
  refine okEs_cons rfl (okE_int (okEs_nil ?_))
  refine take_ok g (V.r.le (by first | lia | omega)) S7 (by first | lia | omega) (by decide) fun j k8 j0 j8 S8 t8 => ?_
  refine oAdd ⟨_, rfl, fun c9 k9 N9 => ?_⟩
  obtain ⟨n, hn⟩ : ∃ n : Nat, 1 + j = (n : Int) := ⟨(1 + j).toNat, by first | lia | omega⟩
  rw [hn] at N9
  have K8 : ∀ a p, k7 a = some p → (∀ vs, p ≠ .wlist vs) → k8 a = some p := fun a p e hnw => t8.out e (by
    rintro (z | z)
    · rw [z, hT7] at e; cases e; exact hnw _ rfl
    · exact z)
  have K9 : ∀ a p, k7 a = some p → (∀ vs, p ≠ .wlist vs) → k9 a = some p := fun a p e hnw => N9.get (K8 a p e hnw)
  have K29 : ∀ a p, k2 a = some p → (∀ vs, p ≠ .wlist vs) → k9 a = some p := fun a p e hnw => K9 _ _ (E7 _ _ e) hnw
  have L9 : LS G k9 mm T ux sl sd kn D [] 1 := ⟨S8.new N9, ⟨C, dx, es, K29 _ _ u1 (fun _ z => nomatch z), u2, K29 _ _ u3 (fun _ z => nomatch z), u4, u5, u6⟩, K9 _ _ hkn7 (fun _ z => nomatch z), ⟨[], K29 _ _ u7 (fun _ z => nomatch z), trivial⟩, K29 _ _ u8 (fun _ z => nomatch z), sdD, B7.keep K9, by simp, nt, nu, nk⟩
  refine ⟨_, _, fun its m' k' => ∃ hs i ln, its = ((List.range n).drop hs.length).map (fun i => .int (i : Nat)) ∧ hs.length ≤ n ∧ LS G k' m' T ux sl sd kn D hs i ∧ m' "line" = some (.int ln), src_range (by first | lia | omega) N9.at, ?_, ?_, ?_, ?_⟩
  · intro _ _ _ _; trivial
  · exact ⟨[], 1, 1, rfl, Nat.zero_le _, L9, nl⟩
  · rintro v its m' k' ⟨hs, i, ln, e1, e2, LL, ml⟩
    have hlt : hs.length < n := by
      rcases Nat.lt_or_ge hs.length n with h | h
      · exact h
      · rw [List.drop_eq_nil_of_le (by rw [List.length_range]; exact h)] at e1; cases e1
    rw [List.drop_eq_getElem_cons (by rw [List.length_range]; exact hlt), List.getElem_range, List.map_cons, List.cons.injEq] at e1
    obtain ⟨rfl, e1⟩ := e1
    refine turn_ok g (V.le (by first | lia | omega)) (ln := ln) (LL.set (m' := setL m' "turn" (.int (hs.length : Nat))) ?_ ?_ ?_) ?_ lk_here ⟨by first | lia | omega, by first | lia | omega⟩ (by first | lia | omega) fun m2 k3 x ln' i' L' hl' => ?_
    · have := LL.mt; walk_at "lk"
    · have := LL.mu; walk_at "lk"
    · have := LL.mkn; walk_at "lk"
    · walk_at "lk"
    · exact ⟨hs ++ [x], i', ln', by rw [e1, List.length_append]; rfl, by rw [List.length_append, List.length_singleton]; (first | lia | omega), L', hl'⟩
  · rintro m' k' ⟨hs, i, ln, e1, e2, LL, ml⟩
    refine cps fun qZ hZ => ?_
    obtain ⟨_, hun, hkn, ⟨vs, hsl, hst⟩, hsd, hsdD, ⟨adr, B⟩, _, _, mu, mk⟩ := LL
    refine hZ ?_
    clear hZ qZ
    exact tail_ok g hd V ⟨hun, hkn, ⟨vs, hsl, hst⟩, ⟨[], hsd, trivial⟩, B, mu, mk⟩ (B.notinS hsd hsdD) (by first | lia | omega)
end

theorem zip_lookup_none : ∀ {ps : List Str} {vs : List Value}, vs.length = ps.length → ∀ x ∈ ps, ((ps.zip vs).lookup x).isNone = false
  | p :: ps, v :: vs, h, x, hx => by
    rw [List.zip_cons_cons, List.lookup_cons]
    by_cases e : x = p
    · subst e; simp
    · rw [beq_eq_false_iff_ne.mpr e]
      exact zip_lookup_none (by simpa using h) x ((List.mem_cons.mp hx).resolve_left e)
theorem zip_filter : ∀ {ps : List Str} {vs : List Value}, vs.length = ps.length → (ps.filter fun n => ((ps.zip vs).lookup n).isNone) = [] := fun h => by
  rw [List.filter_eq_nil_iff]
  intro x hx
  rw [zip_lookup_none h x hx]; simp
theorem fm_congr {α β : Type} {f g : α → Option β} : ∀ {l : List α}, (∀ x ∈ l, f x = g x) → l.filterMap f = l.filterMap g
  | [], _ => rfl
  | x :: l, h => by rw [List.filterMap_cons, List.filterMap_cons, h x (.head _), fm_congr fun y hy => h y (.tail _ hy)]
theorem zip_filterMap : ∀ {ps : List Str} {vs : List Value}, vs.length = ps.length → ps.Nodup → (ps.filterMap fun n => ((ps.zip vs).lookup n).map (n, ·)) = ps.zip vs
  | [], _, _, _ => rfl
  | p :: ps, v :: vs, h, hn => by
    rw [List.nodup_cons] at hn
    rw [List.zip_cons_cons, List.filterMap_cons]
    have e0 : ((p, v) :: ps.zip vs).lookup p = some v := by rw [List.lookup_cons, beq_self_eq_true]
    rw [e0]
    dsimp only [Option.map]
    congr 1
    refine Eq.trans ?_ (zip_filterMap (vs := vs) (by simpa using h) hn.2)
    refine fm_congr fun x hx => ?_
    rw [List.lookup_cons, beq_eq_false_iff_ne.mpr (fun e => hn.1 (by rw [← e]; exact hx))]
    dsimp only
    cases List.lookup x (ps.zip vs) <;> rfl

theorem bind_plain {fd : FuncData} (hp : plainParams fd.params = true) (hd : fd.defaults = .none) {vs : List Value} (hl : vs.length = (fd.params.args.map (·.arg)).length) : bindArgs fd ⟨vs, []⟩ = pure ((fd.params.args.map (·.arg)).zip vs) := by
  simp only [plainParams, Bool.and_eq_true, List.isEmpty_iff, Option.isNone_iff_eq_none, decide_eq_true_eq] at hp
  refine cps fun qZ hZ => ?_
  obtain ⟨⟨⟨⟨h1, h2⟩, h3⟩, h4⟩, h5⟩ := hp
  refine hZ ?_
  clear hZ qZ
  refine cps fun qZ hZ => ?_
  obtain ⟨name, qual, ⟨po, ar, va, ko, kds, kwa, dfs⟩, body, scope, gl, cl, df, kdf, doc, pm, an, code, ct, bu⟩ := fd
  refine hZ ?_
  clear hZ qZ
  dsimp only at *
  subst h1 h2 h3 h4 hd
  have e1 := zip_filter hl
  have e2 := zip_filterMap hl h5
  have e3 : (seqItems? .none : Sem (Option (Array Value))) = pure none := rfl
  unfold bindArgs
  dsimp only
  rw [e3]
  generalize (ar.map (·.arg)) = ps at *
  simp only [List.map_nil, List.nil_append, List.append_nil, List.forIn_nil, pure_bind, Option.getD_none, List.isEmpty_nil, List.length_nil, Nat.sub_zero, List.take_length, List.drop_length, List.zip_nil_right, hl, gt_iff_lt, Nat.lt_irrefl, decide_false, Bool.false_and, Bool.false_eq_true, if_false, e1, e2, Bool.not_true, Option.isNone_none, List.drop_nil]

/-! what is asked of the written part, by computation -/
theorem fnAt_of {K : Frag} {h : Heap} (X : K.In h) {a : Addr} {fd : FuncData} {ps : List Str} {body : List Stmt} {scope : Scope} (e : fdAt K a = some fd) (hg : fnGood K fd ps = true) (hb : fd.body = .stmts body) (hs : fd.scope = scope) : FnAt h.get? a ps body scope := by
  unfold fdAt at e
  split at e
  · rename_i c d fd' sl ho
    cases e
    simp only [fnGood, Bool.and_eq_true, decide_eq_true_eq, List.isEmpty_iff] at hg
    refine cps fun qZ hZ => ?_
    obtain ⟨⟨⟨⟨⟨⟨g1, g2⟩, g3⟩, g4⟩, g5⟩, g6⟩, g7⟩ := hg
    refine hZ ?_
    clear hZ qZ
    have g8 : fd.defaults = .none := by
      revert g7; cases fd.defaults <;> intro z <;> first | rfl | cases z
    refine cps fun qZ hZ => ?_
    obtain ⟨cc, oc, vs, t, q1, q2, q3, q4⟩ := codeRec_of X g4
    refine hZ ?_
    clear hZ qZ
    exact ⟨_, fd, X _ _ ho, rfl, hb, hs, g1, g2, g3, ⟨cc, oc, vs, t, q1, q2, q3, q4⟩, fun vs hl => by rw [← g6]; exact bind_plain g5 g8 (by rw [g6]; exact hl)⟩
  · cases e
theorem refIn_of {K : Frag} {h : Heap} {mg : Str → Option Value} (X : K.In h) (G : h.Ns mainGlobals mg) {x : Str} {a : Addr} (e : refIn K x = some a) : mg x = some (.ref a) := by
  unfold refIn at e
  split at e
  · rename_i z; cases e; exact mg_of X G z
  · cases e
theorem intIn_of {K : Frag} {h : Heap} {mg : Str → Option Value} (X : K.In h) (G : h.Ns mainGlobals mg) {x : Str} {i : Int} (e : intIn K x = some i) : ∃ t, mg x = some (.int i t) := by
  unfold intIn at e
  split at e
  · rename_i z; cases e; exact ⟨_, mg_of X G z⟩
  · cases e
theorem strVals_of : ∀ {vs : List Value} {xs : List Str}, strVals vs = some xs → StrsAre vs xs
  | [], _, e => by cases e; exact .nil
  | v :: r, xs, e => by
    cases v <;> try (cases e; done)
    simp only [strVals, Option.map_eq_some_iff] at e
    obtain ⟨ys, e1, rfl⟩ := e
    exact .cons _ _ (strVals_of e1)
theorem tupIn_of {K : Frag} {h : Heap} {mg : Str → Option Value} (X : K.In h) (G : h.Ns mainGlobals mg) {x : Str} {xs : List Str} (e : tupIn K x = some xs) :
    ∃ a o arr n, mg x = some (.ref a) ∧ h.get? a = some o ∧ o.cls = .type "tuple" ∧ o.data = .seq arr n ∧ StrsAre arr.toList xs := by
  unfold tupIn at e
  split at e
  · rename_i a z
    split at e
    · rename_i c d arr n sl ho
      split at e
      · rename_i hc
        exact ⟨a, _, arr, n, mg_of X G z, X _ _ ho, beq_iff_eq.mp hc, rfl, strVals_of e⟩
      · cases e
    · cases e
  · cases e

structure KOk (K : Frag) : Prop where
  f1 : (List.range 37).map (fnRow K) = (List.range 37).map fnWant
  f2 : (List.range 37).all (fnChk K) = true
  c1 : (List.range 37).map (clsRow K) = (List.range 37).map clsWant
  c2 : (List.range 37).all (initChk K) = true
  nums : (["INTEGER", "REAL", "LOGICAL", "CHARACTER"] : List Str).map (intIn K) = [some 0, some 1, some 4, some 5]
  sets : tupIn K "CONTROL_SETS" = some (["IOSTAT", "EXIST", "OPENED", "NUMBER", "NAMED", "NAME", "ACCESS", "SEQUENTIAL", "DIRECT", "FORM", "FORMATTED", "UNFORMATTED", "RECL", "NEXTREC", "BLANK"] : List Str)
  words : tupIn K "LABEL_WORDS" = some (["END", "ERR"] : List Str)
  outs : ((["len", "sorted", "isinstance", "range", "list", "tuple", "int"] : List Str).all fun x => nsIn K mainGlobals x == some none) = true

theorem range_at {α : Type} {f g : Nat → α} {N : Nat} (h : (List.range N).map f = (List.range N).map g) {n : Nat} (hn : n < N) : f n = g n :=
  List.map_inj_left.mp h n (List.mem_range.mpr hn)
theorem none_beyond {n : Nat} (hn : ¬ n < 37) : stmtsFrom n = [] := by
  have : PySem.Challenge.pw_no0242_01.main.body.length = 37 := by decide +kernel
  exact List.drop_eq_nil_of_le (by first | lia | omega)

theorem prg_of {K : Frag} {h : Heap} {mg mb : Str → Option Value} {p : Program} {loose : List Str} {mean : ExcName → Option Value} (k : KOk K) (X : K.In h) (T : Top p loose mean mg mb h) (hp : importsNone p = true) (ls : Addr → Option (List PV))
    (hl : ∀ a l, ls a = some l → ∃ o arr n, h.get? a = some o ∧ o.cls = .type "list" ∧ o.data = .seq arr n ∧ arr.toList.map ab = l) : Prg ⟨K, mg, mb, h.get?, ls⟩ := by
  have hN : ∀ x ∈ (["len", "sorted", "isinstance", "range", "list", "tuple", "int"] : List Str), mg x = none := fun x hx => mg_none_of X T.g (beq_iff_eq.mp (List.all_eq_true.mp k.outs x hx))
  have hI := k.nums
  simp only [List.map_cons, List.map_nil, List.cons.injEq, and_true] at hI
  have hB : ∀ {x : Str} {v : Value}, bootBuiltins x = some v → x ≠ "__name__" → mb x = some v := fun e hx => (T.builtins _ hx).trans e
  refine ⟨⟨X, NsObj.of_ns T.g, NsObj.of_ns T.b, ?_, ?_, hl⟩, fun n f hn => ?_, fun n c hn => ?_, intIn_of X T.g hI.1, intIn_of X T.g hI.2.1, intIn_of X T.g hI.2.2.1, intIn_of X T.g hI.2.2.2, tupIn_of X T.g k.sets, tupIn_of X T.g k.words, ⟨hN _ (by simp), ?_⟩, ⟨hN _ (by simp), ?_⟩, ⟨hN _ (by simp), ?_⟩, ⟨hN _ (by simp), ?_⟩, ⟨hN _ (by simp), ?_⟩, ⟨hN _ (by simp), ?_⟩, ⟨hN _ (by simp), ?_⟩⟩
  · obtain ⟨mm, hm, _⟩ := (T.seer hp).mods
    obtain ⟨o, ho, _⟩ := NsObj.of_ns hm
    exact ⟨o, ho⟩
  · obtain ⟨mc, hc, hn⟩ := T.nolimit
    obtain ⟨o, ho, hno⟩ := NsObj.of_ns hc
    exact ⟨o, mc, ho, hno, hn⟩
  · have hlt : n < 37 := by
      refine Classical.byContradiction fun z => ?_
      unfold nameN at hn
      rw [none_beyond z] at hn; cases hn
    have e1 := range_at k.f1 hlt
    have e2 := List.all_eq_true.mp k.f2 n (List.mem_range.mpr hlt)
    unfold fnRow fnWant at e1
    unfold fnChk at e2
    rw [hn] at e1 e2
    simp only [Option.map_some, Option.some.injEq] at e1 e2
    obtain ⟨a, e3, e4⟩ := Option.bind_eq_some_iff.mp e1
    obtain ⟨fd, e5, e6⟩ := Option.map_eq_some_iff.mp e4
    rw [e3, Option.bind_some, e5, Option.any_some] at e2
    rw [Prod.mk.injEq] at e6
    exact ⟨a, refIn_of X T.g e3, fnAt_of X e5 e2 e6.1 e6.2⟩
  · have hlt : n < 37 := by
      refine Classical.byContradiction fun z => ?_
      unfold clsN at hn
      rw [none_beyond z] at hn; cases hn
    have e1 := range_at k.c1 hlt
    have e2 := List.all_eq_true.mp k.c2 n (List.mem_range.mpr hlt)
    unfold clsRow clsWant at e1
    unfold initChk at e2
    rw [hn] at e1 e2
    simp only [Option.map_some, Option.some.injEq] at e1 e2
    obtain ⟨C, e3, e4⟩ := Option.bind_eq_some_iff.mp e1
    rw [e3, Option.any_some, Bool.and_eq_true] at e2
    obtain ⟨e2, e2'⟩ := e2
    split at e4
    · rename_i fI hf
      rw [hf] at e2'
      dsimp only at e2'
      obtain ⟨fd, e5, e6⟩ := Option.map_eq_some_iff.mp e4
      rw [e5, Option.any_some, Bool.and_eq_true] at e2'
      rw [Prod.mk.injEq] at e6
      simp only [clsChk, Bool.and_eq_true] at e2
      refine cps fun qZ hZ => ?_
      obtain ⟨⟨⟨⟨⟨⟨q1, q2⟩, q3⟩, q4⟩, q5⟩, q6⟩, q7⟩ := e2
      refine hZ ?_
      clear hZ qZ
      exact ⟨C, refIn_of X T.g e3, ⟨q1, q2, beq_iff_eq.mp q6, q3⟩, q4, fun f hf => beq_iff_eq.mp (List.all_eq_true.mp q7 f hf), q5, ⟨fI, hf, beq_iff_eq.mp e2'.1, fnAt_of X e5 e2'.2 e6.1 e6.2⟩⟩
    · cases e4
  all_goals exact hB (by kernel_rfl) (by decide)

theorem law_ps : psN 36 = (["script"] : List Str) := by kernel_rfl
theorem law_name : nameN 36 = some "law" := by kernel_rfl
theorem room0 : Room callerA 121 := ⟨rfl, by decide +kernel, by decide +kernel⟩
theorem law_call {prog : Program} {w : World} {s₁ : Shared} {G : Glob'} (g : Prg G) (hb : G.base = s₁.heap.get?) {fa sa : Addr} (hfa : G.mg "law" = some (.ref fa)) {ns : List Int} (hl : G.lists sa = some (ns.map .int)) (hz : ns.length ≤ 63)
    {Q E : Value → Shared → Prop} (q : ∀ h' tk, (∀ b o, s₁.heap.get? b = some o → h'.get? b = some o) → Q (.bool true) { s₁ with heap := h', toks := tk }) : wpAny (model prog w) callerA (call (.ref fa) [.ref sa]) Q E s₁ := by
  obtain ⟨a, ha, hf⟩ := (g.fn 36 "law" law_name).ex
  rw [hfa] at ha; cases ha
  have O : Over G s₁.heap.get? := fun a o e => by rw [← hb]; exact e
  have H : Has prog w s₁.heap (fun _ => none) s₁.heap.get? := ⟨fun _ _ e => (by cases e), fun _ _ e => e, fun _ => .inl rfl⟩
  refine wpAny_mono (wpAny_call (Q := Q) (E := Fls) (ok_code (P := fun v _ => v = .bool true) (d := 120) g.good O room0 hf (by decide +kernel) (by rw [law_ps]; rfl) (fun env A' e1 e2 e3 e4 => ?_) H fun rv h' tk' k' p H' => ?_)) (fun _ _ x => x) fun _ _ x => False.elim x
  · have hi : interactive env = false := by
      unfold interactive
      rw [e1]; decide +kernel
    rw [law_ps]
    refine okX_mono (law_ok g (Nat.le_refl _) ⟨e1, e2, e3, e4, hi⟩ hl hz) fun fl m' k' p => ⟨k', Frzs.refl, ?_⟩
    cases fl <;> exact p
  · cases ab_bool p
    exact q h' tk' fun b o e => H'.fr b o e

theorem post_true {args : List WData} : PySem.Challenge.rw_no0242_01.row.claim.post args (.bool true) args = true := by
  refine postW_of (r := PySem.Challenge.rw_no0242_01.row.toRowW) (X := true) (by rfl) ?_ rfl
  show WTm.value _ (.eq .res (.lit (.bool true))) _ = _
  wtm_val
theorem law_top {K : Frag} {w : World} {s₁ : Shared} {mg mb : Str → Option Value} {p : Program} {loose : List Str} {mean : ExcName → Option Value} (k : KOk K) (X : K.In s₁.heap) (T : Top p loose mean mg mb s₁.heap) (hp : importsNone p = true)
    {fa sa : Addr} (hfa : mg "law" = some (.ref fa)) {vs : List Value} {ns : List Int} (hL : s₁.heap.IsList sa vs.toArray) (hI : IntsAre vs ns) (hz : ns.length ≤ 63) (hg : s₁.gens = #[]) {cl : Str → Option Addr} {mean' : ExcName → Option Value} {args : List WData} :
    wpAny (model PySem.Challenge.rw_no0242_01.row.prog w) callerA (call (.ref fa) [.ref sa]) (fun v s' => GoodWG PySem.Challenge.rw_no0242_01.row.claim cl mean' args s₁ (.ok (.ret v)) s')
      (fun e s' => GoodWG PySem.Challenge.rw_no0242_01.row.claim cl mean' args s₁ (.error e) s') s₁ := by
  have hls : ∀ a l, (fun a => if a = sa then some (ns.map PV.int) else none) a = some l → ∃ o arr n, s₁.heap.get? a = some o ∧ o.cls = .type "list" ∧ o.data = .seq arr n ∧ arr.toList.map ab = l := fun a l e => by
    dsimp only at e
    split at e
    · rename_i z; subst z; cases e
      refine cps fun qZ hZ => ?_
      obtain ⟨o, e1, e2, n, e3⟩ := hL
      refine hZ ?_
      clear hZ qZ
      exact ⟨o, _, n, e1, e2, e3, by rw [List.toList_toArray, ab_ints hI]⟩
    · cases e
  refine law_call (prg_of k X T hp _ hls) rfl hfa (by dsimp only; rw [if_pos rfl]) hz fun h' tk hk => ?_
  exact ⟨.inl ⟨.bool true, .bool true, [], rfl, fun _ => rfl, .bool true, post_true, fun _ => ⟨List.nodup_nil, fun _ h => nomatch h⟩⟩, OldK.of_keep hk, rfl, .of_eq hg⟩

section
set_option maxRecDepth 100000
set_option maxHeartbeats 8000000
theorem partOf_in {h : Heap} : ∀ (l : List Addr), (partOf h l).In h
  | [], _, _, e => by cases e
  | a :: r, b, o, e => by
    unfold partOf at e
    split at e
    · rename_i q hq
      rw [List.lookup_cons] at e
      split at e
      · rename_i z; cases e; rw [beq_iff_eq.mp z]; exact hq
      · exact partOf_in r b o e
    · exact partOf_in r b o e
theorem kOk_of {K : Frag} (e : kObs K = kVal) : KOk K := by
  unfold kObs kVal at e
  simp only [Prod.mk.injEq] at e
  refine cps fun qZ hZ => ?_
  obtain ⟨⟨e1, e2⟩, ⟨e3, e4, e5⟩, e6, e7, e8⟩ := e
  refine hZ ?_
  clear hZ qZ
  exact ⟨e1, e3, e2, e4, e6, e7, e8, e5⟩
noncomputable def hook : Hook where
  α := (List (Option (Option (FuncBody × Scope))) × List (Option (Option (FuncBody × Scope)))) × (Bool × Bool × Bool) × (List (Option Int) × Option (List Str) × Option (List Str))
  obs := fun s => kObs (partOf s.heap seenAt)
  val := fun _ => kVal
  says := fun _ h => ∃ K : Frag, K.In h ∧ KOk K
  of := fun _ s e => ⟨partOf s.heap seenAt, partOf_in _, kOk_of e⟩
  keeps := fun _ _ _ ⟨K, h1, h2⟩ k => ⟨K, h1.keeps k, h2⟩

theorem left_boot {p q : Program} {loose : List Str} {Xt : Shared → Bool} {α : Type} {Yf : Shared → α} {Ya : World → α} {N : Nat} (e : opening p = plainProg p.main.scope.names) (hN : Nat.ble 600 N = true) (f : ∀ s, fenceModules? p s = some s)
    (h : ∀ (w : World) (os : OsState), (topFrom treeTable p w N ⟨boot_heap w.params, Array.mk [], boot_drawn, boot_toks, os⟩).map (fun s => (openSeen q loose (importedModules p.main.body) Xt true s, Yf s)) = some (openGood q loose, Ya w)) : LeftO p q loose Xt Yf Ya N := fun w => by
  obtain ⟨s, hs, hv⟩ := Option.map_eq_some_iff.mp (boot_open e hN f w)
  refine cps fun qZ hZ => ?_
  obtain ⟨a, b, c, d, os⟩ := s
  refine hZ ?_
  clear hZ qZ
  simp only [Prod.mk.injEq] at hv
  refine cps fun qZ hZ => ?_
  obtain ⟨rfl, rfl, rfl, rfl⟩ := hv
  refine hZ ?_
  clear hZ qZ
  unfold openEnds
  rw [hs]
  exact h w os
theorem left : LeftO PySem.Challenge.rw_no0242_01.row.toRowW.prog lawView lawLoose (fun s => xlAt lawView [] s && recOk (RowW.records PySem.Challenge.rw_no0242_01.row.toRowW) s) hook.obs hook.val 3280 :=
  left_boot (by kernel_rfl) (by rfl) (fun s => by rfl) top_ran
end

section
set_option maxRecDepth 100000
set_option maxHeartbeats 8000000
noncomputable def lawPos : Pos := match stmtsFrom 36 with
  | .FunctionDef _ _ _ _ _ _ _ _ _ p :: _ => p
  | _ => default
theorem law_walk : WalkO lawView lawLoose (XL lawView []) hook.says theLaw.row.toRowW ⟨"law", paramsN 36, bodyN 36, scopeN 36, lawPos⟩ [] (fun f vs => call f vs) := by
  intro w s₀ s₁ mg mb G Y fa o pm cd doc dV kV ho hd hcd hD hmg hg args vals as hpre hlay hrd hwl hlo
  obtain ⟨K, KX, KO⟩ := Y
  have hfa : mg "law" = some (.ref fa) := hmg
  clear hcd hd hD hmg ho
  wrow_args hpre hlay hrd hwl hlo
  exact law_top KO KX (Ground.T G) (by decide +kernel) hfa (by assumption) (by assumption) (by first | lia | omega) hg
end

end Mine

set_option maxRecDepth 100000
set_option maxHeartbeats 8000000
theorem PySem.Challenge.cw_no0242_01_holds : PySem.Challenge.rw_no0242_01.Holds := by
  refine holds_law Mine.said_law fun said => ?_
  refine holds_open (q := Mine.lawView) (loose := Mine.lawLoose) (Xt := fun s => xlAt Mine.lawView [] s && recOk (RowW.records PySem.Challenge.rw_no0242_01.row.toRowW) s) (XP := XL Mine.lawView []) (Yf := Mine.hook.obs) (Ya := Mine.hook.val) (YP := Mine.hook.says) (N := 3280)
    Mine.left Mine.hook.of Mine.hook.keeps (fun s e => xl_of s (Bool.and_eq_true_iff.mp e).1) XL.keeps ?_ ?_ ?_ (fun s e => recFacts_of (Bool.and_eq_true_iff.mp e).2) (by rfl) said (by decide +kernel) ⟨rfl, rfl, rfl, rfl, rfl, by decide +kernel⟩ ?_ Mine.law_walk
  · kernel_rfl
  · kernel_rfl
  · kernel_rfl
  · w_witness2
