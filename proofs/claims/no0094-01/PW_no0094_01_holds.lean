import PyProof.Rows.All
import Wide.All
import OpenK.AllK
import Wide.FinOn
import PyProof.EnumMake
import PyProof.EnumStmt
import PyProof.Draws
import PyProof.LetGo
import Lean
import PySem.Challenge.RW_no0094_01
set_option Elab.async false
set_option linter.unusedVariables false
set_option maxRecDepth 100000
set_option maxHeartbeats 8000000
set_option compiler.extract_closed false
set_option genSizeOf false
set_option genInjectivity false

namespace Mine
section
open PySem PySem.W PyProof.Rows
noncomputable def isSub (K : Frag) (c t : Addr) : Bool := match K.lookup c with | some ⟨_, _, .cls cd, _⟩ => cd.mro.contains (.ref t) | _ => false
noncomputable def st (i : Nat) : Stmt := (PySem.Challenge.pw_no0094_01.main.body[i]?).getD (.Pass ⟨0, 0, 0, 0⟩)
noncomputable def bodyOf : Stmt → List Stmt
  | .FunctionDef _ _ b _ _ _ _ _ _ _ => b
  | .ClassDef _ _ _ b _ _ _ _ _ _ _ => b
  | _ => []
noncomputable def scopeOf : Stmt → Scope
  | .FunctionDef _ _ _ _ _ _ sc _ _ _ => sc
  | _ => default
noncomputable def argsOf : Stmt → Arguments
  | .FunctionDef _ a _ _ _ _ _ _ _ _ => a
  | _ => default
noncomputable def meth (i j : Nat) : Stmt := ((bodyOf (st i))[j]?).getD (.Pass ⟨0, 0, 0, 0⟩)
noncomputable def fnTab : List (Str × Addr × Nat) := [(("number" : Str), 109, 13), (("read_number" : Str), 116, 14), (("need_distance" : Str), 123, 15), (("delta_packed" : Str), 128, 16), (("delta_unpacked" : Str), 135, 17), (("dictionary_size" : Str), 142, 18), (("dictionary_octet" : Str), 147, 19),
  (("read_chain" : Str), 215, 22), (("need_count" : Str), 222, 24), (("end_of" : Str), 229, 25), (("_law_pool" : Str), 314, 28), (("_law_take" : Str), 321, 29), (("_law_value" : Str), 328, 30), (("_law_digits" : Str), 333, 31), (("_law_written" : Str), 340, 32), (("_law_one" : Str), 345, 33), (("_law_all" : Str), 352, 34),
  (("_law_told" : Str), 359, 35), (("_law_stream" : Str), 364, 36), (("_law_numbers_right" : Str), 371, 37), (("_law_text" : Str), 376, 38), (("_law_gap" : Str), 383, 39), (("_law_apart" : Str), 390, 40), (("_law_refused" : Str), 397, 41), (("_law_deltas_right" : Str), 402, 42), (("_law_sizes" : Str), 409, 43),
  (("_law_least" : Str), 414, 44), (("_law_octet" : Str), 421, 45), (("_law_size" : Str), 428, 46), (("_law_dictionaries_right" : Str), 433, 47), (("_law_filters" : Str), 440, 48), (("_law_read" : Str), 447, 49), (("_law_filters_right" : Str), 452, 50), (("law" : Str), 459, 51)]
noncomputable def clsTab : List (Str × Addr) := [(("CutShort" : Str), 52), (("BadHeader" : Str), 64), (("BadNumber" : Str), 76), (("Unsupported" : Str), 88), (("BadArgument" : Str), 100), (("Chain" : Str), 178), (("PackingChain" : Str), 206), (("Octets" : Str), 303)]
noncomputable def excTab : List Addr := [52, 64, 76, 88, 100]
noncomputable def typTab : List (Str × Value) := [(("isinstance" : Str), .builtin "isinstance"), (("len" : Str), .builtin "len"), (("min" : Str), .builtin "min"), (("abs" : Str), .builtin "abs"), (("sum" : Str), .builtin "sum"), (("int" : Str), .type "int"), (("bool" : Str), .type "bool"), (("str" : Str), .type "str"), (("bytes" : Str), .type "bytes"), (("bytearray" : Str), .type "bytearray"), (("range" : Str), .type "range"), (("enumerate" : Str), .type "enumerate"), (("list" : Str), .type "list")]
noncomputable def methTab : List (Addr × Str × Addr × Nat × Nat) := [(303, ("left" : Str), 251, 26, 1), (303, ("take" : Str), 265, 26, 3), (303, ("octet" : Str), 279, 26, 5), (206, ("count" : Str), 168, 20, 1), (206, ("back" : Str), 175, 20, 2), (206, ("described" : Str), 196, 21, 0), (206, ("ahead" : Str), 203, 21, 1)]
noncomputable def fldTab : List (Addr × Str) := [(303, ("data" : Str)), (303, ("stop" : Str)), (303, ("place" : Str)), (206, ("distances" : Str)), (206, ("dictionary" : Str)), (178, ("distances" : Str)), (178, ("dictionary" : Str))]
noncomputable abbrev pw : Program := PySem.Challenge.pw_no0094_01
noncomputable def fnGet (h : Heap) (a : Addr) : Option FuncData := match h.get? a with
  | some o => (match o.data with | .func fd => some fd | _ => none)
  | none => none
noncomputable def codeOk (h : Heap) (cd : Value) (q : Str) : Bool := match cd with
  | .ref c => (match h.get? c with
    | some o => (match o.data with
      | .fields vs => (match vs.toList with
        | _ :: .str x _ :: _ => x == q
        | _ => false)
      | _ => false)
    | none => false)
  | _ => false
noncomputable def fnChk (h : Heap) (a : Addr) (dv : Value) : Bool := match fnGet h a with
  | some fd => fd.globals == mainGlobals && fd.builtins == builtinsNs && fd.closure.isEmpty && fd.defaults == dv && codeOk h fd.code fd.qualname
  | none => false
noncomputable def plainFns : List (Addr × Stmt) := (fnTab.map fun p => (p.2.1, st p.2.2)) ++ (methTab.map fun p => (p.2.2.1, meth p.2.2.2.1 p.2.2.2.2)) ++ [(161, meth 20 0)]
noncomputable def dfltFns : List (Addr × Stmt) := [(36, meth 2 0), (244, meth 26 0)]
noncomputable def plainA : List Addr := (fnTab.map (·.2.1)) ++ (methTab.map (·.2.2.1)) ++ [161]
noncomputable def fnLook (h : Heap) : List (Option (FuncBody × Scope × Arguments)) := (plainA ++ [36, 244]).map fun a : Addr => (fnGet h a).map fun fd : FuncData => (fd.body, fd.scope, fd.params)
noncomputable def fnExp : List (Option (FuncBody × Scope × Arguments)) := (plainFns ++ dfltFns).map fun p => some (.stmts (bodyOf p.2), scopeOf p.2, argsOf p.2)
noncomputable def kAddrs : List Addr := [39, 52, 64, 76, 88, 100, 178, 206, 303, 38, 51, 63, 75, 87, 99, 177, 205, 302, 36, 161, 168, 175, 196, 203, 244, 251, 265, 279]
noncomputable def fragL (h : Heap) : List Addr → Frag
  | [] => []
  | a :: r => match h.get? a with
    | some o => (a, o) :: fragL h r
    | none => fragL h r
noncomputable def frag (h : Heap) : Frag := fragL h kAddrs
noncomputable def excB : List Value := [.ref 39, .type "ValueError", .type "Exception", .type "BaseException", .type "object"]
noncomputable def excOk (K : Frag) (Cl : Addr) : Bool := match K.lookup Cl with
  | some ⟨c, dd, .cls cd, sl⟩ => c == .type "type" && cd.mro == .ref Cl :: excB && cd.hasDict && !cd.hasDel && (match sl.toList with
    | [_, _, _, _, k, _] => k == some (.builtin "ValueError.__new__")
    | _ => false)
  | _ => false
noncomputable def opIs (x : Option (Option Value)) (y : Option Value) : Bool := match x with
  | some z => z == y
  | none => false
noncomputable def excAll (K : Frag) (Cl : Addr) : Bool := excOk K Cl && opIs (findIn K (.ref Cl) "__init__") (some (.ref 36)) && (typeIn K (.ref 36) == some (.type "function")) &&
  opIs (findIn K (.ref Cl) "__setattr__") (some (.builtin "object.__setattr__")) && opIs (takerIn K Cl "reason") none && keepIn K (.ref Cl)
noncomputable def methAll (K : Frag) (Cl : Addr) (x : Str) (f : Addr) : Bool := opIs (findIn K (.ref Cl) "__getattribute__") (some (.builtin "object.__getattribute__")) && opIs (findIn K (.ref Cl) "__getattr__") none && opIs (findIn K (.ref Cl) x) (some (.ref f)) && (typeIn K (.ref f) == some (.type "function"))
noncomputable def makesAll (K : Frag) (Cl f : Addr) : Bool := makesIn K Cl && opIs (findIn K (.ref Cl) "__init__") (some (.ref f)) && (typeIn K (.ref f) == some (.type "function")) && keepIn K (.ref Cl)
noncomputable def rdsAll (K : Frag) (Cl : Addr) : Bool := opIs (findIn K (.ref Cl) "__getattribute__") (some (.builtin "object.__getattribute__")) && opIs (findIn K (.ref Cl) "__getattr__") none && (clsIn K Cl).any (·.hasDict) && opIs (findIn K (.ref Cl) "__setattr__") (some (.builtin "object.__setattr__")) && plainOver K Cl
noncomputable def conL : List (Str × Int) := [("DELTA", 3), ("LZMA2", 33), ("MOST_FILTERS", 4), ("MOST_DICTIONARY", 4294967295)]
noncomputable def intIs (x : Option Value) (k : Int) : Bool := match x with
  | some (.int i _) => i == k
  | _ => false
noncomputable def dflt1 (h : Heap) : Bool := match h.get? 29 with
  | some o => (match o.data with | .seq vs _ => vs.size == 1 | _ => false)
  | none => false
noncomputable def dflt2 (h : Heap) : Bool := match h.get? 237 with
  | some o => (match o.data with | .seq vs _ => (match vs.toList with | [.int i _, v] => i == 0 && v == .none | _ => false) | _ => false)
  | none => false
noncomputable def headChk (mg : Str → Option Value) (h : Heap) (K : Frag) : Bool :=
  (fnTab.all fun p => mg p.1 == some (.ref p.2.1)) && (clsTab.all fun p => mg p.1 == some (.ref p.2)) && (typTab.all fun p => mg p.1 == none) && (conL.all fun p => intIs (mg p.1) p.2) && (mg "ValueError" == none) &&
  (plainA.all fun a => fnChk h a .none) && fnChk h 36 (.ref 29) && fnChk h 244 (.ref 237) && dflt1 h && dflt2 h &&
  (excTab.all fun c => excAll K c) && (excTab.all fun c => excTab.all fun t => isSub K c t == (c == t)) && (methTab.all fun p => methAll K p.1 p.2.1 p.2.2.1) &&
  makesAll K 303 244 && makesAll K 206 161 && makesAll K 178 161 && rdsAll K 303 && rdsAll K 206 && rdsAll K 178 && (fldTab.all fun p => opIs (findIn K (.ref p.1) p.2) none && opIs (takerIn K p.1 p.2) none)
noncomputable def qv : Program := { pw with main := { pw.main with body := [st 51] } }
noncomputable def looseL : List Str := (["PressError", "DELTA", "LZMA2", "MOST_FILTERS", "MOST_DICTIONARY", "_wall"] : List Str) ++ ((fnTab.map (·.1)).filter fun x : Str => x != "law") ++ clsTab.map (·.1)
noncomputable def Xt (s : Shared) : Bool := headChk (s.heap.nsMap mainGlobals) s.heap (frag s.heap)
noncomputable def topRunT (tb : String → Option Builtin) (p : Program) (w : World) (n₀ : Nat) (ann : Option Value) (n : Nat) : SharedT → Thread → Option SharedT :=
  @Nat.rec (fun u₀ => SharedT → Thread → Option SharedT) (fun u₀ u₀ => none) (fun u₀ ih s t => @Bool.rec (fun u₀ => Option SharedT) (@Bool.rec (fun u₀ => Option SharedT) none (@Option.rec (SharedT × Thread) (fun u₀ => Option SharedT) none (fun r => ih r.1 r.2) (stepT (denote tb) p w s t)) (stepOk n₀ ann t)) (some s) (through t)) n
noncomputable def boot0 (P : Params) : BT := (boot_heap P).objs.toList.foldl (fun (x : Nat × BT) o => (x.1 + 1, x.2.ins x.1 o)) (0, BT.nil) |>.2
noncomputable def bootT (w : World) (os : OsState) : SharedT := ⟨boot0 w.params, 11, (boot_heap w.params).life, #[], boot_drawn, boot_toks, os⟩
noncomputable def shotP (p q : Program) (lo : List Str) (chk : Shared → Bool) (look : Heap → List (Option (FuncBody × Scope × Arguments))) (w : World) (os : OsState) := ((topRunT treeTable p w 11 (some (.ref 6)) 3500 (bootT w os) (topStub p)).map SharedT.abs).map fun s₁ => ((staticsOk (importedModules p.main.body) (boot_heap w.params) s₁.heap && namesBound p s₁.heap && gensDone s₁ && laidKept (boot_heap w.params) s₁.heap), openSeen q lo (importedModules p.main.body) chk true s₁, look s₁.heap)
noncomputable def shotE (q : Program) (lo : List Str) (e : List (Option (FuncBody × Scope × Arguments))) := some (true, openGood q lo, e)
theorem lay : (fun (_ : Program → Program → List Str → (Shared → Bool) → (Heap → List (Option (FuncBody × Scope × Arguments))) → World → OsState → Option _) (_ : Program → List Str → List (Option (FuncBody × Scope × Arguments)) → Option _) => true) shotP shotE = true := by k_qdec
theorem shot_eq (w : World) (os : OsState) : shotP pw qv looseL Xt fnLook w os = shotE qv looseL fnExp := by rw [PySem.W.Fast.te10035839613694778486]; kernel_rfl

end

namespace Internal

section
set_option tactic.hygienic false
open PySem PySem.W PyProof.Rows
inductive Ex2 {α β : Type} (p : α → β → Prop) : Prop | mk (a : α) (b : β) (h : p a b)
inductive Ex3 {α β γ : Type} (p : α → β → γ → Prop) : Prop | mk (a : α) (b : β) (c : γ) (h : p a b c)
inductive Ex4 {α β γ δ : Type} (p : α → β → γ → δ → Prop) : Prop | mk (a : α) (b : β) (c : γ) (d : δ) (h : p a b c d)
inductive Ex5 {α β γ δ ε : Type} (p : α → β → γ → δ → ε → Prop) : Prop | mk (a : α) (b : β) (c : γ) (d : δ) (e : ε) (h : p a b c d e)
inductive And3 (a b c : Prop) : Prop | mk (h1 : a) (h2 : b) (h3 : c)
inductive And4 (a b c d : Prop) : Prop | mk (h1 : a) (h2 : b) (h3 : c) (h4 : d)
inductive And5 (a b c d e : Prop) : Prop | mk (h1 : a) (h2 : b) (h3 : c) (h4 : d) (h5 : e)
inductive And6 (a b c d e f : Prop) : Prop | mk (h1 : a) (h2 : b) (h3 : c) (h4 : d) (h5 : e) (h6 : f)
inductive And7 (a b c d e f g : Prop) : Prop | mk (h1 : a) (h2 : b) (h3 : c) (h4 : d) (h5 : e) (h6 : f) (h7 : g)
inductive And8 (a b c d e f g i : Prop) : Prop | mk (h1 : a) (h2 : b) (h3 : c) (h4 : d) (h5 : e) (h6 : f) (h7 : g) (h8 : i)
theorem absP {G : Prop} (h : ∀ P : Prop, (G → P) → P) : G := h G id

mutual
inductive FV (h : Heap) (M : List Addr) : Value → PyData → Prop
  | none : FV h M .none .none
  | bool (b : Bool) : FV h M (.bool b) (.bool b)
  | int (i : Int) (t : Tok) : FV h M (.int i t) (.int i)
  | str (x : Str) (t : Tok) : FV h M (.str x t) (.str x)
  | list {a : Addr} {o : Obj} {vs : Array Value} {n : Nat} {xs : List PyData} : a ∉ M → h.get? a = some o → o.cls = .type "list" → o.data = .seq vs n → FVs h M vs.toList xs → FV h M (.ref a) (.list xs)
  | tuple {a : Addr} {o : Obj} {vs : Array Value} {n : Nat} {xs : List PyData} : a ∉ M → h.get? a = some o → o.cls = .type "tuple" → o.data = .seq vs n → FVs h M vs.toList xs → FV h M (.ref a) (.tuple xs)
inductive FVs (h : Heap) (M : List Addr) : List Value → List PyData → Prop
  | nil : FVs h M [] []
  | cons {v : Value} {vs : List Value} {d : PyData} {ds : List PyData} : FV h M v d → FVs h M vs ds → FVs h M (v :: vs) (d :: ds)
end

structure Mono (h h' : Heap) (M M' : List Addr) : Prop where
  keep : ∀ b o, b ∉ M → h.get? b = some o → ∃ sl, h'.get? b = some { o with slots := sl }
  sub : ∀ b ∈ M', b ∈ M ∨ ∀ o, h.get? b = some o → ∀ vs n, o.data ≠ .seq vs n
theorem Mono.of {h h' : Heap} {M M' : List Addr} (k : ∀ b o, b ∉ M → h.get? b = some o → h'.get? b = some o) (s : ∀ b ∈ M', b ∈ M ∨ h.get? b = none) : Mono h h' M M' :=
  ⟨fun b o n e => ⟨o.slots, k b o n e⟩, fun b hb => (s b hb).imp id fun z o e => by rw [e] at z; cases z⟩

theorem FV.mono {h h' : Heap} {M M' : List Addr} (m : Mono h h' M M') {v : Value} {d : PyData} (x : FV h M v d) : FV h' M' v d :=
  FV.rec (motive_1 := fun v d u₀ => FV h' M' v d) (motive_2 := fun vs ds u₀ => FVs h' M' vs ds) .none .bool .int .str
    (fun n e c d u₀ ih => (m.keep _ _ n e).elim fun u₀ e' => .list (fun q => (m.sub _ q).elim n fun z => z _ e _ _ d) e' c d ih)
    (fun n e c d u₀ ih => (m.keep _ _ n e).elim fun u₀ e' => .tuple (fun q => (m.sub _ q).elim n fun z => z _ e _ _ d) e' c d ih) .nil (fun u₀ u₀ a b => .cons a b) x
theorem FVs.ind {h : Heap} {M : List Addr} {P : List Value → List PyData → Prop} {vs : List Value} {ds : List PyData} (x : FVs h M vs ds) (n : P [] []) (c : ∀ v vs d ds, FV h M v d → FVs h M vs ds → P vs ds → P (v :: vs) (d :: ds)) : P vs ds :=
  FVs.rec (motive_1 := fun u₀ u₀ u₀ => True) (motive_2 := fun vs ds u₀ => P vs ds) trivial (fun u₀ => trivial) (fun u₀ u₀ => trivial) (fun u₀ u₀ => trivial) (fun u₀ u₀ u₀ u₀ u₀ u₀ => trivial) (fun u₀ u₀ u₀ u₀ u₀ u₀ => trivial) n (fun a b u₀ ih => c _ _ _ _ a b ih) x
theorem FVs.mono {h h' : Heap} {M M' : List Addr} (m : Mono h h' M M') {vs : List Value} {ds : List PyData} (x : FVs h M vs ds) : FVs h' M' vs ds :=
  x.ind (P := fun vs ds => FVs h' M' vs ds) .nil fun u₀ u₀ u₀ u₀ a u₀ ih => .cons (a.mono m) ih
theorem FV.reads {h : Heap} {M : List Addr} {v : Value} {d : PyData} (x : FV h M v d) : ∃ as, Reads h v d as :=
  FV.rec (motive_1 := fun v d u₀ => ∃ as, Reads h v d as) (motive_2 := fun vs ds u₀ => ∃ as, ReadsAll h vs ds as) ⟨_, .none⟩ (fun b => ⟨_, .bool b⟩) (fun i t => ⟨_, .int i t⟩) (fun x t => ⟨_, .str x t⟩)
    (fun u₀ e c d u₀ ih => ih.elim fun u₀ r => ⟨_, .list e c d r⟩) (fun u₀ e c d u₀ ih => ih.elim fun u₀ r => ⟨_, .tuple e c d r⟩) ⟨_, .nil⟩ (fun u₀ u₀ a b => a.elim fun u₀ r => b.elim fun u₀ q => ⟨_, .cons r q⟩) x
theorem FVs.reads {h : Heap} {M : List Addr} {vs : List Value} {ds : List PyData} (x : FVs h M vs ds) : ∃ as, ReadsAll h vs ds as :=
  x.ind (P := fun vs ds => ∃ as, ReadsAll h vs ds as) ⟨_, .nil⟩ fun u₀ u₀ u₀ u₀ a u₀ ih => a.reads.elim fun u₀ r => ih.elim fun u₀ q => ⟨_, .cons r q⟩
theorem FVs.length {h : Heap} {M : List Addr} {vs : List Value} {ds : List PyData} (x : FVs h M vs ds) : vs.length = ds.length :=
  x.ind (P := fun vs ds => vs.length = ds.length) rfl fun u₀ u₀ u₀ u₀ u₀ u₀ ih => congrArg (· + 1) ih
theorem FVs.get {h : Heap} {M : List Addr} {vs : List Value} {ds : List PyData} (x : FVs h M vs ds) {i : Nat} {d : PyData} (e : ds[i]? = some d) : ∃ v, vs[i]? = some v ∧ FV h M v d := by
  refine x.ind (P := fun vs ds => ∀ i : Nat, ds[i]? = some d → ∃ v, vs[i]? = some v ∧ FV h M v d) (fun i e => nomatch e) (fun v vs d' ds a u₀ ih i e => ?_) i e
  cases i with
  | zero => cases e; exact ⟨_, rfl, a⟩
  | succ i => exact ih i e
theorem FVs.append {h : Heap} {M : List Addr} {vs ws : List Value} {ds es : List PyData} (x : FVs h M vs ds) (q : FVs h M ws es) : FVs h M (vs ++ ws) (ds ++ es) :=
  x.ind (P := fun vs ds => FVs h M (vs ++ ws) (ds ++ es)) q fun u₀ u₀ u₀ u₀ a u₀ ih => .cons a ih
theorem FVs.take {h : Heap} {M : List Addr} {vs : List Value} {ds : List PyData} (n : Nat) (x : FVs h M vs ds) : FVs h M (vs.take n) (ds.take n) := by
  refine x.ind (P := fun vs ds => ∀ n, FVs h M (vs.take n) (ds.take n)) (fun n => ?_) (fun v vs d ds a u₀ ih n => ?_) n
  · rw [List.take_nil, List.take_nil]; exact .nil
  · cases n with
    | zero => exact .nil
    | succ n => exact .cons a (ih n)
theorem FVs.drop {h : Heap} {M : List Addr} {vs : List Value} {ds : List PyData} (n : Nat) (x : FVs h M vs ds) : FVs h M (vs.drop n) (ds.drop n) := by
  refine x.ind (P := fun vs ds => ∀ n, FVs h M (vs.drop n) (ds.drop n)) (fun n => ?_) (fun v vs d ds a b ih n => ?_) n
  · rw [List.drop_nil, List.drop_nil]; exact .nil
  · cases n with
    | zero => exact .cons a b
    | succ n => exact ih n
theorem FVs.reverse {h : Heap} {M : List Addr} {vs : List Value} {ds : List PyData} (x : FVs h M vs ds) : FVs h M vs.reverse ds.reverse :=
  x.ind (P := fun vs ds => FVs h M vs.reverse ds.reverse) .nil fun u₀ u₀ u₀ u₀ a u₀ ih => by rw [List.reverse_cons, List.reverse_cons]; exact ih.append (.cons a .nil)

inductive D where
  | dat (d : PyData)
  | bytes (l : List UInt8)
  | ptr (a : Addr)
  | con (v : Value)
noncomputable abbrev D.int (i : Int) : D := .dat (.int i)
noncomputable abbrev D.bool (b : Bool) : D := .dat (.bool b)
noncomputable abbrev D.none : D := .dat .none
noncomputable abbrev D.str (x : Str) : D := .dat (.str x)

inductive VD (h : Heap) (M : List Addr) : Value → D → Prop
  | dat {v : Value} {d : PyData} : FV h M v d → VD h M v (.dat d)
  | bytes (l : List UInt8) (t : Tok) : VD h M (.bytes l.toArray t) (.bytes l)
  | ptr (a : Addr) : VD h M (.ref a) (.ptr a)
  | con (v : Value) : VD h M v (.con v)
theorem VD.mono {h h' : Heap} {M M' : List Addr} (m : Mono h h' M M') {v : Value} {d : D} (x : VD h M v d) : VD h' M' v d := by
  cases x with
  | dat x => exact .dat (x.mono m)
  | bytes l t => exact .bytes l t
  | ptr a => exact .ptr a
  | con v => exact .con v
theorem VD.int_inv {h : Heap} {M : List Addr} {v : Value} {i : Int} (x : VD h M v (.int i)) : ∃ t, v = .int i t := by
  cases x with | dat x => cases x with | int _ t => exact ⟨t, rfl⟩
theorem VD.bool_inv {h : Heap} {M : List Addr} {v : Value} {b : Bool} (x : VD h M v (.bool b)) : v = .bool b := by
  cases x with | dat x => cases x with | bool _ => rfl
theorem VD.none_inv {h : Heap} {M : List Addr} {v : Value} (x : VD h M v .none) : v = .none := by
  cases x with | dat x => cases x with | none => rfl
theorem VD.str_inv {h : Heap} {M : List Addr} {v : Value} {s : Str} (x : VD h M v (.str s)) : ∃ t, v = .str s t := by
  cases x with | dat x => cases x with | str _ t => exact ⟨t, rfl⟩
theorem VD.bytes_inv {h : Heap} {M : List Addr} {v : Value} {l : List UInt8} (x : VD h M v (.bytes l)) : ∃ t, v = .bytes l.toArray t := by
  cases x with | bytes _ t => exact ⟨t, rfl⟩
theorem VD.ptr_inv {h : Heap} {M : List Addr} {v : Value} {a : Addr} (x : VD h M v (.ptr a)) : v = .ref a := by cases x; rfl
theorem VD.con_inv {h : Heap} {M : List Addr} {v u : Value} (x : VD h M v (.con u)) : v = u := by cases x; rfl

inductive VDs (h : Heap) (M : List Addr) : List Value → List D → Prop
  | nil : VDs h M [] []
  | cons {v : Value} {vs : List Value} {d : D} {ds : List D} : VD h M v d → VDs h M vs ds → VDs h M (v :: vs) (d :: ds)
theorem VDs.mono {h h' : Heap} {M M' : List Addr} (m : Mono h h' M M') {vs : List Value} {ds : List D} (x : VDs h M vs ds) : VDs h' M' vs ds := by
  induction x with
  | nil => exact .nil
  | cons a _ ih => exact .cons (a.mono m) ih
theorem VDs.length {h : Heap} {M : List Addr} {vs : List Value} {ds : List D} (x : VDs h M vs ds) : vs.length = ds.length := by
  induction x with
  | nil => rfl
  | cons _ _ ih => exact congrArg (· + 1) ih
theorem VDs.get {h : Heap} {M : List Addr} {vs : List Value} {ds : List D} (x : VDs h M vs ds) {i : Nat} {d : D} (e : ds[i]? = some d) : ∃ v, vs[i]? = some v ∧ VD h M v d := by
  induction x generalizing i with
  | nil => cases e
  | cons a _ ih => cases i with
    | zero => cases e; exact ⟨_, rfl, a⟩
    | succ i => exact ih (i := i) e
theorem VDs.append {h : Heap} {M : List Addr} {vs ws : List Value} {ds es : List D} (x : VDs h M vs ds) (q : VDs h M ws es) : VDs h M (vs ++ ws) (ds ++ es) := by
  induction x with
  | nil => exact q
  | cons a _ ih => exact .cons a ih
theorem VDs.set {h : Heap} {M : List Addr} {vs : List Value} {ds : List D} (x : VDs h M vs ds) (i : Nat) {v : Value} {d : D} (y : VD h M v d) : VDs h M (vs.set i v) (ds.set i d) := by
  induction x generalizing i with
  | nil => exact .nil
  | cons a b ih => cases i with
    | zero => exact .cons y b
    | succ i => exact .cons a (ih i)
theorem VD.dat_inv {h : Heap} {M : List Addr} {v : Value} {d : PyData} (x : VD h M v (.dat d)) : FV h M v d := by
  cases x with | dat x => exact x
theorem VDs.uncons {h : Heap} {M : List Addr} {vs : List Value} {d : D} {ds : List D} (x : VDs h M vs (d :: ds)) : ∃ v ws, vs = v :: ws ∧ VD h M v d ∧ VDs h M ws ds := by
  cases x with | cons a b => exact ⟨_, _, rfl, a, b⟩
theorem VDs.unnil {h : Heap} {M : List Addr} {vs : List Value} (x : VDs h M vs []) : vs = [] := by cases x; rfl
theorem VDs.one {h : Heap} {M : List Addr} {vs : List Value} {d : D} (x : VDs h M vs [d]) : ∃ v, vs = [v] ∧ VD h M v d := by
  obtain ⟨v, ws, rfl, a, b⟩ := x.uncons; exact ⟨v, by rw [b.unnil], a⟩
theorem VDs.two {h : Heap} {M : List Addr} {vs : List Value} {d e : D} (x : VDs h M vs [d, e]) : ∃ v w, vs = [v, w] ∧ VD h M v d ∧ VD h M w e := by
  obtain ⟨v, ws, rfl, a, b⟩ := x.uncons; obtain ⟨w, rfl, c⟩ := b.one; exact ⟨v, w, rfl, a, c⟩
theorem VDs.three {h : Heap} {M : List Addr} {vs : List Value} {d e f : D} (x : VDs h M vs [d, e, f]) : ∃ v w u, vs = [v, w, u] ∧ VD h M v d ∧ VD h M w e ∧ VD h M u f := by
  obtain ⟨v, ws, rfl, a, b⟩ := x.uncons; obtain ⟨w, u, rfl, c, g⟩ := b.two; exact ⟨v, w, u, rfl, a, c, g⟩
theorem FV.list_inv {h : Heap} {M : List Addr} {v : Value} {xs : List PyData} (x : FV h M v (.list xs)) : ∃ a o vs n, v = .ref a ∧ a ∉ M ∧ h.get? a = some o ∧ o.cls = .type "list" ∧ o.data = .seq vs n ∧ FVs h M vs.toList xs := by
  cases x with | list n e c d f => exact ⟨_, _, _, _, rfl, n, e, c, d, f⟩
theorem FV.tuple_inv {h : Heap} {M : List Addr} {v : Value} {xs : List PyData} (x : FV h M v (.tuple xs)) : ∃ a o vs n, v = .ref a ∧ a ∉ M ∧ h.get? a = some o ∧ o.cls = .type "tuple" ∧ o.data = .seq vs n ∧ FVs h M vs.toList xs := by
  cases x with | tuple n e c d f => exact ⟨_, _, _, _, rfl, n, e, c, d, f⟩
theorem VDs.toFVs {h : Heap} {M : List Addr} {vs : List Value} {ds : List PyData} (x : VDs h M vs (ds.map .dat)) : FVs h M vs ds := by
  generalize he : ds.map D.dat = es at x
  induction x generalizing ds with
  | nil => cases ds with
    | nil => exact .nil
    | cons => cases he
  | cons a _ ih => cases ds with
    | nil => cases he
    | cons d ds => exact .cons ((List.cons.inj he).1 ▸ a).dat_inv (ih (List.cons.inj he).2)

inductive AO where
  | list (ds : List D)
  | app (ds : List D)
  | ba (l : List UInt8)
  | inst (C dx : Addr) (fs : List (Str × D))
  | exc (C : Addr) (T : Option Addr)
  | raw (o : Obj)
noncomputable def AO.more : AO → List Addr
  | .inst _ dx _ => [dx]
  | .exc _ T => T.toList
  | _ => []

inductive ES (h : Heap) (M : List Addr) : List DictEntry → List (Str × D) → Prop
  | nil : ES h M [] []
  | cons {e : DictEntry} {es : List DictEntry} {x : Str} {t : Tok} {d : D} {fs : List (Str × D)} : e.key = .str x t → VD h M e.val d → ES h M es fs → ES h M (e :: es) ((x, d) :: fs)
theorem ES.mono {h h' : Heap} {M M' : List Addr} (m : Mono h h' M M') {es : List DictEntry} {fs : List (Str × D)} (x : ES h M es fs) : ES h' M' es fs := by
  induction x with
  | nil => exact .nil
  | cons k v _ ih => exact .cons k (v.mono m) ih

noncomputable def OD (h : Heap) (M : List Addr) (a : Addr) : AO → Prop
  | .list ds => ∃ vs, h.IsList a vs ∧ VDs h M vs.toList ds
  | .app ds => ∃ vs n, h.get? a = some { cls := .type "list", data := .seq vs n } ∧ VDs h M vs.toList ds
  | .ba l => h.get? a = some { cls := .type "bytearray", data := .bytearray l.toArray 0 }
  | .inst C dx fs => h.get? a = some (instObj C dx) ∧ ∃ es n, h.get? dx = some (dictOf es n) ∧ ES h M es fs
  | .exc C T => ∃ o vs, h.get? a = some o ∧ o.cls = .ref C ∧ o.data = .fields vs ∧ (match T with
      | none => vs[1]? = some .none
      | some t => vs[1]? = some (.ref t) ∧ ∃ o' ts, h.get? t = some o' ∧ o'.data = .fields ts ∧ 3 < ts.size)
  | .raw o => h.get? a = some o

noncomputable abbrev MH := List (Addr × AO)
noncomputable def foot (p : Addr × AO) : List Addr := p.1 :: p.2.more
noncomputable def addrs (mh : MH) : List Addr := mh.flatMap foot
@[simp] theorem addrs_cons (p : Addr × AO) (mh : MH) : addrs (p :: mh) = foot p ++ addrs mh := by simp [addrs]
@[simp] theorem addrs_append (a b : MH) : addrs (a ++ b) = addrs a ++ addrs b := by simp [addrs]
@[simp] theorem addrs_nil : addrs [] = [] := rfl

theorem OD.mono {h h' : Heap} {M M' : List Addr} (m : Mono h h' M M') {a : Addr} {o : AO} (k : ∀ b ∈ foot (a, o), ∀ x, h.get? b = some x → h'.get? b = some x) (x : OD h M a o) : OD h' M' a o := by
  have ka := k a (by simp [foot])
  cases o with
  | list ds => obtain ⟨vs, ⟨o, e, c⟩, r⟩ := x; exact ⟨vs, ⟨o, ka _ e, c⟩, r.mono m⟩
  | app ds => obtain ⟨vs, n, e, r⟩ := x; exact ⟨vs, n, ka _ e, r.mono m⟩
  | ba l => exact ka _ x
  | inst C dx fs => obtain ⟨e, es, n, e', r⟩ := x; exact ⟨ka _ e, es, n, k dx (by simp [foot, AO.more]) _ e', r.mono m⟩
  | exc C T =>
    refine absP fun P₀ hP₀ => ?_
    obtain ⟨o, vs, e, c, d, r⟩ := x
    refine hP₀ ?_; clear hP₀ P₀
    refine ⟨o, vs, ka _ e, c, d, ?_⟩
    cases T with
    | none => exact r
    | some t => obtain ⟨r1, o', ts, e', r2⟩ := r; exact ⟨r1, o', ts, k t (by simp [foot, AO.more]) _ e', r2⟩
  | raw o => exact ka _ x
theorem OD.there {h : Heap} {M : List Addr} {a : Addr} {o : AO} (x : OD h M a o) : ∀ b ∈ foot (a, o), ∃ ob, h.get? b = some ob := by
  intro b hb
  cases o with
  | list ds => obtain ⟨vs, ⟨o, e, c⟩, r⟩ := x; simp [foot, AO.more] at hb; subst hb; exact ⟨_, e⟩
  | app ds => obtain ⟨vs, n, e, r⟩ := x; simp [foot, AO.more] at hb; subst hb; exact ⟨_, e⟩
  | ba l => simp [foot, AO.more] at hb; subst hb; exact ⟨_, x⟩
  | inst C dx fs =>
    refine absP fun P₀ hP₀ => ?_
    obtain ⟨e, es, n, e', r⟩ := x
    refine hP₀ ?_; clear hP₀ P₀
    simp [foot, AO.more] at hb
    rcases hb with rfl | rfl
    · exact ⟨_, e⟩
    · exact ⟨_, e'⟩
  | exc C T =>
    refine absP fun P₀ hP₀ => ?_
    obtain ⟨o, vs, e, c, d, r⟩ := x
    refine hP₀ ?_; clear hP₀ P₀
    cases T with
    | none => simp [foot, AO.more] at hb; subst hb; exact ⟨_, e⟩
    | some t =>
      refine absP fun P₀ hP₀ => ?_
      obtain ⟨r1, o', ts, e', r2⟩ := r
      refine hP₀ ?_; clear hP₀ P₀
      simp [foot, AO.more] at hb
      rcases hb with rfl | rfl
      · exact ⟨_, e⟩
      · exact ⟨_, e'⟩
  | raw o => simp [foot, AO.more] at hb; subst hb; exact ⟨_, x⟩

end

section
set_option tactic.hygienic false
open PySem PySem.W PyProof.Rows

structure Later (M F : List Addr) (s s' : Shared) : Prop where
  keep : ∀ b o, b ∉ M → b ∉ F → s.heap.get? b = some o → s'.heap.get? b = some o
  slot : ∀ b o, b ∉ M → b ∈ F → s.heap.get? b = some o → ∃ sl, s'.heap.get? b = some { o with slots := sl }
  gens : s'.gens = s.gens
  os : s'.os = s.os

theorem Later.refl (M F : List Addr) (s : Shared) : Later M F s s := ⟨fun u₀ u₀ u₀ u₀ e => e, fun u₀ o u₀ u₀ e => ⟨o.slots, e⟩, rfl, rfl⟩

structure Glb where
  p : Program
  w : World
  h : Heap
  K : Frag
  mg : Str → Option Value
  mb : Str → Option Value
structure Cx where
  A : Around
  env : Env
  own : List Addr
  fs : List Env
  s0 : Shared
  M0 : List Addr
noncomputable abbrev Cx.F (C : Cx) : List Addr := C.fs.filterMap (·.frame)
noncomputable abbrev MM (C : Cx) (mh : MH) : List Addr := C.own ++ addrs mh
noncomputable abbrev Loc := List (Str × D)
noncomputable abbrev Tmp := List (Value × D)
noncomputable abbrev Mo (G : Glb) : Model := model G.p G.w

structure Glb.Ok (G : Glb) : Prop where
  g : G.h.Ns mainGlobals G.mg
  b : G.h.Ns builtinsNs G.mb
  nolimit : G.h.NoLimit
  kin : G.K.In G.h
  boot : ∀ x : Str, x ≠ "__name__" → G.mb x = bootBuiltins x

structure Cx.Ok (G : Glb) (C : Cx) : Prop where
  kind : C.env.scope.kind = .function
  gl : C.env.globals = mainGlobals
  bi : C.env.builtins = builtinsNs
  base : ∀ b o, G.h.get? b = some o → C.s0.heap.get? b = some o
  new : ∀ a ∈ C.M0, G.h.get? a = none
  fnew : ∀ a ∈ C.F, G.h.get? a = none
  mine : C.env.locals ∈ C.own
  fM : ∀ a ∈ C.F, a ∉ C.M0
  cloc : ∀ y c, C.env.cells.lookup y = some c → c ≠ C.env.locals
  cinj : ∀ x y c, C.env.cells.lookup x = some c → C.env.cells.lookup y = some c → x = y
  fobj : ∀ e ∈ C.fs, e.scope.kind ≠ .module ∧ ∃ L, e.frame = some L ∧ (L = C.env.locals ∨ ∃ o, C.s0.heap.get? L = some o ∧ ∀ vs, o.data ≠ .fields vs)

noncomputable def VarAt (C : Cx) (h : Heap) (m : Str → Option Value) (x : Str) (v : Value) : Prop := match C.env.kindOf x with
  | some .local => m x = some v
  | some .cell => ∃ c, C.env.cells.lookup x = some c ∧ h.IsCell c (some v)
  | some .free => ∃ c, C.env.cells.lookup x = some c ∧ h.IsCell c (some v)
  | _ => False

structure Rep (G : Glb) (C : Cx) (loc : Loc) (tmp : Tmp) (mh : MH) (s : Shared) : Prop where
  ok : C.Ok G
  ns : ∃ m, s.heap.Ns C.env.locals m ∧ ∀ x d, loc.lookup x = some d → ∃ v, VarAt C s.heap m x v ∧ VD s.heap (MM C mh) v d
  cells : ∀ x c, C.env.cells.lookup x = some c → c ∉ addrs mh ∧ ∃ v, s.heap.IsCell c v
  tmp : ∀ p ∈ tmp, VD s.heap (MM C mh) p.1 p.2
  obs : ∀ p ∈ mh, OD s.heap (MM C mh) p.1 p.2
  there : ∀ a ∈ C.own, ∃ o, s.heap.get? a = some o ∧ ∀ vs n, o.data ≠ .seq vs n
  nd : (MM C mh).Nodup
  sub : ∀ a ∈ MM C mh, a ∈ C.M0 ∨ C.s0.heap.get? a = none
  lat : Later C.M0 C.F C.s0 s

variable {G : Glb} {C : Cx} {loc : Loc} {tmp : Tmp} {mh : MH} {s s' : Shared}

theorem size_none {h : Heap} {a : Addr} (e : h.objs.size ≤ a) : h.get? a = none := Heap.get?_none_of_le e
theorem lt_of_get {h : Heap} {a : Addr} {o : Obj} (e : h.get? a = some o) : a < h.objs.size := Heap.lt_size e

theorem Rep.new (R : Rep G C loc tmp mh s) {a : Addr} (ha : a ∈ MM C mh) : G.h.get? a = none := by
  rcases R.sub a ha with q | q
  · exact R.ok.new a q
  · cases e : G.h.get? a with
    | none => rfl
    | some o => rw [R.ok.base a o e] at q; cases q
theorem Rep.base (R : Rep G C loc tmp mh s) : ∀ b o, G.h.get? b = some o → s.heap.get? b = some o := fun b o e =>
  R.lat.keep b o (fun q => by rw [R.ok.new b q] at e; cases e) (fun q => by rw [R.ok.fnew b q] at e; cases e) (R.ok.base b o e)
theorem Rep.obj (R : Rep G C loc tmp mh s) {a : Addr} (ha : a ∈ addrs mh) : ∃ o, s.heap.get? a = some o := by
  obtain ⟨p, hp, hq⟩ := List.mem_flatMap.mp ha
  exact (R.obs p hp).there a hq
theorem Rep.fresh (R : Rep G C loc tmp mh s) {a : Addr} (e : s.heap.get? a = none) : a ∈ C.M0 ∨ C.s0.heap.get? a = none := by
  by_cases q : a ∈ C.M0
  · exact .inl q
  · cases h : C.s0.heap.get? a with
    | none => exact .inr rfl
    | some o =>
      by_cases f : a ∈ C.F
      · obtain ⟨sl, z⟩ := R.lat.slot a o q f h; rw [z] at e; cases e
      · rw [R.lat.keep a o q f h] at e; cases e
theorem Rep.not_none (R : Rep G C loc tmp mh s) {a : Addr} (ha : a ∈ addrs mh) (e : s.heap.get? a = none) : False := by
  obtain ⟨o, h⟩ := R.obj ha; rw [h] at e; cases e
theorem Rep.lt (R : Rep G C loc tmp mh s) {a : Addr} (ha : a ∈ addrs mh) : a < s.heap.objs.size := let ⟨_, e⟩ := R.obj ha; lt_of_get e

theorem VarAt.mono {h h' : Heap} {m : Str → Option Value} {x : Str} {v : Value} (k : ∀ c, C.env.cells.lookup x = some c → ∀ o, h.get? c = some o → h'.get? c = some o) (e : VarAt C h m x v) : VarAt C h' m x v := by
  unfold VarAt at e ⊢
  split at e
  · exact e
  · obtain ⟨c, q, o, ho, r⟩ := e; exact ⟨c, q, o, k c q o ho, r⟩
  · obtain ⟨c, q, o, ho, r⟩ := e; exact ⟨c, q, o, k c q o ho, r⟩
  · exact e

theorem Rep.step (R : Rep G C loc tmp mh s) {S : List Addr} {mh' : MH} (hS : ∀ a ∈ S, a ∈ addrs mh)
    (hk : ∀ b o, b ∉ S → s.heap.get? b = some o → s'.heap.get? b = some o) (hg : s'.gens = s.gens) (ho : s'.os = s.os)
    (hmh : ∀ p ∈ mh', OD s'.heap (MM C mh') p.1 p.2) (hsub : ∀ a ∈ addrs mh', a ∈ addrs mh ∨ s.heap.get? a = none) (hnd : (addrs mh').Nodup) : Rep G C loc tmp mh' s' := by
  have nd := List.nodup_append.mp R.nd
  have ownS : ∀ a ∈ C.own, a ∉ S := fun a ha q => nd.2.2 a ha a (hS a q) rfl
  have mono : Mono s.heap s'.heap (MM C mh) (MM C mh') := by
    refine .of (fun b o n e => hk b o (fun q => n (List.mem_append_right _ (hS b q))) e) fun b hb => ?_
    rcases List.mem_append.mp hb with q | q
    · exact .inl (List.mem_append_left _ q)
    · rcases hsub b q with z | z
      · exact .inl (List.mem_append_right _ z)
      · exact .inr z
  obtain ⟨m, hm, hl⟩ := R.ns
  have hL : C.env.locals ∉ S := ownS _ R.ok.mine
  refine ⟨R.ok, ⟨m, ?_, fun x d e => ?_⟩, fun x c e => ?_, fun p hp => (R.tmp p hp).mono mono, hmh, fun a ha => ?_, ?_, fun a ha => ?_, ?_⟩
  · refine absP fun P₀ hP₀ => ?_
    obtain ⟨o, es, ep, e, r⟩ := hm
    refine hP₀ ?_; clear hP₀ P₀
    exact ⟨o, es, ep, hk _ _ hL e, r⟩
  · obtain ⟨v, hv, hd⟩ := hl x d e
    exact ⟨v, hv.mono fun c q o e => hk c o (fun z => (R.cells x c q).1 (hS c z)) e, hd.mono mono⟩
  · refine absP fun P₀ hP₀ => ?_
    obtain ⟨n, v, o, e', r⟩ := R.cells x c e
    refine hP₀ ?_; clear hP₀ P₀
    refine ⟨fun q => ?_, v, o, hk c o (fun z => n (hS c z)) e', r⟩
    rcases hsub c q with z | z
    · exact n z
    · rw [z] at e'; cases e'
  · obtain ⟨o, e, r⟩ := R.there a ha
    exact ⟨o, hk a o (ownS a ha) e, r⟩
  · refine List.nodup_append.mpr ⟨nd.1, hnd, fun a ha b hb q => ?_⟩
    subst q
    rcases hsub a hb with z | z
    · exact nd.2.2 a ha a z rfl
    · obtain ⟨o, e, _⟩ := R.there a ha
      rw [z] at e; cases e
  · rcases List.mem_append.mp ha with q | q
    · exact R.sub a (List.mem_append_left _ q)
    · rcases hsub a q with z | z
      · exact R.sub a (List.mem_append_right _ z)
      · exact R.fresh z
  · refine ⟨fun b o n f e => ?_, fun b o n f e => ?_, hg.trans R.lat.gens, ho.trans R.lat.os⟩
    · refine hk b o (fun q => ?_) (R.lat.keep b o n f e)
      rcases R.sub b (List.mem_append_right _ (hS b q)) with z | z
      · exact n z
      · rw [z] at e; cases e
    · obtain ⟨sl, e'⟩ := R.lat.slot b o n f e
      refine ⟨sl, hk b _ (fun q => ?_) e'⟩
      rcases R.sub b (List.mem_append_right _ (hS b q)) with z | z
      · exact n z
      · rw [z] at e; cases e

theorem Rep.grow (R : Rep G C loc tmp mh s) (hk : ∀ b o, s.heap.get? b = some o → s'.heap.get? b = some o) (hg : s'.gens = s.gens) (ho : s'.os = s.os) :
    Rep G C loc tmp mh s' :=
  R.step (S := []) (fun u₀ h => nomatch h) (fun b o u₀ e => hk b o e) hg ho (fun p hp => (R.obs p hp).mono (.of (fun b o u₀ e => hk b o e) fun u₀ h => .inl h) fun b u₀ o e => hk b o e) (fun u₀ h => .inl h) (List.nodup_append.mp R.nd).2.1
theorem Rep.toks (R : Rep G C loc tmp mh s) (k : Nat) : Rep G C loc tmp mh { s with toks := k } := R.grow (fun u₀ u₀ e => e) rfl rfl
theorem Rep.alloc (R : Rep G C loc tmp mh s) (o : Obj) (k : Nat) : Rep G C loc tmp mh { s with heap := s.heap.push o, toks := k } :=
  R.grow (fun u₀ u₀ e => Heap.get?_push_of_some _ e) rfl rfl

theorem Rep.add (R : Rep G C loc tmp mh s) {a : Addr} {o : AO} (hk : ∀ b o, s.heap.get? b = some o → s'.heap.get? b = some o) (hg : s'.gens = s.gens) (ho : s'.os = s.os)
    (hf : ∀ b ∈ foot (a, o), s.heap.get? b = none) (hnd : (foot (a, o)).Nodup) (hO : OD s'.heap (MM C ((a, o) :: mh)) a o) : Rep G C loc tmp ((a, o) :: mh) s' := by
  have sub : ∀ b ∈ addrs ((a, o) :: mh), b ∈ addrs mh ∨ s.heap.get? b = none := fun b hb => by
    rw [addrs_cons] at hb
    rcases List.mem_append.mp hb with q | q
    · exact .inr (hf b q)
    · exact .inl q
  refine R.step (S := []) (fun u₀ h => nomatch h) (fun b o u₀ e => hk b o e) hg ho (fun p hp => ?_) sub ?_
  · rcases List.mem_cons.mp hp with rfl | hp
    · exact hO
    · exact (R.obs p hp).mono (.of (fun b o u₀ e => hk b o e) fun b h => (List.mem_append.mp h).elim (fun q => .inl (List.mem_append_left _ q)) fun q => (sub b q).imp (List.mem_append_right _) id) fun b u₀ o e => hk b o e
  · rw [addrs_cons]
    exact List.nodup_append.mpr ⟨hnd, (List.nodup_append.mp R.nd).2.1, fun b hb c hc q => by subst q; exact R.not_none hc (hf b hb)⟩

inductive Upd (a : Addr) (o o' : AO) : MH → MH → Prop
  | head {r : MH} : Upd a o o' ((a, o) :: r) ((a, o') :: r)
  | tail {p : Addr × AO} {r r' : MH} : Upd a o o' r r' → Upd a o o' (p :: r) (p :: r')
theorem Upd.split {a : Addr} {o o' : AO} : ∀ {l l' : MH}, Upd a o o' l l' → ∃ x y, l = x ++ (a, o) :: y ∧ l' = x ++ (a, o') :: y
  | _, _, .head => ⟨[], _, rfl, rfl⟩
  | _, _, .tail (p := p) h => let ⟨x, y, e, e'⟩ := h.split; ⟨p :: x, y, by rw [e]; rfl, by rw [e']; rfl⟩
theorem Upd.mem {a : Addr} {o o' : AO} {l l' : MH} (h : Upd a o o' l l') : (a, o) ∈ l := by
  obtain ⟨x, y, rfl, _⟩ := h.split; simp
theorem mem_addrs {p : Addr × AO} (hp : p ∈ mh) {b : Addr} (hb : b ∈ foot p) : b ∈ addrs mh := List.mem_flatMap.mpr ⟨p, hp, hb⟩

theorem Rep.set (R : Rep G C loc tmp mh s) {a : Addr} {o o' : AO} {mh' : MH} (U : Upd a o o' mh mh')
    (hk : ∀ b x, b ∉ foot (a, o) → s.heap.get? b = some x → s'.heap.get? b = some x) (hg : s'.gens = s.gens) (ho : s'.os = s.os)
    (hf : ∀ b ∈ foot (a, o'), b ∈ foot (a, o) ∨ s.heap.get? b = none) (hnd : (foot (a, o')).Nodup) (hO : OD s'.heap (MM C mh') a o') : Rep G C loc tmp mh' s' := by
  obtain ⟨x, y, rfl, rfl⟩ := U.split
  have N := (List.nodup_append.mp R.nd).2.1
  simp only [addrs_append, addrs_cons] at N
  obtain ⟨n1, n2, n3⟩ := List.nodup_append.mp N
  obtain ⟨m1, m2, m3⟩ := List.nodup_append.mp n2
  have sub : ∀ b ∈ addrs (x ++ (a, o') :: y), b ∈ addrs (x ++ (a, o) :: y) ∨ s.heap.get? b = none := fun b hb => by
    simp only [addrs_append, addrs_cons, List.mem_append] at hb ⊢
    rcases hb with q | q | q
    · exact .inl (.inl q)
    · exact (hf b q).imp (fun z => .inr (.inl z)) id
    · exact .inl (.inr (.inr q))
  have keepO : ∀ p ∈ x ++ y, ∀ b ∈ foot p, ∀ z, s.heap.get? b = some z → s'.heap.get? b = some z := fun p hp b hb z e => hk b z (fun q => by
    rcases List.mem_append.mp hp with hp | hp
    · exact n3 b (mem_addrs hp hb) b (List.mem_append_left _ q) rfl
    · exact m3 b q b (mem_addrs hp hb) rfl) e
  have mono : Mono s.heap s'.heap (MM C (x ++ (a, o) :: y)) (MM C (x ++ (a, o') :: y)) :=
    .of (fun b z n e => hk b z (fun q => n (List.mem_append_right _ (by simp only [addrs_append, addrs_cons, List.mem_append]; exact .inr (.inl q)))) e) fun b h => (List.mem_append.mp h).elim (fun q => .inl (List.mem_append_left _ q)) fun q => (sub b q).imp (List.mem_append_right _) id
  refine R.step (S := foot (a, o)) (fun b hb => by simp only [addrs_append, addrs_cons, List.mem_append]; exact .inr (.inl hb)) hk hg ho (fun p hp => ?_) sub ?_
  · rcases List.mem_append.mp hp with q | q
    · exact (R.obs p (List.mem_append_left _ q)).mono mono (keepO p (List.mem_append_left _ q))
    · rcases List.mem_cons.mp q with rfl | q
      · exact hO
      · exact (R.obs p (List.mem_append_right _ (.tail _ q))).mono mono (keepO p (List.mem_append_right _ q))
  · simp only [addrs_append, addrs_cons]
    have lt1 : ∀ b ∈ addrs x, s.heap.get? b = none → False := fun b hb => R.not_none (by simp only [addrs_append, List.mem_append]; exact .inl hb)
    have lt2 : ∀ b ∈ addrs y, s.heap.get? b = none → False := fun b hb => R.not_none (by simp only [addrs_append, addrs_cons, List.mem_append]; exact .inr (.inr hb))
    refine List.nodup_append.mpr ⟨n1, List.nodup_append.mpr ⟨hnd, m2, fun b hb c hc q => ?_⟩, fun b hb c hc q => ?_⟩
    · subst q
      rcases hf b hb with z | z
      · exact m3 b z b hc rfl
      · exact lt2 b hc z
    · subst q
      rcases List.mem_append.mp hc with hc | hc
      · rcases hf b hc with z | z
        · exact n3 b hb b (List.mem_append_left _ z) rfl
        · exact lt1 b hb z
      · exact n3 b hb b (List.mem_append_right _ hc) rfl

theorem Rep.perm (R : Rep G C loc tmp mh s) {mh' : MH} (P : mh.Perm mh') : Rep G C loc tmp mh' s := by
  have Q : (addrs mh).Perm (addrs mh') := P.flatMap_right foot
  exact R.step (S := []) (fun u₀ h => nomatch h) (fun u₀ u₀ u₀ e => e) rfl rfl
    (fun p hp => (R.obs p (P.mem_iff.mpr hp)).mono (.of (fun u₀ u₀ u₀ e => e) fun b h => .inl ((List.mem_append.mp h).elim (fun q => List.mem_append_left _ q) fun q => List.mem_append_right _ (Q.mem_iff.mpr q))) fun u₀ u₀ u₀ e => e)
    (fun a h => .inl (Q.mem_iff.mpr h)) (Q.nodup_iff.mp (List.nodup_append.mp R.nd).2.1)
theorem Rep.drop (R : Rep G C loc tmp (p :: mh) s) : Rep G C loc tmp mh s := by
  have N := (List.nodup_append.mp R.nd).2.1
  rw [addrs_cons] at N
  exact R.step (S := []) (fun u₀ h => nomatch h) (fun u₀ u₀ u₀ e => e) rfl rfl
    (fun q hq => (R.obs q (.tail _ hq)).mono (.of (fun u₀ u₀ u₀ e => e) fun b h => .inl ((List.mem_append.mp h).elim (fun q => List.mem_append_left _ q) fun q => List.mem_append_right _ (by rw [addrs_cons]; exact List.mem_append_right _ q))) fun u₀ u₀ u₀ e => e)
    (fun a h => .inl (by rw [addrs_cons]; exact List.mem_append_right _ h)) (List.nodup_append.mp N).2.1
theorem Rep.push (R : Rep G C loc tmp mh s) {v : Value} {d : D} (x : VD s.heap (MM C mh) v d) : Rep G C loc ((v, d) :: tmp) mh s :=
  { R with tmp := fun p hp => by rcases List.mem_cons.mp hp with rfl | hp; exact x; exact R.tmp p hp }
theorem Rep.sub_tmp (R : Rep G C loc tmp mh s) {tmp' : Tmp} (h : ∀ p ∈ tmp', p ∈ tmp) : Rep G C loc tmp' mh s := { R with tmp := fun p hp => R.tmp p (h p hp) }
theorem Rep.pop {p : Value × D} (R : Rep G C loc (p :: tmp) mh s) : Rep G C loc tmp mh s := R.sub_tmp fun u₀ h => .tail _ h
theorem Rep.top {p : Value × D} (R : Rep G C loc (p :: tmp) mh s) : VD s.heap (MM C mh) p.1 p.2 := R.tmp p (.head _)
theorem Rep.weak (R : Rep G C loc tmp mh s) {loc' : Loc} (h : ∀ x d, loc'.lookup x = some d → loc.lookup x = some d) : Rep G C loc' tmp mh s :=
  { R with ns := let ⟨m, a, b⟩ := R.ns; ⟨m, a, fun x d e => b x d (h x d e)⟩ }

end

section
set_option tactic.hygienic false
open PySem PySem.W PyProof.Rows
variable {G : Glb} {C : Cx} {loc : Loc} {tmp : Tmp} {mh hid : MH} {s s' : Shared}

inductive EErr (G : Glb) (C : Cx) (hid : MH) (X : Addr → Loc → MH → Prop) (v : Value) (s' : Shared) : Prop
  | mk (e c : Addr) (T : Option Addr) (loc' : Loc) (mh' : MH) (ev : v = .ref e) (R : Rep G C loc' [] (((e, .exc c T) :: mh') ++ hid) s') (x : X c loc' mh')
inductive EVq (G : Glb) (C : Cx) (loc : Loc) (tmp : Tmp) (hid : MH) (Q : D → MH → Prop) (v : Value) (s' : Shared) : Prop
  | mk (d : D) (mh' : MH) (R : Rep G C loc ((v, d) :: tmp) (mh' ++ hid) s') (q : Q d mh')
inductive TTq (G : Glb) (C : Cx) (loc : Loc) (tmp : Tmp) (hid : MH) (Q : Bool → MH → Prop) (b : Bool) (s' : Shared) : Prop
  | mk (mh' : MH) (R : Rep G C loc tmp (mh' ++ hid) s') (q : Q b mh')
inductive EVsq (G : Glb) (C : Cx) (loc : Loc) (tmp : Tmp) (hid : MH) (Q : List D → MH → Prop) (vs : List Value) (s' : Shared) : Prop
  | mk (ds : List D) (mh' : MH) (R : Rep G C loc tmp (mh' ++ hid) s') (V : VDs s'.heap (MM C (mh' ++ hid)) vs ds) (q : Q ds mh')
inductive OPq (G : Glb) (C : Cx) (loc : Loc) (tmp : Tmp) (mh : MH) (P : D → Prop) (v : Value) (s' : Shared) : Prop
  | mk (d : D) (R : Rep G C loc ((v, d) :: tmp) mh s') (q : P d)
inductive CMPq (G : Glb) (C : Cx) (loc : Loc) (tmp : Tmp) (mh : MH) (P : Bool → Prop) (v : Value) (s' : Shared) : Prop
  | mk (b : Bool) (e : v = .bool b) (R : Rep G C loc tmp mh s') (q : P b)
noncomputable abbrev NoX : Addr → Loc → MH → Prop := fun u₀ u₀ u₀ => False

noncomputable def EV (G : Glb) (C : Cx) (loc : Loc) (mh : MH) (e : Expr) (X : Addr → Loc → MH → Prop) (Q : D → MH → Prop) : Prop :=
  ∀ tmp hid s, Rep G C loc tmp (mh ++ hid) s → wpAny (Mo G) C.A (eval e C.env) (EVq G C loc tmp hid Q) (EErr G C hid X) s
noncomputable def TT (G : Glb) (C : Cx) (loc : Loc) (mh : MH) (e : Expr) (X : Addr → Loc → MH → Prop) (Q : Bool → MH → Prop) : Prop :=
  ∀ tmp hid s, Rep G C loc tmp (mh ++ hid) s → wpAny (Mo G) C.A (isTrue e C.env (eval e C.env)) (TTq G C loc tmp hid Q) (EErr G C hid X) s
noncomputable def EVs (G : Glb) (C : Cx) (loc : Loc) (mh : MH) (es : List Expr) (X : Addr → Loc → MH → Prop) (Q : List D → MH → Prop) : Prop :=
  ∀ tmp hid s pos, Rep G C loc tmp (mh ++ hid) s → wpAny (Mo G) C.A (spliced (backTo pos (starEach es C.env))) (EVsq G C loc tmp hid Q) (EErr G C hid X) s

inductive NXq (G : Glb) (C : Cx) (tmp : Tmp) (hid : MH) (N : Loc → MH → Prop) (s' : Shared) : Prop
  | mk (loc' : Loc) (mh' : MH) (R : Rep G C loc' tmp (mh' ++ hid) s') (q : N loc' mh')
inductive RTq (G : Glb) (C : Cx) (tmp : Tmp) (hid : MH) (Rt : D → MH → Prop) (v : Value) (s' : Shared) : Prop
  | mk (d : D) (loc' : Loc) (mh' : MH) (R : Rep G C loc' ((v, d) :: tmp) (mh' ++ hid) s') (q : Rt d mh')
noncomputable def FPost (G : Glb) (C : Cx) (tmp : Tmp) (hid : MH) (N : Loc → MH → Prop) (Rt : D → MH → Prop) (f : Flow) (s' : Shared) : Prop := match f with
  | .next => NXq G C tmp hid N s'
  | .ret v => RTq G C tmp hid Rt v s'
  | _ => False
noncomputable def SX (G : Glb) (C : Cx) (loc : Loc) (mh : MH) (st : Stmt) (X : Addr → Loc → MH → Prop) (Rt : D → MH → Prop) (N : Loc → MH → Prop) : Prop :=
  ∀ tmp hid s, Rep G C loc tmp (mh ++ hid) s → wpAny (Mo G) C.A (exec st C.env) (FPost G C tmp hid N Rt) (EErr G C hid X) s
noncomputable def EX (G : Glb) (C : Cx) (loc : Loc) (mh : MH) (ss : List Stmt) (X : Addr → Loc → MH → Prop) (Rt : D → MH → Prop) (N : Loc → MH → Prop) : Prop :=
  ∀ tmp hid s, Rep G C loc tmp (mh ++ hid) s → wpAny (Mo G) C.A (execs ss C.env) (FPost G C tmp hid N Rt) (EErr G C hid X) s

variable {X : Addr → Loc → MH → Prop} {Q : D → MH → Prop} {Rt : D → MH → Prop} {N : Loc → MH → Prop}

section sGo
variable {α : Type}
theorem EV.go {e : Expr} {P : Value → Shared → Prop} (h : EV G C loc mh e X Q) (R : Rep G C loc tmp (mh ++ hid) s) (k : ∀ v s' d m, Rep G C loc ((v, d) :: tmp) (m ++ hid) s' → Q d m → P v s') :
    wpAny (Mo G) C.A (eval e C.env) P (EErr G C hid X) s := wpAny_mono (h tmp hid s R) (fun v s' q => by cases q with | mk d m a b => exact k v s' d m a b) fun u₀ u₀ x => x
theorem TT.go {e : Expr} {Q : Bool → MH → Prop} {P : Bool → Shared → Prop} (h : TT G C loc mh e X Q) (R : Rep G C loc tmp (mh ++ hid) s) (k : ∀ v s' m, Rep G C loc tmp (m ++ hid) s' → Q v m → P v s') :
    wpAny (Mo G) C.A (isTrue e C.env (eval e C.env)) P (EErr G C hid X) s := wpAny_mono (h tmp hid s R) (fun v s' q => by cases q with | mk m a b => exact k v s' m a b) fun u₀ u₀ x => x
theorem EVs.go {es : List Expr} {Q : List D → MH → Prop} {P : List Value → Shared → Prop} {pos : Pos} (h : EVs G C loc mh es X Q) (R : Rep G C loc tmp (mh ++ hid) s)
    (k : ∀ vs s' ds m, Rep G C loc tmp (m ++ hid) s' → VDs s'.heap (MM C (m ++ hid)) vs ds → Q ds m → P vs s') :
    wpAny (Mo G) C.A (spliced (backTo pos (starEach es C.env))) P (EErr G C hid X) s := wpAny_mono (h tmp hid s pos R) (fun v s' q => by cases q with | mk ds m a V b => exact k v s' ds m a V b) fun u₀ u₀ x => x
end sGo
theorem EErr.mono {X' : Addr → Loc → MH → Prop} (h : ∀ c l m, X c l m → X' c l m) {v : Value} {s : Shared} (x : EErr G C hid X v s) : EErr G C hid X' v s :=
  let ⟨e, c, T, l, m, a, b, z⟩ := x; ⟨e, c, T, l, m, a, b, h _ _ _ z⟩
theorem EV.mono {e : Expr} {Q' : D → MH → Prop} {X' : Addr → Loc → MH → Prop} (h : EV G C loc mh e X Q) (hq : ∀ d m, Q d m → Q' d m) (hx : ∀ c l m, X c l m → X' c l m) : EV G C loc mh e X' Q' :=
  fun tmp hid s R => wpAny_mono (h tmp hid s R) (fun u₀ u₀ hq1 => by obtain ⟨d, m, a, b⟩ := hq1; exact ⟨d, m, a, hq _ _ b⟩) fun u₀ u₀ x => x.mono hx
theorem EX.weak {ss : List Stmt} {loc' : Loc} (h : EX G C loc' mh ss X Rt N) (hl : ∀ x d, loc'.lookup x = some d → loc.lookup x = some d) : EX G C loc mh ss X Rt N :=
  fun tmp hid s R => h tmp hid s (R.weak hl)
theorem EV_int {i : Int} {k : Nat} {pos : Pos} (h : Q (.int i) mh) : EV G C loc mh (.Constant (.int i) k pos) X Q := fun tmp hid s R =>
  wpAny_Constant_int ⟨_, _, (R.toks _).push (.dat (.int _ _)), h⟩
theorem EV_str {x : Str} {k : Nat} {pos : Pos} (h : Q (.str x) mh) : EV G C loc mh (.Constant (.str x) k pos) X Q := fun tmp hid s R =>
  wpAny_Constant_str ⟨_, _, (R.toks _).push (.dat (.str _ _)), h⟩
theorem EV_bool {b : Bool} {k : Nat} {pos : Pos} (h : Q (.bool b) mh) : EV G C loc mh (.Constant (.bool b) k pos) X Q := fun tmp hid s R =>
  wpAny_Constant_bool ⟨_, _, R.push (.dat (.bool _)), h⟩
theorem EV_none {k : Nat} {pos : Pos} (h : Q .none mh) : EV G C loc mh (.Constant .none k pos) X Q := fun tmp hid s R =>
  wpAny_Constant_none ⟨_, _, R.push (.dat .none), h⟩
theorem EV_bytes {l : List UInt8} {k : Nat} {pos : Pos} (h : Q (.bytes l) mh) : EV G C loc mh (.Constant (.bytes l) k pos) X Q := fun tmp hid s R => by
  show wpAny _ _ (mkTextBytes l.toArray) _ _ _
  exact fun u₀ u₀ u₀ => ⟨_, _, (R.toks _).push (.bytes l _), h⟩

noncomputable def isVar (k : Option NameKind) : Bool := match k with | some .local => true | some .cell => true | some .free => true | _ => false
theorem Name_eq {env : Env} {x : Str} {pos : Pos} (hd : (x == ("__debug__" : Str)) = false) {M : Model} {A : Around} {Q : Value → Shared → Prop} {E : Value → Shared → Prop} {s : Shared} (h : wpAny M A (loadName env x) Q E s) :
    wpAny M A (eval (.Name x pos) env) Q E s := wpAny_Name h hd
theorem EV_var {x : Str} {pos : Pos} {d : D} (hv : loc.lookup x = some d) (h : Q d mh) (hd : (x == ("__debug__" : Str)) = false := by decide) (hc : (x == ("__classdict__" : Str)) = false := by decide) : EV G C loc mh (.Name x pos) X Q := fun tmp hid s R => by
  obtain ⟨m, hm, hl⟩ := R.ns
  obtain ⟨v, e, q⟩ := hl x d hv
  refine Name_eq hd ?_
  unfold VarAt at e
  cases hk : C.env.kindOf x with
  | none => rw [hk] at e; exact e.elim
  | some k =>
    rw [hk] at e
    cases k with
    | «local» => exact wpAny_loadName_local R.ok.kind hk hm e ⟨d, mh, R.push q, h⟩
    | cell => obtain ⟨c, e1, e2⟩ := e; exact wpAny_loadName_cell R.ok.kind hk e1 e2 ⟨d, mh, R.push q, h⟩
    | free => obtain ⟨c, e1, e2⟩ := e; exact wpAny_loadName_free R.ok.kind hk e1 e2 ⟨d, mh, R.push q, h⟩ hc
    | _ => exact e.elim
theorem glob_at {x : Str} {pos : Pos} {v : Value} {P E : Value → Shared → Prop} (GO : G.Ok) (hk : C.env.kindOf x = some .globalImplicit) (hg : G.mg x = some v) (hd : (x == ("__debug__" : Str)) = false) (R : Rep G C loc tmp mh s) (k : P v s) :
    wpAny (Mo G) C.A (eval (.Name x pos) C.env) P E s :=
  Calls.Name_function_global R.ok.kind hk (Calls.loadGlobal_global (by rw [R.ok.gl]; exact GO.g.keeps R.base) hg k) hd
theorem builtin_at {x : Str} {pos : Pos} {v : Value} {P E : Value → Shared → Prop} (GO : G.Ok) (hk : C.env.kindOf x = some .globalImplicit) (hg : G.mg x = none) (hb : bootBuiltins x = some v) (hn : x ≠ "__name__") (hd : (x == ("__debug__" : Str)) = false) (R : Rep G C loc tmp mh s) (k : P v s) :
    wpAny (Mo G) C.A (eval (.Name x pos) C.env) P E s :=
  Calls.Name_function_global R.ok.kind hk (Calls.loadGlobal_builtin (by rw [R.ok.gl]; exact GO.g.keeps R.base) hg (by rw [R.ok.bi]; exact GO.b.keeps R.base) ((GO.boot x hn).trans hb) k) hd
theorem EV_glob {x : Str} {pos : Pos} {v : Value} {d : D} (GO : G.Ok) (hk : C.env.kindOf x = some .globalImplicit) (hg : G.mg x = some v) (hv : ∀ h M, VD h M v d) (h : Q d mh) (hd : (x == ("__debug__" : Str)) = false := by decide) :
    EV G C loc mh (.Name x pos) X Q := fun tmp hid s R => glob_at GO hk hg hd R ⟨d, mh, R.push (hv _ _), h⟩
theorem EV_builtin {x : Str} {pos : Pos} {v : Value} (GO : G.Ok) (hk : C.env.kindOf x = some .globalImplicit) (hg : G.mg x = none) (hb : bootBuiltins x = some v) (hn : x ≠ "__name__") (h : Q (.con v) mh) (hd : (x == ("__debug__" : Str)) = false := by decide) :
    EV G C loc mh (.Name x pos) X Q := fun tmp hid s R => builtin_at GO hk hg hb hn hd R ⟨_, mh, R.push (.con v), h⟩

noncomputable def OP (G : Glb) (C : Cx) (op : Operator) (d1 d2 : D) (mh : MH) (P : D → Prop) : Prop :=
  ∀ loc tmp hid s v1 v2 X, Rep G C loc tmp (mh ++ hid) s → VD s.heap (MM C (mh ++ hid)) v1 d1 → VD s.heap (MM C (mh ++ hid)) v2 d2 →
    wpAny (Mo G) C.A (binaryOp op v1 v2) (OPq G C loc tmp (mh ++ hid) P) (EErr G C hid X) s
noncomputable def CMP (G : Glb) (C : Cx) (op : CmpOp) (d1 d2 : D) (mh : MH) (P : Bool → Prop) : Prop :=
  ∀ loc tmp hid s v1 v2 X, Rep G C loc tmp (mh ++ hid) s → VD s.heap (MM C (mh ++ hid)) v1 d1 → VD s.heap (MM C (mh ++ hid)) v2 d2 →
    wpAny (Mo G) C.A (compareOp op v1 v2) (CMPq G C loc tmp (mh ++ hid) P) (EErr G C hid X) s

theorem OP.go {op : Operator} {d1 d2 : D} {P : D → Prop} {v1 v2 : Value} {Pq : Value → Shared → Prop} (h : OP G C op d1 d2 mh P) (R : Rep G C loc tmp (mh ++ hid) s) (x : VD s.heap (MM C (mh ++ hid)) v1 d1) (y : VD s.heap (MM C (mh ++ hid)) v2 d2)
    (k : ∀ v s' d, Rep G C loc ((v, d) :: tmp) (mh ++ hid) s' → P d → Pq v s') : wpAny (Mo G) C.A (binaryOp op v1 v2) Pq (EErr G C hid X) s :=
  wpAny_mono (h loc tmp hid s v1 v2 X R x y) (fun v s' q => by cases q with | mk d a b => exact k v s' d a b) fun u₀ u₀ x => x
theorem CMP.go {op : CmpOp} {d1 d2 : D} {P : Bool → Prop} {v1 v2 : Value} {Pq : Value → Shared → Prop} (h : CMP G C op d1 d2 mh P) (R : Rep G C loc tmp (mh ++ hid) s) (x : VD s.heap (MM C (mh ++ hid)) v1 d1) (y : VD s.heap (MM C (mh ++ hid)) v2 d2)
    (k : ∀ v s' b, v = .bool b → Rep G C loc tmp (mh ++ hid) s' → P b → Pq v s') : wpAny (Mo G) C.A (compareOp op v1 v2) Pq (EErr G C hid X) s :=
  wpAny_mono (h loc tmp hid s v1 v2 X R x y) (fun v s' q => by cases q with | mk b e a z => exact k v s' b e a z) fun u₀ u₀ x => x

theorem EV_bin {l r : Expr} {op : Operator} {pos : Pos} (h : EV G C loc mh l X fun d1 m1 => EV G C loc m1 r X fun d2 m2 => OP G C op d1 d2 m2 fun d => Q d m2) : EV G C loc mh (.BinOp l op r pos) X Q := fun tmp hid s R =>
  wpAny_BinOp (h.go R (fun v1 s1 d1 m1 R1 h1 => h1.go R1 (fun v2 s2 d2 m2 R2 h2 =>
    h2.go R2.pop.pop (R2.tmp _ (.tail _ (.head _))) R2.top (fun v s3 d R3 q => ⟨d, m2, R3, q⟩))))
theorem EV_cmp {l r : Expr} {op : CmpOp} {pos : Pos} (h : EV G C loc mh l X fun d1 m1 => EV G C loc m1 r X fun d2 m2 => CMP G C op d1 d2 m2 fun b => Q (.bool b) m2) (hm : behindInMarks op r = false := by with_unfolding_all rfl) :
    EV G C loc mh (.Compare l [op] [r] pos) X Q := fun tmp hid s R =>
  wpAny_Compare1 (h.go R (fun v1 s1 d1 m1 R1 h1 => h1.go R1 (fun v2 s2 d2 m2 R2 h2 =>
    h2.go R2.pop.pop (R2.tmp _ (.tail _ (.head _))) R2.top (fun v s3 b e R3 q => ⟨_, m2, R3.push (e ▸ .dat (.bool b)), q⟩)))) hm
theorem TT_cmp {l r : Expr} {op : CmpOp} {pos : Pos} {Q : Bool → MH → Prop} (h : EV G C loc mh l X fun d1 m1 => EV G C loc m1 r X fun d2 m2 => CMP G C op d1 d2 m2 fun b => Q b m2) (hm : behindInMarks op r = false := by with_unfolding_all rfl) :
    TT G C loc mh (.Compare l [op] [r] pos) X Q := fun tmp hid s R =>
  wpAny_isTrue_Compare1 (h.go R (fun v1 s1 d1 m1 R1 h1 => h1.go R1 (fun v2 s2 d2 m2 R2 h2 =>
    h2.go R2.pop.pop (R2.tmp _ (.tail _ (.head _))) R2.top (fun v s3 b e R3 q => by subst e; exact wpAny_truthy_bool ⟨m2, R3, q⟩)))) hm
theorem TT_not {x : Expr} {pos : Pos} {Q : Bool → MH → Prop} (h : TT G C loc mh x X fun b m => Q (!b) m) : TT G C loc mh (.UnaryOp .Not x pos) X Q := fun tmp hid s R => wpAny_isTrue_Not (h.go R fun u₀ u₀ m a b => ⟨m, a, b⟩)
theorem TT_val {e : Expr} {Q : Bool → MH → Prop} (h : EV G C loc mh e X fun d m => ∃ b, d = .bool b ∧ Q b m) (he : ∀ env whole, isTrue e env whole = (do let v ← whole; standAt e.pos; holding [v] (truthy v)) := by intro _ _; rfl) : TT G C loc mh e X Q := fun tmp hid s R =>
  wpAny_isTrue_value (h.go R (fun v s1 d m R1 hq2 => by obtain ⟨b, e, q⟩ := hq2; subst e; have := R1.top.bool_inv; dsimp only at this; subst this; exact wpAny_truthy_bool ⟨m, R1.pop, q⟩)) (he _ _)
theorem EV_ifexp {t b o : Expr} {pos : Pos} (h : TT G C loc mh t X fun c m => (c = true → EV G C loc m b X Q) ∧ (c = false → EV G C loc m o X Q)) : EV G C loc mh (.IfExp t b o pos) X Q := fun tmp hid s R =>
  wpAny_IfExp (h.go R (fun c s1 m R1 hq3 => by
    obtain ⟨h1, h2⟩ := hq3
    cases c with
    | true => exact h1 rfl tmp hid s1 R1
    | false => exact h2 rfl tmp hid s1 R1))

section sInts
variable {a b : Int} {P : D → Prop}
theorem two_ints {h : Heap} {M : List Addr} {v1 v2 : Value} (x : VD h M v1 (.int a)) (y : VD h M v2 (.int b)) {p : Value → Value → Prop} (k : ∀ t u, p (.int a t) (.int b u)) : p v1 v2 := by
  obtain ⟨t, rfl⟩ := x.int_inv
  obtain ⟨u, rfl⟩ := y.int_inv
  exact k t u
theorem OP_add (h : P (.int (a + b))) : OP G C .Add (.int a) (.int b) mh P := fun loc tmp hid s v1 v2 X R x y => two_ints (p := fun v1 v2 => wpAny _ _ (binaryOp _ v1 v2) _ _ _) x y fun u₀ u₀ => PyProof.Rows.add_int ⟨_, (R.toks _).push (.dat (.int _ _)), h⟩
theorem OP_sub (h : P (.int (a - b))) : OP G C .Sub (.int a) (.int b) mh P := fun loc tmp hid s v1 v2 X R x y => two_ints (p := fun v1 v2 => wpAny _ _ (binaryOp _ v1 v2) _ _ _) x y fun u₀ u₀ => PyProof.Rows.sub_int ⟨_, (R.toks _).push (.dat (.int _ _)), h⟩
theorem OP_mul (hm : PySem.IntMulOk a b) (h : P (.int (a * b))) : OP G C .Mult (.int a) (.int b) mh P := fun loc tmp hid s v1 v2 X R x y => two_ints (p := fun v1 v2 => wpAny _ _ (binaryOp _ v1 v2) _ _ _) x y fun u₀ u₀ => PyProof.Rows.mul_int ⟨_, (R.toks _).push (.dat (.int _ _)), h⟩ hm
end sInts

end

section
set_option tactic.hygienic false
open PySem PySem.W PyProof.Rows
variable {G : Glb} {C : Cx} {loc : Loc} {tmp : Tmp} {mh hid : MH} {s s' : Shared}
variable {X : Addr → Loc → MH → Prop} {Q : D → MH → Prop} {Rt : D → MH → Prop} {N : Loc → MH → Prop}

noncomputable def Room (A : Around) (n : Nat) : Prop := A.depth + 10 * n ≤ 800 ∧ A.units + 100 * n ≤ 9000
structure Can (G : Glb) (C : Cx) (n : Nat) : Prop where
  room : Room C.A n
  hand : C.A.handled = none
  frames : C.A.frames = some C.fs

theorem nd_of {l : MH} (R : Rep G C loc tmp l s) : (addrs l).Nodup := (List.nodup_append.mp R.nd).2.1
theorem own_not (R : Rep G C loc tmp mh s) {a : Addr} (ha : a ∈ C.own) : a ∉ addrs mh := fun q => (List.nodup_append.mp R.nd).2.2 a ha a q rfl

theorem Rep.frame (R : Rep G C loc tmp mh s) {e : Env} (he : e ∈ C.fs) : e.scope.kind ≠ .module ∧ ∃ L o, e.frame = some L ∧ s.heap.get? L = some o ∧ (∀ vs, o.data ≠ .fields vs) ∧ L ∉ addrs mh := by
  refine absP fun P₀ hP₀ => ?_
  obtain ⟨hk, L, hf, h⟩ := R.ok.fobj e he
  refine hP₀ ?_; clear hP₀ P₀
  refine ⟨hk, L, ?_⟩
  rcases h with rfl | ⟨o, ho, hd⟩
  · refine absP fun P₀ hP₀ => ?_
    obtain ⟨m, ⟨o, es, ep, ho, hd, r⟩, _⟩ := R.ns
    refine hP₀ ?_; clear hP₀ P₀
    exact ⟨o, hf, ho, (fun vs q => by rw [hd] at q; cases q), own_not R R.ok.mine⟩
  · have hF : L ∈ C.F := List.mem_filterMap.mpr ⟨e, he, hf⟩
    have hM := R.ok.fM L hF
    obtain ⟨sl, e'⟩ := R.lat.slot L o hM hF ho
    refine ⟨_, hf, e', hd, fun q => ?_⟩
    rcases R.sub L (List.mem_append_right _ q) with z | z
    · exact hM z
    · rw [ho] at z; cases z
theorem Rep.funFrames (R : Rep G C loc tmp mh s) : ∀ {l : List Env}, (∀ e ∈ l, e ∈ C.fs) → s.heap.FunFrames {} l
  | [], _ => trivial
  | e :: r, h => by
    refine absP fun P₀ hP₀ => ?_
    obtain ⟨hk, L, o, hf, ho, hd, _⟩ := R.frame (h e (.head _))
    refine hP₀ ?_; clear hP₀ P₀
    exact ⟨hk, ⟨L, o, hf, rfl, ho, hd⟩, R.funFrames fun x hx => h x (.tail _ hx)⟩

theorem Rep.slots (R : Rep G C loc tmp mh s) {h' : Heap} (hs : Heap.SlotsOnly C.F s.heap h') : Rep G C loc tmp mh { s with heap := h' } := by
  have hF : ∀ a ∈ C.F, a ∉ addrs mh := fun a ha => by
    refine absP fun P₀ hP₀ => ?_
    obtain ⟨e, he, hf⟩ := List.mem_filterMap.mp ha
    obtain ⟨_, L, o, hf', _, _, n⟩ := R.frame he
    refine hP₀ ?_; clear hP₀ P₀
    rw [hf] at hf'; cases hf'; exact n
  have keep : ∀ a ∈ addrs mh, ∀ o, s.heap.get? a = some o → h'.get? a = some o := fun a ha o e => (hs.2.1 a fun q => hF a q ha).trans e
  have mono : Mono s.heap h' (MM C mh) (MM C mh) := ⟨fun b o u₀ e => hs.2.2 b o e, fun u₀ h => .inl h⟩
  refine absP fun P₀ hP₀ => ?_
  obtain ⟨m, ⟨o, es, ep, e, d, r⟩, hl⟩ := R.ns
  obtain ⟨sl, e'⟩ := hs.2.2 _ _ e
  refine hP₀ ?_; clear hP₀ P₀
  have cell : ∀ c v, s.heap.IsCell c v → h'.IsCell c v := fun c v hq1 => by obtain ⟨o, ho, hd⟩ := hq1; exact let ⟨sl, e⟩ := hs.2.2 c o ho; ⟨_, e, hd⟩
  refine ⟨R.ok, ⟨m, ⟨_, es, ep, e', d, r⟩, fun x d e => ?_⟩, fun x c e => ?_, fun p hp => (R.tmp p hp).mono mono, fun p hp => (R.obs p hp).mono mono fun b hb o e => keep b (mem_addrs hp hb) o e, fun a ha => ?_, R.nd, R.sub, ?_⟩
  · obtain ⟨v, hv, hd⟩ := hl x d e
    refine ⟨v, ?_, hd.mono mono⟩
    unfold VarAt at hv ⊢
    split at hv
    · exact hv
    · obtain ⟨c, q, z⟩ := hv; exact ⟨c, q, cell c _ z⟩
    · obtain ⟨c, q, z⟩ := hv; exact ⟨c, q, cell c _ z⟩
    · exact hv
  · obtain ⟨n, v, z⟩ := R.cells x c e
    exact ⟨n, v, cell c v z⟩
  · obtain ⟨o, e, r⟩ := R.there a ha
    obtain ⟨sl, e'⟩ := hs.2.2 a o e
    exact ⟨_, e', r⟩
  · refine ⟨fun b o n f e => (hs.2.1 b f).trans (R.lat.keep b o n f e), fun b o n f e => ?_, R.lat.gens, R.lat.os⟩
    obtain ⟨sl, e'⟩ := R.lat.slot b o n f e
    obtain ⟨sl2, e2⟩ := hs.2.2 b _ e'
    exact ⟨sl2, e2⟩

theorem wp_newEntry {e c : Addr} {T : Option Addr} {env : Env} {f : Addr} {head : Value} {b : Bool} {Q : Unit → Shared → Prop} (hC : C.A.frames = some C.fs) (hm : ∃ r, C.fs = env :: r) (hf : env.frame = some f)
    (R : Rep G C loc tmp ((e, .exc c T) :: mh) s) (h : ∀ t s', Rep G C loc tmp ((e, .exc c (some t)) :: mh) s' → Q () s') {E : Value → Shared → Prop} :
    wpAny (Mo G) C.A (do setField (.ref e) 1 (← EntryCells.newEntry head (← frameOf env) .none (rawInt f) .none (← entryPlaceOf f b))) Q E s := by
  obtain ⟨r, hr⟩ := hm
  refine wpAny_bind (wpAny_frameOf_fun (hC.trans (congrArg some hr)) (R.funFrames (fun x hx => hr ▸ hx)) hf fun h1 hs1 => ?_)
  rw [← hr] at hs1
  have R1 := R.slots hs1
  refine wpAny_bind (wpAny_entryPlaceOf fun pl hpl => ?_)
  unfold EntryCells.newEntry newFields
  refine wpAny_bind (wpAny_newObj_type ?_ (hpl.sizeOk5 _ _ _ _ _))
  refine absP fun P₀ hP₀ => ?_
  obtain ⟨oe, vs, he, hcl, hd, hT⟩ := R1.obs _ (.head _)
  refine hP₀ ?_; clear hP₀ P₀
  have hsz : 1 < vs.size := by
    cases T with
    | none => exact (Array.getElem?_eq_some_iff.mp hT).1
    | some t => exact (Array.getElem?_eq_some_iff.mp hT.1).1
  dsimp only at he
  refine wpAny_setField (Heap.get?_push_of_some _ he) hd hsz (h h1.objs.size _ ?_)
  have he2 := Heap.get?_push_of_some (h := h1) { cls := .type "traceback", dict := none, data := .fields ([head, .ref f, .none, rawInt f, .none] ++ (if pl.isEmpty then List.replicate 6 Value.none else pl)).toArray } he
  have hd3 := Obj.data_mapFields hd (·.setIfInBounds 1 (Value.ref h1.objs.size))
  have hne : e ≠ h1.objs.size := Nat.ne_of_lt (lt_of_get he)
  refine R1.set (o' := .exc c (some h1.objs.size)) .head (fun b x n q => ?_) rfl rfl (fun b hb => ?_) ?_ ?_
  · have nb : b ≠ e := fun z => n (by rw [z]; simp [foot])
    exact (Heap.get?_update_other _ _ (Ne.symm nb)).trans (Heap.get?_push_of_some _ q)
  · simp only [foot, AO.more, Option.toList, List.mem_cons, List.not_mem_nil, or_false] at hb ⊢
    rcases hb with rfl | rfl
    · exact .inl (.inl rfl)
    · exact .inr (size_none (Nat.le_refl _))
  · simpa [foot, AO.more] using hne
  · refine ⟨_, _, Heap.get?_update_self _ he2 (Obj.isFreed_of_fields hd3), (Obj.cls_mapFields _ _).trans hcl, hd3, by simp [hsz], _, _, (Heap.get?_update_other _ _ hne).trans (Heap.get?_push_size _ rfl), rfl, ?_⟩
    simp only [List.size_toArray, List.length_append, List.length_cons, List.length_nil]; omega

theorem wp_setT {e c t : Addr} {v : Value} {Q : Unit → Shared → Prop} {E : Value → Shared → Prop} {A : Around} (R : Rep G C loc tmp ((e, .exc c (some t)) :: mh) s)
    (h : ∀ s', Rep G C loc tmp ((e, .exc c (some t)) :: mh) s' → Q () s') : wpAny (Mo G) A (setField (.ref t) 3 v) Q E s := by
  refine absP fun P₀ hP₀ => ?_
  obtain ⟨oe, vs, he, hcl, hd, h1, o', ts, ht, hdt, hz⟩ := R.obs _ (.head _)
  refine hP₀ ?_; clear hP₀ P₀
  have nd := nd_of R
  have hne : e ≠ t := by
    rw [addrs_cons] at nd
    have := (List.nodup_append.mp nd).1
    simp [foot, AO.more] at this
    exact this
  refine wpAny_setField ht hdt hz (h _ ?_)
  have hd3 := Obj.data_mapFields hdt (·.setIfInBounds 3 v)
  refine R.set (o' := .exc c (some t)) .head (fun b x n q => ?_) rfl rfl (fun b hb => .inl hb) (by simpa [foot, AO.more] using hne) ?_
  · exact (Heap.get?_update_other _ _ (fun z => n (by rw [← z]; simp [foot, AO.more]))).trans q
  · refine ⟨oe, vs, (Heap.get?_update_other _ _ (Ne.symm hne)).trans he, hcl, hd, h1, _, _, Heap.get?_update_self _ ht (Obj.isFreed_of_fields hd3), hd3, by simpa using hz⟩

theorem wp_noteFrame {e c : Addr} {T : Option Addr} {env : Env} {f : Addr} {Q : Unit → Shared → Prop} (hC : C.A.frames = some C.fs) (hm : ∃ r, C.fs = env :: r) (hf : env.frame = some f)
    (R : Rep G C loc tmp ((e, .exc c T) :: mh) s) (h : ∀ t s', Rep G C loc tmp ((e, .exc c (some t)) :: mh) s' → Q () s') {E : Value → Shared → Prop} :
    wpAny (Mo G) C.A (noteFrame (.ref e) env) Q E s := by
  refine absP fun P₀ hP₀ => ?_
  obtain ⟨oe, vs, he, hcl, hd, hT⟩ := R.obs _ (.head _)
  refine hP₀ ?_; clear hP₀ P₀
  dsimp only at he
  unfold noteFrame
  simp only [hf]
  cases T with
  | none =>
    refine wpAny_bind (wpAny_field he hd hT ?_)
    rw [if_neg (by decide)]
    exact wp_newEntry (b := _) hC hm hf R h
  | some t =>
    refine absP fun P₀ hP₀ => ?_
    obtain ⟨h1, o', ts, ht, hdt, hz⟩ := hT
    refine hP₀ ?_; clear hP₀ P₀
    refine wpAny_bind (wpAny_field he hd h1 ?_)
    rw [if_pos (show (Value.ref t != Value.none) = true from by simp)]
    refine wpAny_bind (wpAny_field ht hdt (x := ts[3]) (Array.getElem?_eq_getElem hz) ?_)
    split
    · exact wpAny_pure (h t s R)
    · refine wpAny_bind (wp_setT R fun s1 R1 => ?_)
      exact wp_newEntry (b := _) hC hm hf R1 h

theorem wp_setFlight {e c t : Addr} {fr : Option Addr} {Q : Unit → Shared → Prop} {E : Value → Shared → Prop} {A : Around} (R : Rep G C loc tmp ((e, .exc c (some t)) :: mh) s)
    (h : ∀ s', Rep G C loc tmp ((e, .exc c (some t)) :: mh) s' → Q () s') : wpAny (Mo G) A (setFlight (.ref e) fr) Q E s := by
  refine absP fun P₀ hP₀ => ?_
  obtain ⟨oe, vs, he, hcl, hd, h1, o', ts, ht, hdt, hz⟩ := R.obs _ (.head _)
  refine hP₀ ?_; clear hP₀ P₀
  dsimp only at he
  unfold setFlight
  refine wpAny_bind (wpAny_field he hd h1 ?_)
  rw [if_pos (show (Value.ref t != Value.none) = true from by simp)]
  exact wp_setT R h
theorem wp_leaving {e c : Addr} {T : Option Addr} {env : Env} {f : Addr} {Q : Unit → Shared → Prop} (hC : C.A.frames = some C.fs) (hm : ∃ r, C.fs = env :: r) (hf : env.frame = some f)
    (R : Rep G C loc tmp ((e, .exc c T) :: mh) s) (h : ∀ t s', Rep G C loc tmp ((e, .exc c (some t)) :: mh) s' → Q () s') {E : Value → Shared → Prop} :
    wpAny (Mo G) C.A (leaving env (.ref e)) Q E s := by
  unfold leaving
  exact wpAny_bind (wp_noteFrame hC hm hf R fun t s1 R1 => wp_setFlight R1 (h t))
theorem wp_cameBack {e c t : Addr} {env : Env} {E : Value → Shared → Prop} {A : Around} (R : Rep G C loc tmp ((e, .exc c (some t)) :: mh) s)
    (h : ∀ s', Rep G C loc tmp ((e, .exc c (some t)) :: mh) s' → E (.ref e) s') : cameBackBy (Mo G) A env E (.ref e) s := by
  refine absP fun P₀ hP₀ => ?_
  obtain ⟨oe, vs, he, hcl, hd, h1, o', ts, ht, hdt, hz⟩ := R.obs _ (.head _)
  refine hP₀ ?_; clear hP₀ P₀
  dsimp only at he
  unfold cameBackBy
  refine wpAny_bind (wpAny_field he hd h1 ?_)
  rw [if_neg (show ¬ (Value.ref t == Value.none) = true from by simp)]
  exact wp_setFlight R h

theorem Rep.stored (R : Rep G C loc tmp mh s) {x : Str} {v : Value} {d : D} {h' : Heap} {k : Nat} {m : Str → Option Value} (hm : s.heap.Ns C.env.locals m)
    (hl : ∀ y d, loc.lookup y = some d → ∃ v, VarAt C s.heap m y v ∧ VD s.heap (MM C mh) v d) (hk : C.env.kindOf x = some .local) (hx : VD s.heap (MM C mh) v d)
    (hn : h'.Ns C.env.locals (fun y => if y = x then some v else m y)) (hs : Heap.SameBut C.env.locals s.heap h'): Rep G C ((x, d) :: loc) tmp mh { s with heap := h', toks := k } := by
  have nL := own_not R R.ok.mine
  have hc := R.ok.cloc
  have mono : Mono s.heap h' (MM C mh) (MM C mh) := ⟨fun b o n e => ⟨o.slots, (hs.2 b fun q => n (by rw [q]; exact List.mem_append_left _ R.ok.mine)).trans e⟩, fun u₀ h => .inl h⟩
  refine ⟨R.ok, ⟨_, hn, fun y d' e => ?_⟩, fun y c e => ?_, fun p hp => (R.tmp p hp).mono mono, fun p hp => (R.obs p hp).mono mono fun b hb o e => (hs.2 b fun q => nL (q ▸ mem_addrs hp hb)).trans e, fun a ha => ?_, R.nd, R.sub, ?_⟩
  · rw [List.lookup_cons] at e
    by_cases hy : y = x
    · subst hy
      simp only [beq_self_eq_true] at e
      cases e
      exact ⟨v, by unfold VarAt; rw [hk]; simp, hx.mono mono⟩
    · simp only [beq_eq_false_iff_ne.mpr hy] at e
      obtain ⟨u, hu, hd⟩ := hl y d' e
      refine ⟨u, ?_, hd.mono mono⟩
      unfold VarAt at hu ⊢
      split at hu
      · simpa [hy] using hu
      · obtain ⟨c, q, z⟩ := hu; exact ⟨c, q, z.sameBut hs (hc y c q)⟩
      · obtain ⟨c, q, z⟩ := hu; exact ⟨c, q, z.sameBut hs (hc y c q)⟩
      · exact hu
  · obtain ⟨n, u, z⟩ := R.cells y c e
    exact ⟨n, u, z.sameBut hs (hc y c e)⟩
  · by_cases q : a = C.env.locals
    · subst q
      refine absP fun P₀ hP₀ => ?_
      obtain ⟨o, es, ep, e, d, r⟩ := hn
      refine hP₀ ?_; clear hP₀ P₀
      exact ⟨o, e, fun vs n q => by rw [d] at q; cases q⟩
    · obtain ⟨o, e, r⟩ := R.there a ha
      exact ⟨o, (hs.2 a q).trans e, r⟩
  · refine ⟨fun b o n f e => ?_, fun b o n f e => ?_, R.lat.gens, R.lat.os⟩
    · refine (hs.2 b fun q => ?_).trans (R.lat.keep b o n f e)
      subst q
      rcases R.sub _ (List.mem_append_left _ R.ok.mine) with z | z
      · exact n z
      · rw [z] at e; cases e
    · obtain ⟨sl, e'⟩ := R.lat.slot b o n f e
      refine ⟨sl, (hs.2 b fun q => ?_).trans e'⟩
      subst q
      rcases R.sub _ (List.mem_append_left _ R.ok.mine) with z | z
      · exact n z
      · rw [z] at e; cases e

end

section
set_option tactic.hygienic false
open PySem PySem.W PyProof.Rows
variable {G : Glb} {C : Cx} {loc : Loc} {tmp : Tmp} {mh hid : MH} {s s' : Shared}
variable {X : Addr → Loc → MH → Prop} {Q : D → MH → Prop} {Rt : D → MH → Prop} {N : Loc → MH → Prop}

theorem Rep.storedCell (R : Rep G C loc tmp mh s) {x : Str} {c : Addr} {v : Value} {d : D} {h' : Heap} {k : Nat} {m : Str → Option Value} (hm : s.heap.Ns C.env.locals m)
    (hl : ∀ y d, loc.lookup y = some d → ∃ v, VarAt C s.heap m y v ∧ VD s.heap (MM C mh) v d) (hk : C.env.kindOf x = some .cell) (hcx : C.env.cells.lookup x = some c) (ho : c ∈ C.own) (hx : VD s.heap (MM C mh) v d)
    (hn : h'.IsCell c (some v)) (hs : Heap.SameBut c s.heap h') : Rep G C ((x, d) :: loc) tmp mh { s with heap := h', toks := k } := by
  have nL := own_not R ho
  have hcL := R.ok.cloc x c hcx
  have mono : Mono s.heap h' (MM C mh) (MM C mh) := ⟨fun b o n e => ⟨o.slots, (hs.2 b fun q => n (by rw [q]; exact List.mem_append_left _ ho)).trans e⟩, fun u₀ h => .inl h⟩
  have cell : ∀ y b u, C.env.cells.lookup y = some b → y ≠ x → s.heap.IsCell b u → h'.IsCell b u := fun y b u e ny z => z.sameBut hs fun q => ny (R.ok.cinj y x b e (q ▸ hcx))
  refine ⟨R.ok, ⟨m, hm.sameBut hs (Ne.symm hcL), fun y d' e => ?_⟩, fun y b e => ?_, fun p hp => (R.tmp p hp).mono mono, fun p hp => (R.obs p hp).mono mono fun b hb o e => (hs.2 b fun q => nL (q ▸ mem_addrs hp hb)).trans e, fun a ha => ?_, R.nd, R.sub, ?_⟩
  · rw [List.lookup_cons] at e
    by_cases hy : y = x
    · subst hy
      simp only [beq_self_eq_true] at e
      cases e
      exact ⟨v, by unfold VarAt; rw [hk]; exact ⟨c, hcx, hn⟩, hx.mono mono⟩
    · simp only [beq_eq_false_iff_ne.mpr hy] at e
      obtain ⟨u, hu, hd⟩ := hl y d' e
      refine ⟨u, ?_, hd.mono mono⟩
      unfold VarAt at hu ⊢
      split at hu
      · exact hu
      · obtain ⟨b, q, z⟩ := hu; exact ⟨b, q, cell y b _ q hy z⟩
      · obtain ⟨b, q, z⟩ := hu; exact ⟨b, q, cell y b _ q hy z⟩
      · exact hu
  · obtain ⟨n, u, z⟩ := R.cells y b e
    by_cases hy : y = x
    · subst hy
      rw [hcx] at e; cases e
      exact ⟨n, _, hn⟩
    · exact ⟨n, u, cell y b u e hy z⟩
  · by_cases q : a = c
    · subst q
      obtain ⟨o, e, d⟩ := hn
      exact ⟨o, e, fun vs n q => by rw [d] at q; cases q⟩
    · obtain ⟨o, e, r⟩ := R.there a ha
      exact ⟨o, (hs.2 a q).trans e, r⟩
  · refine ⟨fun b o n f e => ?_, fun b o n f e => ?_, R.lat.gens, R.lat.os⟩
    · refine (hs.2 b fun q => ?_).trans (R.lat.keep b o n f e)
      subst q
      rcases R.sub _ (List.mem_append_left _ ho) with z | z
      · exact n z
      · rw [z] at e; cases e
    · obtain ⟨sl, e'⟩ := R.lat.slot b o n f e
      refine ⟨sl, (hs.2 b fun q => ?_).trans e'⟩
      subst q
      rcases R.sub _ (List.mem_append_left _ ho) with z | z
      · exact n z
      · rw [z] at e; cases e

noncomputable def Sto (C : Cx) (x : Str) : Prop := C.env.kindOf x = some .local ∨ (C.env.kindOf x = some .cell ∧ ∃ c, C.env.cells.lookup x = some c ∧ c ∈ C.own)
theorem wp_store {x : Str} {v : Value} {d : D} {Q : Unit → Shared → Prop} {E : Value → Shared → Prop} {A : Around} (R : Rep G C loc tmp mh s) (hx : VD s.heap (MM C mh) v d) (hk : Sto C x)
    (h : ∀ s', Rep G C ((x, d) :: loc) tmp mh s' → Q () s') : wpAny (Mo G) A (storeName C.env x v) Q E s := by
  obtain ⟨m, hm, hl⟩ := R.ns
  rcases hk with hk | ⟨hk, c, hc, ho⟩
  · exact wpAny_storeName_local hk hm (fun h' hn hs => h _ (R.stored hm hl hk hx hn hs)) (by rw [R.ok.kind]; rfl)
  · obtain ⟨_, u, hu⟩ := R.cells x c hc
    exact wpAny_storeName_cell R.ok.kind hk hc hu fun h' hn hs => h _ (R.storedCell hm hl hk hc ho hx hn hs)

theorem EX_nil (h : N loc mh) : EX G C loc mh [] X Rt N := fun tmp hid s R => wpAny_execs_nil ⟨loc, mh, R, h⟩
theorem EX_cons {st : Stmt} {rest : List Stmt} (h : SX G C loc mh st X Rt fun loc' mh' => EX G C loc' mh' rest X Rt N) : EX G C loc mh (st :: rest) X Rt N := fun tmp hid s R =>
  wpAny_execs_cons (wpAny_mono (h tmp hid s R) (fun f s1 q => by
    cases f with
    | next => obtain ⟨l, m, R1, h1⟩ := q; exact h1 tmp hid s1 R1
    | ret v => exact q
    | _ => exact q.elim) fun u₀ u₀ x => x)
theorem SX_assign {x : Str} {px pos : Pos} {e : Expr} (hk : Sto C x) (h : EV G C loc mh e X fun d m => N ((x, d) :: loc) m) (hs : ∀ env, swapsWith e (some (.Name x px)) pos.line env = pure false := by intro _; rfl) :
    SX G C loc mh (.Assign [.Name x px] e pos) X Rt N := fun tmp hid s R =>
  wpAny_Assign_Name (h.go R (fun v s1 d m R1 h1 => wp_store R1.pop R1.top hk fun s2 R2 => ⟨_, m, R2, h1⟩)) (hs _)
theorem SX_if {t : Expr} {b o : List Stmt} {pos : Pos} (h : TT G C loc mh t X fun c m => (c = true → EX G C loc m b X Rt N) ∧ (c = false → EX G C loc m o X Rt N)) : SX G C loc mh (.If t b o pos) X Rt N := fun tmp hid s R =>
  wpAny_If (h.go R (fun c s1 m R1 hq1 => by
    obtain ⟨h1, h2⟩ := hq1
    cases c with
    | true => exact h1 rfl tmp hid s1 R1
    | false => exact h2 rfl tmp hid s1 R1))
theorem SX_ret {e : Expr} {pos : Pos} (h : EV G C loc mh e X Rt) : SX G C loc mh (.Return (some e) pos) X Rt N := fun tmp hid s R =>
  wpAny_Return_some (h.go R (fun v s1 d m R1 h1 => ⟨d, loc, m, R1, h1⟩))
theorem SX_expr {e : Expr} {pos : Pos} (h : EV G C loc mh e X fun d m => d = .none ∧ N loc m) (hs : ∀ env, swapsWith e none pos.line env = pure false := by intro _; rfl) (hi : interactive C.env = false := by rfl) :
    SX G C loc mh (.Expr e pos) X Rt N := fun tmp hid s R =>
  wpAny_Expr (h.go R (fun v s1 d m R1 hq2 => by obtain ⟨e, h1⟩ := hq2; subst e; have := R1.top.none_inv; dsimp only at this; subst this; exact ⟨loc, m, R1.pop, h1⟩)) hi (hs _)

theorem EVs_nil {Q : List D → MH → Prop} (h : Q [] mh) : EVs G C loc mh [] X Q := fun tmp hid s pos R => wpAny_items_nil ⟨[], mh, R, .nil, h⟩
theorem EVs_cons {e : Expr} {es : List Expr} {Q : List D → MH → Prop} (h : EV G C loc mh e X fun d m => EVs G C loc m es X fun ds m' => Q (d :: ds) m') (he : ∀ env, starEach (e :: es) env = (false, eval e env) :: starEach es env := by intro _; rfl) :
    EVs G C loc mh (e :: es) X Q := fun tmp hid s pos R =>
  wpAny_items_cons (h.go R (fun v s1 d m R1 h1 => h1.go R1 (fun vs s2 ds m2 R2 V h2 => ⟨d :: ds, m2, R2.pop, .cons R2.top V, h2⟩))) (he _)

noncomputable abbrev FNq (G : Glb) (C : Cx) (loc : Loc) (tmp : Tmp) (hid : MH) (X : Addr → MH → Prop) (Q : D → MH → Prop) (r : Result) (s' : Shared) : Prop := match r with
  | .ok (.ret v) => EVq G C loc tmp hid Q v s'
  | .ok _ => False
  | .error v => EErr G C hid (fun c l m => l = loc ∧ X c m) v s'
noncomputable def FN (G : Glb) (n : Nat) (f : Value) (ds : List D) (mh : MH) (X : Addr → MH → Prop) (Q : D → MH → Prop) : Prop :=
  ∀ C loc tmp hid s vs, Can G C n → Rep G C loc tmp (mh ++ hid) s → VDs s.heap (MM C (mh ++ hid)) vs ds →
    codeAny (Mo G) C.A (.call f ⟨vs, []⟩) (FNq G C loc tmp hid X Q) s
theorem FN.mono {n : Nat} {f : Value} {ds : List D} {X X' : Addr → MH → Prop} {Q Q' : D → MH → Prop} (h : FN G n f ds mh X Q) (hq : ∀ d m, Q d m → Q' d m) (hx : ∀ c m, X c m → X' c m) : FN G n f ds mh X' Q' :=
  fun C loc tmp hid s vs c R V => codeAny_mono (h C loc tmp hid s vs c R V) fun r s' q => by
    cases r with
    | ok f => cases f with
      | ret v => obtain ⟨d, m, a, b⟩ := q; exact ⟨d, m, a, hq _ _ b⟩
      | _ => exact q
    | error v => exact EErr.mono (fun c u₀ m hq3 => by obtain ⟨e, z⟩ := hq3; exact ⟨e, hx c m z⟩) q
theorem FN.frame {n : Nat} {f : Value} {ds : List D} {X : Addr → MH → Prop} {Q : D → MH → Prop} (h : FN G n f ds mh X Q) {mh' rest : MH} (P : mh'.Perm (mh ++ rest)) {Q' : D → MH → Prop} {X' : Addr → MH → Prop}
    (hq : ∀ d m, Q d m → Q' d (m ++ rest)) (hx : ∀ c m, X c m → X' c (m ++ rest)) : FN G n f ds mh' X' Q' := fun C loc tmp hid s vs c R V => by
  have P' : (mh' ++ hid).Perm (mh ++ (rest ++ hid)) := by rw [← List.append_assoc]; exact P.append_right hid
  have R' := R.perm P'
  have V' : VDs s.heap (MM C (mh ++ (rest ++ hid))) vs ds := V.mono (.of (fun u₀ u₀ u₀ e => e) fun b h => .inl ((List.mem_append.mp h).elim (fun q => List.mem_append_left _ q) fun q => List.mem_append_right _ ((P'.flatMap_right foot).mem_iff.mpr q)))
  refine codeAny_mono (h C loc tmp (rest ++ hid) s vs c R' V') fun r s' q => ?_
  cases r with
  | ok f => cases f with
    | ret v => obtain ⟨d, m, a, b⟩ := q; exact ⟨d, m ++ rest, by rw [List.append_assoc]; exact a, hq _ _ b⟩
    | _ => exact q
  | error v => obtain ⟨e, c, T, l, m, a, b, z⟩ := q; exact ⟨e, c, T, l, m ++ rest, a, by simpa using b, z.1, hx _ _ z.2⟩

end

section
set_option tactic.hygienic false
open PySem PySem.W PyProof.Rows
variable {G : Glb} {C C' : Cx} {loc loc' : Loc} {tmp tmp' : Tmp} {mh hid l l' : MH} {s s' s₁ : Shared}
variable {X : Addr → Loc → MH → Prop} {Q : D → MH → Prop} {Rt : D → MH → Prop} {N : Loc → MH → Prop}

structure Is (C : Cx) (sc : Scope) : Prop where
  scope : C.env.scope = sc
  cell : ∀ x, sc.names.lookup x = some .cell → ∃ c, C.env.cells.lookup x = some c ∧ c ∈ C.own
  fr : ∃ r, C.fs = C.env :: r
  fm : C.env.frame = some C.env.locals
theorem Is.kindOf {sc : Scope} (I : Is C sc) (x : Str) : C.env.kindOf x = sc.names.lookup x := by unfold Env.kindOf; rw [I.scope]
theorem Is.sto {sc : Scope} (I : Is C sc) {x : Str} (h : sc.names.lookup x = some .local ∨ sc.names.lookup x = some .cell) : Sto C x := by
  rcases h with h | h
  · exact .inl ((I.kindOf x).trans h)
  · exact .inr ⟨(I.kindOf x).trans h, I.cell x h⟩
theorem Is.inter {sc : Scope} (I : Is C sc) (h : sc.kind = .function) : interactive C.env = false := by unfold interactive; rw [I.scope, h]; rfl

theorem Later.keepS {M F : List Addr} (L : Later M F s s') {b : Addr} {o : Obj} (n : b ∉ M) (e : s.heap.get? b = some o) : ∃ sl, s'.heap.get? b = some { o with slots := sl } := by
  by_cases f : b ∈ F
  · exact L.slot b o n f e
  · exact ⟨o.slots, L.keep b o n f e⟩

structure Under (C C' : Cx) (l : MH) (s : Shared) : Prop where
  s0 : C'.s0 = s
  M0 : C'.M0 = addrs l
  F : ∀ a ∈ C'.F, a ∈ C.F ∨ s.heap.get? a = none

theorem Under.mono' (R : Rep G C loc tmp l s) (U : Under C C' l s) (R' : Rep G C' loc' tmp' l' s') : Mono s'.heap s'.heap (MM C' l') (MM C l') := by
  have lat := R'.lat
  rw [U.s0, U.M0] at lat
  refine ⟨fun b o n e => ⟨o.slots, e⟩, fun b hb => ?_⟩
  rcases List.mem_append.mp hb with q | q
  · obtain ⟨o, e, z⟩ := R.there b q
    obtain ⟨sl, e'⟩ := lat.keepS (own_not R q) e
    exact .inr fun o' e'' vs n => by rw [e'] at e''; cases e''; exact z vs n
  · exact .inl (List.mem_append_right _ q)

theorem Rep.back2 {l2 : MH} (R : Rep G C loc tmp l s) (U : Under C C' l s) (R' : Rep G C' loc' tmp' l' s') (h2 : ∀ a ∈ addrs l2, a ∈ addrs l' ∨ a ∈ C'.own ∧ a ∈ addrs l)
    (ho : (∀ {v : Value} {d : D}, VD s'.heap (MM C' l') v d → VD s'.heap (MM C l2) v d) → Mono s'.heap s'.heap (MM C' l') (MM C l2) → ∀ p ∈ l2, OD s'.heap (MM C l2) p.1 p.2) (hnd : (addrs l2).Nodup) : Rep G C loc tmp l2 s' ∧ Mono s'.heap s'.heap (MM C' l') (MM C l2) := by
  have lat := R'.lat
  rw [U.s0, U.M0] at lat
  have fresh0 : ∀ a ∈ addrs l', a ∈ addrs l ∨ s.heap.get? a = none := fun a ha => by
    have := R'.sub a (List.mem_append_right _ ha)
    rwa [U.s0, U.M0] at this
  have fresh : ∀ a ∈ addrs l2, a ∈ addrs l ∨ s.heap.get? a = none := fun a ha => by
    rcases h2 a ha with q | q
    · exact fresh0 a q
    · exact .inl q.2
  have mono : Mono s.heap s'.heap (MM C l) (MM C l2) := ⟨fun b o n e => lat.keepS (fun q => n (List.mem_append_right _ q)) e, fun b hb => by
    rcases List.mem_append.mp hb with q | q
    · exact .inl (List.mem_append_left _ q)
    · rcases fresh b q with z | z
      · exact .inl (List.mem_append_right _ z)
      · exact .inr fun o e => by rw [z] at e; cases e⟩
  have mono' : Mono s'.heap s'.heap (MM C' l') (MM C l2) := ⟨fun b o n e => ⟨o.slots, e⟩, fun b hb => by
    rcases List.mem_append.mp hb with q | q
    · obtain ⟨o, e, z⟩ := R.there b q
      obtain ⟨sl, e'⟩ := lat.keepS (own_not R q) e
      exact .inr fun o' e'' vs n => by rw [e'] at e''; cases e''; exact z vs n
    · rcases h2 b q with z | z
      · exact .inl (List.mem_append_right _ z)
      · exact .inl (List.mem_append_left _ z.1)⟩
  have own : ∀ a ∈ C.own, ∀ o, s.heap.get? a = some o → ∃ sl, s'.heap.get? a = some { o with slots := sl } := fun a ha o e => lat.keepS (own_not R ha) e
  have cell : ∀ x c, C.env.cells.lookup x = some c → ∀ v, s.heap.IsCell c v → s'.heap.IsCell c v := fun x c q v hq1 => by obtain ⟨o, e, d⟩ := hq1; exact let ⟨sl, e'⟩ := lat.keepS (R.cells x c q).1 e; ⟨_, e', d⟩
  refine absP fun P₀ hP₀ => ?_
  obtain ⟨m, ⟨o, es, ep, e, d, r⟩, hl⟩ := R.ns
  obtain ⟨sl, e'⟩ := own _ R.ok.mine _ e
  refine hP₀ ?_; clear hP₀ P₀
  refine ⟨⟨R.ok, ⟨m, ⟨_, es, ep, e', d, r⟩, fun x d q => ?_⟩, fun x c q => ?_, fun p hp => (R.tmp p hp).mono mono, ho (fun x => x.mono mono') mono', fun a ha => ?_, ?_, fun a ha => ?_, ?_⟩, mono'⟩
  · obtain ⟨v, hv, hd⟩ := hl x d q
    refine ⟨v, ?_, hd.mono mono⟩
    unfold VarAt at hv ⊢
    split at hv
    · exact hv
    · obtain ⟨c, q, z⟩ := hv; exact ⟨c, q, cell x c q _ z⟩
    · obtain ⟨c, q, z⟩ := hv; exact ⟨c, q, cell x c q _ z⟩
    · exact hv
  · obtain ⟨n, v, z⟩ := R.cells x c q
    refine ⟨fun h => ?_, v, cell x c q v z⟩
    rcases fresh c h with y | y
    · exact n y
    · obtain ⟨o, e, _⟩ := z; rw [y] at e; cases e
  · obtain ⟨o, e, z⟩ := R.there a ha
    obtain ⟨sl, e'⟩ := own a ha o e
    exact ⟨_, e', z⟩
  · refine List.nodup_append.mpr ⟨(List.nodup_append.mp R.nd).1, hnd, fun a ha b hb q => ?_⟩
    subst q
    rcases fresh a hb with y | y
    · exact own_not R ha y
    · obtain ⟨o, e, _⟩ := R.there a ha; rw [y] at e; cases e
  · rcases List.mem_append.mp ha with q | q
    · exact R.sub a (List.mem_append_left _ q)
    · rcases fresh a q with y | y
      · exact R.sub a (List.mem_append_right _ y)
      · exact R.fresh y
  · have hF := U.F
    have out : ∀ b o, b ∉ C.M0 → C.s0.heap.get? b = some o → b ∉ addrs l := fun b o n e q => by
      rcases R.sub b (List.mem_append_right _ q) with z | z
      · exact n z
      · rw [z] at e; cases e
    refine ⟨fun b o n f e => ?_, fun b o n f e => ?_, lat.gens.trans R.lat.gens, lat.os.trans R.lat.os⟩
    · have e1 := R.lat.keep b o n f e
      refine lat.keep b o (out b o n e) (fun q => ?_) e1
      rcases hF b q with q | hL
      · exact f q
      · rw [hL] at e1; cases e1
    · obtain ⟨sl, e1⟩ := R.lat.slot b o n f e
      obtain ⟨sl', e2⟩ := lat.keepS (out b o n e) e1
      exact ⟨sl', e2⟩


theorem Rep.back (R : Rep G C loc tmp l s) (U : Under C C' l s) (R' : Rep G C' loc' tmp' l' s') : Rep G C loc tmp l' s' :=
  (R.back2 U R' (fun u₀ h => .inl h) (fun u₀ m p hp => (R'.obs p hp).mono m fun u₀ u₀ u₀ e => e) (nd_of R')).1
theorem lookup_of_mem {α : Type} : ∀ {l : List (Str × α)} {n : Str} {c : α}, (l.map (·.1)).Nodup → (n, c) ∈ l → l.lookup n = some c
  | [], _, _, _, h => nomatch h
  | (k, v) :: r, n, c, hn, h => by
    rw [List.lookup_cons]
    simp only [List.map_cons, List.nodup_cons] at hn
    rcases List.mem_cons.mp h with e | h
    · cases e; simp
    · have : (n == k) = false := beq_eq_false_iff_ne.mpr fun q => hn.1 (q ▸ List.mem_map.mpr ⟨_, h, rfl⟩)
      rw [this]; exact lookup_of_mem hn.2 h
noncomputable def cellNames (l : List (Str × NameKind)) : List Str := (l.filter fun p => p.2 == .cell).map (·.1)
theorem cellsFrom_names : ∀ (l : List (Str × NameKind)) (n : Nat) (acc : List (Str × Addr)), (cellsFrom n l acc).map (·.1) = (cellNames l).reverse ++ acc.map (·.1)
  | [], n, acc => rfl
  | (x, k) :: r, n, acc => by
    unfold cellsFrom cellNames
    cases hk : k == NameKind.cell with
    | true => simp only [if_pos]; rw [cellsFrom_names r]; simp [cellNames, hk]
    | false => simp only [Bool.false_eq_true, if_false]; rw [cellsFrom_names r]; simp [cellNames, hk]
theorem cells_nodup {l : List (Str × NameKind)} (h : (cellNames l).Nodup) (n : Nat) : ((cellsFrom n l []).map (·.1)).Nodup := by
  rw [cellsFrom_names, List.map_nil, List.append_nil]; exact (List.reverse_perm _).nodup_iff.mpr h
theorem cells_some {l : List (Str × NameKind)} {x : Str} (h : l.lookup x = some .cell) (n : Nat) : ((cellsFrom n l []).lookup x).isSome = true := by
  have m : x ∈ (cellsFrom n l []).map (·.1) := by
    rw [cellsFrom_names]; simp only [List.map_nil, List.append_nil, List.mem_reverse]
    exact List.mem_map.mpr ⟨_, List.mem_filter.mpr ⟨mem_of_lookup h, rfl⟩, rfl⟩
  cases e : (cellsFrom n l []).lookup x with
  | some c => rfl
  | none =>
    obtain ⟨⟨k, c⟩, hm, rfl⟩ := List.mem_map.mp m
    have := List.lookup_eq_none_iff.mp e _ hm
    simp at this

noncomputable def callee (C : Cx) (l : MH) (s : Shared) (env : Env) : Cx :=
  { A := C.A.deeper env, env, own := env.locals :: env.cells.map (·.2), fs := env :: C.fs, s0 := s, M0 := addrs l }
theorem callee_under {env : Env} (hL : env.frame = some env.locals) (h : s.heap.get? env.locals = none) : Under C (callee C l s env) l s :=
  ⟨rfl, rfl, fun a ha => by
    simp only [callee, Cx.F, List.filterMap_cons, hL] at ha
    rcases List.mem_cons.mp ha with rfl | ha
    · exact .inr h
    · exact .inl ha⟩

theorem Rep.enter {cm m : Str → Option Value} {env : Env} (R : Rep G C loc tmp l s) (I : InCallC s env.locals m env.cells cm s₁) (hL : env.frame = some env.locals) (hsc : env.scope.kind = .function)
    (hg : env.globals = mainGlobals) (hbi : env.builtins = builtinsNs) (hcn : (env.cells.map (·.1)).Nodup)
    (hl : ∀ x d, loc'.lookup x = some d → ∃ v, (env.kindOf x = some .local ∧ m x = some v ∨ env.kindOf x = some .cell ∧ (env.cells.lookup x).isSome ∧ cm x = some v) ∧ VD s.heap (MM C l) v d) :
    Rep G (callee C l s env) loc' [] l s₁ := by
  have fresh := I.toInCall.fresh
  have keep := I.toInCall.keep
  have ca : ∀ c ∈ env.cells.map (·.2), s.heap.objs.size ≤ c ∧ env.locals ≠ c := fun c hc => by
    obtain ⟨⟨n, c'⟩, hm, rfl⟩ := List.mem_map.mp hc
    have := I.above n c' hm
    exact ⟨Nat.le_trans fresh (Nat.le_of_lt this), Nat.ne_of_lt this⟩
  have own : ∀ a ∈ (callee C l s env).own, s.heap.objs.size ≤ a := fun a ha => by
    rcases List.mem_cons.mp ha with rfl | ha
    · exact fresh
    · exact (ca a ha).1
  have mono : Mono s.heap s₁.heap (MM C l) (MM (callee C l s env) l) := .of (fun b o u₀ e => keep b o e) fun b hb => by
    rcases List.mem_append.mp hb with q | q
    · exact .inr (size_none (own b q))
    · exact .inl (List.mem_append_right _ q)
  obtain ⟨h₁, tk, hs⟩ := I.toInCall.same
  have lt : env.locals < s₁.heap.objs.size := by obtain ⟨o, es, ep, e, _⟩ := I.toInCall.ns; exact lt_of_get e
  refine ⟨⟨hsc, hg, hbi, R.base, fun a ha => R.new (List.mem_append_right _ ha), fun a ha => ?_, .head _, fun a ha => ?_, fun y c q e => Nat.lt_irrefl _ (e ▸ I.above y c (mem_of_lookup q)), fun x y c hx hy => name_of_addr I.apart (mem_of_lookup hx) (mem_of_lookup hy), fun e he => ?_⟩, ⟨m, I.toInCall.ns, fun x d q => ?_⟩, fun x c q => ⟨fun z => ?_, _, I.cell x c q⟩, (fun u₀ h => nomatch h), fun p hp => (R.obs p hp).mono mono fun b u₀ o e => keep b o e, fun a ha => ?_, ?_, fun a ha => ?_, ?_⟩
  · simp only [callee, Cx.F, List.filterMap_cons, hL] at ha
    rcases List.mem_cons.mp ha with rfl | ha
    · cases e : G.h.get? env.locals with
      | none => rfl
      | some o => exact absurd (lt_of_get (R.base _ o e)) (Nat.not_lt.mpr fresh)
    · exact R.ok.fnew a ha
  · simp only [callee, Cx.F, List.filterMap_cons, hL] at ha
    rcases List.mem_cons.mp ha with rfl | ha
    · exact fun q => absurd (R.lt q) (Nat.not_lt.mpr fresh)
    · obtain ⟨e, he, hf⟩ := List.mem_filterMap.mp ha
      refine absP fun P₀ hP₀ => ?_
      obtain ⟨_, L, o, hf', _, _, n⟩ := R.frame he
      refine hP₀ ?_; clear hP₀ P₀
      rw [hf] at hf'; cases hf'; exact n
  · rcases List.mem_cons.mp he with rfl | he
    · exact ⟨by rw [hsc]; decide, _, hL, .inl rfl⟩
    · refine absP fun P₀ hP₀ => ?_
      obtain ⟨hk, L, o, hf, ho, hd, _⟩ := R.frame he
      refine hP₀ ?_; clear hP₀ P₀
      exact ⟨hk, L, hf, .inr ⟨o, ho, hd⟩⟩
  · obtain ⟨v, hv, hd⟩ := hl x d q
    refine ⟨v, ?_, hd.mono mono⟩
    unfold VarAt
    rcases hv with ⟨e, z⟩ | ⟨e, c, z⟩
    · rw [show (callee C l s env).env.kindOf x = some .local from e]; exact z
    · obtain ⟨c, hc⟩ := Option.isSome_iff_exists.mp c
      rw [show (callee C l s env).env.kindOf x = some .cell from e]; exact ⟨c, hc, z ▸ I.cell x c hc⟩
  · exact absurd (R.lt z) (Nat.not_lt.mpr (Nat.le_trans fresh (Nat.le_of_lt (I.above x c (mem_of_lookup q)))))
  · rcases List.mem_cons.mp ha with rfl | ha
    · refine absP fun P₀ hP₀ => ?_
      obtain ⟨o, es, ep, e, d, r⟩ := I.toInCall.ns
      refine hP₀ ?_; clear hP₀ P₀
      exact ⟨o, e, fun vs n q => by rw [d] at q; cases q⟩
    · obtain ⟨⟨n, c⟩, hm, rfl⟩ := List.mem_map.mp ha
      obtain ⟨o, e, d⟩ := I.cell n c (lookup_of_mem hcn hm)
      exact ⟨o, e, fun vs n q => by rw [d] at q; cases q⟩
  · refine List.nodup_append.mpr ⟨List.nodup_cons.mpr ⟨fun q => (ca _ q).2 rfl, ?_⟩, nd_of R, fun a ha b hb q => ?_⟩
    · exact List.pairwise_map.mpr I.apart
    · subst q; exact absurd (R.lt hb) (Nat.not_lt.mpr (own a ha))
  · rcases List.mem_append.mp ha with q | q
    · exact .inr (size_none (own a q))
    · exact .inl q
  · exact ⟨fun b o u₀ u₀ e => keep b o e, fun b o u₀ u₀ e => ⟨o.slots, keep b o e⟩, by rw [hs]; rfl, by rw [hs]; rfl⟩

structure FnAt (G : Glb) (f : Addr) (fd : FuncData) : Prop where
  obj : ∃ o, G.h.get? f = some o ∧ o.data = .func fd
  code : G.h.CodeRec fd.code fd.qualname
  globals : fd.globals = mainGlobals
  builtins : fd.builtins = builtinsNs
  closure : fd.closure = []

theorem bind_lookup {env : Env} : ∀ (ps : List Str) (vs : List Value) (m cm : Str → Option Value), ps.Nodup → ps.length = vs.length → (∀ x ∈ ps, env.kindOf x = some .local ∨ env.kindOf x = some .cell) →
    ∀ x, (x ∉ ps → bindL env.kindOf (ps.zip vs) m x = m x ∧ bindC env.kindOf (ps.zip vs) cm x = cm x) ∧
      ∀ (i : Nat) (v : Value), ps[i]? = some x → vs[i]? = some v → (env.kindOf x = some .local ∧ bindL env.kindOf (ps.zip vs) m x = some v) ∨ (env.kindOf x = some .cell ∧ bindC env.kindOf (ps.zip vs) cm x = some v)
  | [], vs, m, cm, _, _, _, x => ⟨fun u₀ => ⟨by simp [bindL], by simp [bindC]⟩, fun i v h => by simp at h⟩
  | p :: ps, [], m, cm, _, hl, _, x => by simp at hl
  | p :: ps, u :: vs, m, cm, hn, hl, hk, x => by
    obtain ⟨hn1, hn2⟩ := List.nodup_cons.mp hn
    have ih := bind_lookup ps vs (if env.kindOf p = some .local then fun y => if y = p then some u else m y else m) (if env.kindOf p = some .local then cm else fun y => if y = p then some u else cm y) hn2 (by simpa using hl) (fun y hy => hk y (.tail _ hy)) x
    simp only [List.zip_cons_cons, bindL, bindC]
    refine ⟨fun hx => ?_, fun i v h1 h2 => ?_⟩
    · obtain ⟨a, b⟩ := ih.1 fun q => hx (.tail _ q)
      have ne : x ≠ p := fun q => hx (q ▸ .head _)
      rw [a, b]
      constructor <;> split <;> simp [ne]
    · cases i with
      | zero =>
        simp at h1 h2
        subst h1; subst h2
        obtain ⟨a, b⟩ := ih.1 hn1
        rcases hk p (.head _) with q | q
        · exact .inl ⟨q, by rw [a, if_pos q]; simp⟩
        · exact .inr ⟨q, by rw [b, if_neg (by rw [q]; decide)]; simp⟩
      | succ i => exact ih.2 i v (by simpa using h1) (by simpa using h2)

noncomputable def EX0 (G : Glb) (C : Cx) (loc : Loc) (mh : MH) (ss : List Stmt) (X : Addr → Loc → MH → Prop) (Rt : D → MH → Prop) (N : Loc → MH → Prop) : Prop :=
  ∀ hid s, Rep G C loc [] (mh ++ hid) s → wpAny (Mo G) C.A (execs ss C.env) (FPost G C [] hid N Rt) (EErr G C hid X) s
noncomputable def SX0 (G : Glb) (C : Cx) (loc : Loc) (mh : MH) (st : Stmt) (X : Addr → Loc → MH → Prop) (Rt : D → MH → Prop) (N : Loc → MH → Prop) : Prop :=
  ∀ hid s, Rep G C loc [] (mh ++ hid) s → wpAny (Mo G) C.A (exec st C.env) (FPost G C [] hid N Rt) (EErr G C hid X) s
theorem EX.to0 {ss : List Stmt} (h : EX G C loc mh ss X Rt N) : EX0 G C loc mh ss X Rt N := fun hid s R => h [] hid s R
theorem SX.to0 {st : Stmt} (h : SX G C loc mh st X Rt N) : SX0 G C loc mh st X Rt N := fun hid s R => h [] hid s R
theorem EX0_nil (h : N loc mh) : EX0 G C loc mh [] X Rt N := (EX_nil h).to0
theorem EX0_cons {st : Stmt} {rest : List Stmt} (h : SX0 G C loc mh st X Rt fun loc' mh' => EX0 G C loc' mh' rest X Rt N) : EX0 G C loc mh (st :: rest) X Rt N := fun hid s R =>
  wpAny_execs_cons (wpAny_mono (h hid s R) (fun f s1 q => by
    cases f with
    | next => obtain ⟨l, m, R1, h1⟩ := q; exact h1 hid s1 R1
    | ret v => exact q
    | _ => exact q.elim) fun u₀ u₀ x => x)
noncomputable def SEX (G : Glb) (n : Nat) (sc : Scope) (loc : Loc) (mh : MH) (body : List Stmt) (X : Addr → MH → Prop) (Q : D → MH → Prop) : Prop :=
  ∀ C, Is C sc → Can G C n → EX0 G C loc mh body (fun c u₀ m => X c m) Q (fun u₀ m => Q .none m)

theorem zip_lookup : ∀ {ps : List Str} {ds : List D} {x : Str} {d : D}, (ps.zip ds).lookup x = some d → ∃ i : Nat, ps[i]? = some x ∧ ds[i]? = some d
  | [], ds, x, d, h => by simp at h
  | p :: ps, [], x, d, h => by simp at h
  | p :: ps, e :: ds, x, d, h => by
    rw [List.zip_cons_cons, List.lookup_cons] at h
    cases q : x == p with
    | true => rw [q] at h; cases h; rw [beq_iff_eq.mp q]; exact ⟨0, rfl, rfl⟩
    | false => rw [q] at h; obtain ⟨i, a, b⟩ := zip_lookup h; exact ⟨i + 1, a, b⟩

theorem FN_of {n : Nat} {f : Addr} {fd : FuncData} {body : List Stmt} {ds es : List D} {ps : List Str} {X : Addr → MH → Prop} {Q : D → MH → Prop} {mh : MH}
    (GO : G.Ok) (F : FnAt G f fd) (hb : fd.body = .stmts body) (hco : fd.scope.isCoroutine = false) (hgen : fd.scope.isGenerator = false) (hk : fd.scope.kind = .function)
    (hcn : (cellNames fd.scope.names).Nodup) (hkind : ∀ x ∈ ps, fd.scope.names.lookup x = some .local ∨ fd.scope.names.lookup x = some .cell) (hnd : ps.Nodup) (hlen : ps.length = es.length)
    (hbind : ∀ (M : List Addr) (s : Shared) (vs : List Value), (∀ b o, G.h.get? b = some o → s.heap.get? b = some o) → VDs s.heap M vs ds → ∃ us, BindsTo s fd ⟨vs, []⟩ (ps.zip us) ∧ VDs s.heap M us es)
    (h : SEX G n fd.scope (ps.zip es) mh body X Q) : FN G (n + 1) (.ref f) ds mh X Q := fun C loc tmp hid s vs cn R V => by
  obtain ⟨o, ho, hd⟩ := F.obj
  obtain ⟨us, hB, U⟩ := hbind _ s vs R.base V
  have hul : ps.length = us.length := hlen.trans U.length.symm
  have base := R.base
  obtain ⟨r1, r2⟩ := cn.room
  let env := callEnvC fd s.heap.objs.size f
  have henv : env = callEnvC fd s.heap.objs.size f := rfl
  have hkd : ∀ x ∈ ps.zip us, fd.scope.names.lookup x.1 = some .local ∨ (fd.scope.names.lookup x.1 = some .cell ∧ ((cellsFrom (s.heap.objs.size + 1) fd.scope.names []).lookup x.1).isSome = true) := fun x hx => by
    have hm := (List.of_mem_zip hx).1
    exact (hkind _ hm).imp id fun q => ⟨q, cells_some q _⟩
  refine codeAny_call_function (by show _ < 1000; lia) (base f o ho) hd hco hgen hb (F.code.keeps base) (hB _ _ _ _ ?_)
  rw [F.closure]
  refine wpAny_newFunctionEnv_cells hk hkd fun env' he s' I => ⟨(GO.nolimit.keeps base).keeps I.toInCall.keep, codeAny_func ?_⟩
  have he' : env' = env := he
  subst he'
  have hw : Under C (callee C (mh ++ hid) s env) (mh ++ hid) s := callee_under rfl (size_none I.toInCall.fresh)
  have R' : Rep G (callee C (mh ++ hid) s env) (ps.zip es) [] (mh ++ hid) s' := R.enter I rfl hk F.globals F.builtins (cells_nodup hcn _) fun x d q => by
    obtain ⟨i, a, b⟩ := zip_lookup q
    obtain ⟨v, c, e⟩ := U.get b
    have hm : x ∈ ps := List.mem_of_getElem? a
    refine ⟨v, ?_, e⟩
    rcases (bind_lookup (env := env) ps us (fun u₀ => none) (fun u₀ => none) hnd hul (fun y hy => hkind y hy) x).2 i v a c with z | ⟨z1, z2⟩
    · exact .inl z
    · exact .inr ⟨z1, cells_some z1 _, z2⟩
  have hI : Is (callee C (mh ++ hid) s env) fd.scope := ⟨rfl, fun x q => by
    obtain ⟨c, hc⟩ := Option.isSome_iff_exists.mp (cells_some q (s.heap.objs.size + 1))
    exact ⟨c, hc, .tail _ (List.mem_map.mpr ⟨_, mem_of_lookup hc, rfl⟩)⟩, ⟨_, rfl⟩, rfl⟩
  have hC : Can G (callee C (mh ++ hid) s env) n := ⟨⟨by show C.A.depth + 1 + _ ≤ _; lia, by show C.A.units + 3 + _ ≤ _; lia⟩, cn.hand, by show (C.A.frames.map _) = _; rw [cn.frames]; rfl⟩
  refine wpAny_mono (h _ hI hC hid s' R') (fun fl s2 q => ?_) fun e s2 q => ?_
  · cases fl with
    | next =>
      refine absP fun P₀ hP₀ => ?_
      obtain ⟨l2, m2, R2, h2⟩ := q
      refine hP₀ ?_; clear hP₀ P₀
      exact ⟨.none, m2, (R.back hw R2).push (.dat .none), h2⟩
    | ret v =>
      refine absP fun P₀ hP₀ => ?_
      obtain ⟨d, l2, m2, R2, h2⟩ := q
      refine hP₀ ?_; clear hP₀ P₀
      exact ⟨d, m2, (R.back hw R2.pop).push (R2.top.mono (hw.mono' R R2)), h2⟩
    | _ => exact q.elim
  · obtain ⟨e, c, T, l2, m2, rfl, R2, h2⟩ := q
    exact wp_leaving hC.frames ⟨_, rfl⟩ rfl R2 fun t s3 R3 => ⟨e, c, some t, loc, m2, rfl, (R.back hw R3).sub_tmp (fun u₀ h => nomatch h), rfl, h2⟩

theorem FN_intro {n : Nat} {f : Addr} {fd : FuncData} {body : List Stmt} {ds : List D} {ps : List Str} {X : Addr → MH → Prop} {Q : D → MH → Prop} {mh : MH}
    (GO : G.Ok) (F : FnAt G f fd) (hb : fd.body = .stmts body) (hco : fd.scope.isCoroutine = false) (hgen : fd.scope.isGenerator = false) (hk : fd.scope.kind = .function)
    (hcn : (cellNames fd.scope.names).Nodup) (hkind : ∀ x ∈ ps, fd.scope.names.lookup x = some .local ∨ fd.scope.names.lookup x = some .cell) (hnd : ps.Nodup) (hlen : ps.length = ds.length)
    (hbind : ∀ vs : List Value, vs.length = ps.length → bindArgs fd ⟨vs, []⟩ = pure (ps.zip vs))
    (h : SEX G n fd.scope (ps.zip ds) mh body X Q) : FN G (n + 1) (.ref f) ds mh X Q :=
  FN_of GO F hb hco hgen hk hcn hkind hnd hlen (fun M s vs u₀ V => ⟨vs, .of_eq (hbind vs (V.length.trans hlen.symm)), V⟩) h

theorem wp_args {f : Value} {e : Expr} {args : List Expr} {pos : Pos} {Q : List D → MH → Prop} {P : Args → Shared → Prop} (hplain : ∀ env, starEach (e :: args) env = (false, eval e env) :: starEach args env) (h : EVs G C loc mh (e :: args) X Q)
    (R : Rep G C loc tmp (mh ++ hid) s) (k : ∀ vs s' ds m, Rep G C loc tmp (m ++ hid) s' → VDs s'.heap (MM C (m ++ hid)) vs ds → Q ds m → P ⟨vs, []⟩ s') :
    wpAny (Mo G) C.A (evalArgs f true (backTo pos (starEach (e :: args) C.env)) []) P (EErr G C hid X) s := by
  have h := h.go (pos := pos) R k
  rw [hplain] at h ⊢
  exact Calls.evalArgs_plain h
theorem wp_callFN {n : Nat} {f : Value} {ds : List D} {vs : List Value} {X : Addr → Loc → MH → Prop} (CN : Can G C n) (h : FN G n f ds mh (fun c m => X c loc m) Q) (R : Rep G C loc tmp (mh ++ hid) s) (V : VDs s.heap (MM C (mh ++ hid)) vs ds) :
    wpAny (Mo G) C.A (call f vs []) (EVq G C loc tmp hid Q) (EErr G C hid X) s :=
  wpAny_call (codeAny_mono (h C loc tmp hid s vs CN R V) fun r s' q => by
    cases r with
    | ok f => cases f with
      | ret v => exact q
      | _ => exact q
    | error v => exact EErr.mono (fun c l m hq2 => by obtain ⟨e, z⟩ := hq2; exact e ▸ z) q)
theorem EV_call {n : Nat} {x : Str} {px pos : Pos} {e : Expr} {args : List Expr} {f : Addr} {fd : FuncData} (GO : G.Ok) (CN : Can G C n) (hk : C.env.kindOf x = some .globalImplicit) (hg : G.mg x = some (.ref f)) (hf : FnAt G f fd)
    (h : EVs G C loc mh (e :: args) X fun ds m => FN G n (.ref f) ds m (fun c m => X c loc m) Q) (hd : (x == ("__debug__" : Str)) = false := by decide) (hplain : ∀ env, starEach (e :: args) env = (false, eval e env) :: starEach args env := by intro _; rfl) :
    EV G C loc mh (.Call (.Name x px) (e :: args) [] pos) X Q := fun tmp hid s R =>
  hf.obj.elim fun o ⟨ho, hdt⟩ => wpAny_Call_NameR (glob_at GO hk hg hd R
    (Calls.callWith_function (o := o) (fd := fd) (wp_args hplain h R fun vs s2 ds m a2 a3 a4 => ⟨⟨a2.base _ _ ho, hdt⟩, wp_callFN CN a4 a2 a3⟩)))
theorem EV_call0 {n : Nat} {x : Str} {px pos : Pos} {f : Addr} {fd : FuncData} (GO : G.Ok) (CN : Can G C n) (hk : C.env.kindOf x = some .globalImplicit) (hg : G.mg x = some (.ref f)) (hf : FnAt G f fd)
    (h : FN G n (.ref f) [] mh (fun c m => X c loc m) Q) (hd : (x == ("__debug__" : Str)) = false := by decide) :
    EV G C loc mh (.Call (.Name x px) [] [] pos) X Q := fun tmp hid s R =>
  hf.obj.elim fun o ⟨ho, hdt⟩ => wpAny_Call_NameR (glob_at GO hk hg hd R
    (Calls.callWith_function (o := o) (fd := fd) (PySem.evalArgs_none ⟨⟨R.base _ _ ho, hdt⟩, wp_callFN CN h R .nil⟩)))

end

section
set_option tactic.hygienic false
open PySem PySem.W PyProof.Rows
variable {G : Glb} {C C' : Cx} {loc loc' : Loc} {tmp tmp' : Tmp} {mh hid l l' : MH} {s s' s₁ : Shared}
variable {X : Addr → Loc → MH → Prop} {Q : D → MH → Prop} {Rt : D → MH → Prop} {N : Loc → MH → Prop}

section sInts
variable {a b : Int} {P : D → Prop} {PB : Bool → Prop}
theorem OP_floordiv (hb : b ≠ 0) (hp : b.natAbs.log2 < 9000) (h : P (.int (a.fdiv b))) : OP G C .FloorDiv (.int a) (.int b) mh P := fun loc tmp hid s v1 v2 X R x y => two_ints (p := fun v1 v2 => wpAny _ _ (binaryOp _ v1 v2) _ _ _) x y fun u₀ u₀ =>
  PyProof.Rows.floordiv_int hb ⟨_, (R.toks _).push (.dat (.int _ _)), h⟩ (.inl (PyProof.noPylong_of_log2 hp))
theorem OP_mod (hb : b ≠ 0) (h : P (.int (a.fmod b))) : OP G C .Mod (.int a) (.int b) mh P := fun loc tmp hid s v1 v2 X R x y => two_ints (p := fun v1 v2 => wpAny _ _ (binaryOp _ v1 v2) _ _ _) x y fun u₀ u₀ =>
  PyProof.Rows.mod_int' hb ⟨_, (R.toks _).push (.dat (.int _ _)), h⟩
theorem OP_pow (hn : 0 ≤ b) (hs : (Builtin.Int.intBits a : Int) * b ≤ 2 ^ 27) (h : P (.int (a ^ b.toNat))) : OP G C .Pow (.int a) (.int b) mh P := fun loc tmp hid s v1 v2 X R x y => two_ints (p := fun v1 v2 => wpAny _ _ (binaryOp _ v1 v2) _ _ _) x y fun u₀ u₀ =>
  PyProof.Rows.pow_int hn hs ⟨_, (R.toks _).push (.dat (.int _ _)), h⟩
theorem OP_lshift (hn : 0 ≤ b) (hn2 : b ≤ 1000000) (ha : a.natAbs < 2 ^ 64) (h : P (.int (a * 2 ^ b.toNat))) : OP G C .LShift (.int a) (.int b) mh P := fun loc tmp hid s v1 v2 X R x y => two_ints (p := fun v1 v2 => wpAny _ _ (binaryOp _ v1 v2) _ _ _) x y fun u₀ u₀ =>
  PyProof.Rows.lshift_int_small hn hn2 ha ⟨_, (R.toks _).push (.dat (.int _ _)), h⟩
theorem OP_rshift (hn : 0 ≤ b) (h : P (.int (a.fdiv (2 ^ b.toNat)))) : OP G C .RShift (.int a) (.int b) mh P := fun loc tmp hid s v1 v2 X R x y => two_ints (p := fun v1 v2 => wpAny _ _ (binaryOp _ v1 v2) _ _ _) x y fun u₀ u₀ =>
  PyProof.Rows.rshift_int hn ⟨_, (R.toks _).push (.dat (.int _ _)), h⟩
theorem OP_and (h : P (.int (Builtin.bitAnd a b))) : OP G C .BitAnd (.int a) (.int b) mh P := fun loc tmp hid s v1 v2 X R x y => two_ints (p := fun v1 v2 => wpAny _ _ (binaryOp _ v1 v2) _ _ _) x y fun u₀ u₀ =>
  PyProof.Rows.and_int ⟨_, (R.toks _).push (.dat (.int _ _)), h⟩
theorem OP_or (h : P (.int (Builtin.bitOr a b))) : OP G C .BitOr (.int a) (.int b) mh P := fun loc tmp hid s v1 v2 X R x y => two_ints (p := fun v1 v2 => wpAny _ _ (binaryOp _ v1 v2) _ _ _) x y fun u₀ u₀ =>
  PyProof.Rows.or_int ⟨_, (R.toks _).push (.dat (.int _ _)), h⟩
theorem CMP_lt (h : PB (decide (a < b))) : CMP G C .Lt (.int a) (.int b) mh PB := fun loc tmp hid s v1 v2 X R x y => two_ints (p := fun v1 v2 => wpAny _ _ (compareOp _ v1 v2) _ _ _) x y fun u₀ u₀ => PyProof.Rows.lt_int ⟨_, rfl, R, h⟩
theorem CMP_le (h : PB (decide (a ≤ b))) : CMP G C .LtE (.int a) (.int b) mh PB := fun loc tmp hid s v1 v2 X R x y => two_ints (p := fun v1 v2 => wpAny _ _ (compareOp _ v1 v2) _ _ _) x y fun u₀ u₀ => PyProof.Rows.le_int ⟨_, rfl, R, h⟩
theorem CMP_gt (h : PB (decide (b < a))) : CMP G C .Gt (.int a) (.int b) mh PB := fun loc tmp hid s v1 v2 X R x y => two_ints (p := fun v1 v2 => wpAny _ _ (compareOp _ v1 v2) _ _ _) x y fun u₀ u₀ => PyProof.Rows.gt_int ⟨_, rfl, R, h⟩
theorem CMP_ge (h : PB (decide (b ≤ a))) : CMP G C .GtE (.int a) (.int b) mh PB := fun loc tmp hid s v1 v2 X R x y => two_ints (p := fun v1 v2 => wpAny _ _ (compareOp _ v1 v2) _ _ _) x y fun u₀ u₀ => PyProof.Rows.ge_int ⟨_, rfl, R, h⟩
theorem CMP_eq (h : PB (a == b)) : CMP G C .Eq (.int a) (.int b) mh PB := fun loc tmp hid s v1 v2 X R x y => two_ints (p := fun v1 v2 => wpAny _ _ (compareOp _ v1 v2) _ _ _) x y fun u₀ u₀ => PyProof.Rows.eq_int ⟨_, rfl, R, h⟩
theorem CMP_ne (h : PB (a != b)) : CMP G C .NotEq (.int a) (.int b) mh PB := fun loc tmp hid s v1 v2 X R x y => two_ints (p := fun v1 v2 => wpAny _ _ (compareOp _ v1 v2) _ _ _) x y fun u₀ u₀ => PyProof.Rows.ne_int ⟨_, rfl, R, h⟩
theorem CMP_neb {c d : Bool} (h : PB (c != d)) : CMP G C .NotEq (.bool c) (.bool d) mh PB := fun loc tmp hid s v1 v2 X R x y => by
  have := x.bool_inv; subst this; have := y.bool_inv; subst this
  exact PyProof.Rows.ne_bool ⟨_, rfl, R, h⟩
theorem CMP_is {d : D} {c : Bool} (hd : ∀ h M v, VD h M v d → (v == Value.none) = c) (h : PB c) : CMP G C .Is d .none mh PB := fun loc tmp hid s v1 v2 X R x y => by
  have := y.none_inv; subst this
  exact is_none ⟨_, rfl, R, (hd _ _ _ x).symm ▸ h⟩
theorem CMP_isnot {d : D} {c : Bool} (hd : ∀ h M v, VD h M v d → (v == Value.none) = c) (h : PB (!c)) : CMP G C .IsNot d .none mh PB := fun loc tmp hid s v1 v2 X R x y => by
  have := y.none_inv; subst this
  exact isNot_none ⟨_, rfl, R, (hd _ _ _ x).symm ▸ h⟩
theorem none_none {h : Heap} {M : List Addr} {v : Value} (x : VD h M v .none) : (v == Value.none) = true := by rw [x.none_inv]; rfl
theorem none_bytes {h : Heap} {M : List Addr} {v : Value} {l : List UInt8} (x : VD h M v (.bytes l)) : (v == Value.none) = false := by obtain ⟨t, rfl⟩ := x.bytes_inv; rfl

theorem CMP_nebs {b c : List UInt8} (h : PB (b != c)) : CMP G C .NotEq (.bytes b) (.bytes c) mh PB := fun loc tmp hid s v1 v2 X R x y => by
  obtain ⟨t, rfl⟩ := x.bytes_inv; obtain ⟨u, rfl⟩ := y.bytes_inv
  exact ne_bytes ⟨_, rfl, R, h⟩
theorem CMP_eqd {n : Nat} {d e : PyData} (CN : Can G C n) (hd : d.canLay0 = true) (he : e.canLay0 = true) (hu : min d.depth e.depth ≤ 64) (h : PB (PyData.eqv d e)) : CMP G C .Eq (.dat d) (.dat e) mh PB := fun loc tmp hid s v1 v2 X R x y => by
  cases x with | dat x => cases y with | dat y =>
  obtain ⟨_, r⟩ := x.reads; obtain ⟨_, q⟩ := y.reads
  have := CN.room.2
  exact PySem.SeqAt.compareEq_reads r q hd he (by show _ < 9900; lia) ⟨_, rfl, R, h⟩
theorem CMP_ned {n : Nat} {d e : PyData} (CN : Can G C n) (hd : d.canLay0 = true) (he : e.canLay0 = true) (hu : min d.depth e.depth ≤ 64) (h : PB (!PyData.eqv d e)) : CMP G C .NotEq (.dat d) (.dat e) mh PB := fun loc tmp hid s v1 v2 X R x y => by
  cases x with | dat x => cases y with | dat y =>
  obtain ⟨_, r⟩ := x.reads; obtain ⟨_, q⟩ := y.reads
  have := CN.room.2
  exact PySem.SeqAt.compareNe_reads r q hd he (by show _ < 9900; lia) ⟨_, rfl, R, h⟩
theorem CMP_notin_tuple {n : Nat} {d : PyData} {xs : List PyData} (CN : Can G C n) (hxs : PyData.canLayAll0 xs = true) (hd : d.canLay0 = true) (hu : min (PyData.depthAll xs) d.depth ≤ 64) (h : PB (!xs.any fun y => PyData.eqv y d)) : CMP G C .NotIn (.dat d) (.dat (.tuple xs)) mh PB := fun loc tmp hid s v1 v2 X R x y => by
  cases x with | dat x => cases y with | dat y =>
  obtain ⟨_, r⟩ := x.reads; obtain ⟨_, q⟩ := y.reads
  have := CN.room.2
  exact PySem.SeqAt.notIn_tuple_reads q r hxs hd (by show _ < 9900; lia) ⟨_, rfl, R, h⟩
theorem CMP_notin_list {n : Nat} {d : PyData} {xs : List PyData} (CN : Can G C n) (hxs : PyData.canLayAll0 xs = true) (hd : d.canLay0 = true) (hu : min (PyData.depthAll xs) d.depth ≤ 64) (h : PB (!xs.any fun y => PyData.eqv y d)) : CMP G C .NotIn (.dat d) (.dat (.list xs)) mh PB := fun loc tmp hid s v1 v2 X R x y => by
  cases x with | dat x => cases y with | dat y =>
  obtain ⟨_, r⟩ := x.reads; obtain ⟨_, q⟩ := y.reads
  have := CN.room.2
  exact PySem.SeqAt.notIn_list_reads q r hxs hd (by show _ < 9900; lia) ⟨_, rfl, R, h⟩
end sInts

theorem EV_neg {x : Expr} {pos : Pos} (h : EV G C loc mh x X fun d m => ∃ i, d = .int i ∧ Q (.int (-i)) m) : EV G C loc mh (.UnaryOp .USub x pos) X Q := fun tmp hid s R =>
  wpAny_UnaryOp (h.go R (fun v s1 d m R1 hq1 => by
    obtain ⟨i, e, q⟩ := hq1
    subst e; obtain ⟨t, e⟩ := R1.top.int_inv; dsimp only at e; subst e
    exact PyProof.Rows.neg_int ⟨_, m, (R1.pop.toks _).push (.dat (.int _ _)), q⟩))
noncomputable def TC (G : Glb) (C : Cx) (loc : Loc) (mh : MH) (d1 : D) (ops : List CmpOp) (rs : List Expr) (X : Addr → Loc → MH → Prop) (Q : Bool → MH → Prop) : Prop :=
  ∀ tmp hid s pos v1, Rep G C loc tmp (mh ++ hid) s → (v1, d1) ∈ tmp → wpAny (Mo G) C.A (testChain pos v1 ops (evalEach rs C.env)) (TTq G C loc tmp hid Q) (EErr G C hid X) s
theorem TC.go {d1 : D} {ops : List CmpOp} {rs : List Expr} {Q : Bool → MH → Prop} {pos : Pos} {v1 : Value} (h : TC G C loc mh d1 ops rs X Q) (R : Rep G C loc ((v1, d1) :: tmp) (mh ++ hid) s) :
    wpAny (Mo G) C.A (testChain pos v1 ops (evalEach rs C.env)) (TTq G C loc tmp hid Q) (EErr G C hid X) s :=
  wpAny_mono (h _ hid s pos v1 R (.head _)) (fun b s4 q => by cases q with | mk m R4 q => exact ⟨m, R4.pop, q⟩) fun u₀ u₀ x => x
theorem TC_one {d1 : D} {op : CmpOp} {r : Expr} {Q : Bool → MH → Prop} (h : EV G C loc mh r X fun d2 m => CMP G C op d1 d2 m fun b => Q b m) : TC G C loc mh d1 [op] [r] X Q := fun tmp hid s pos v1 R hv =>
  test_last (h.go R (fun v2 s2 d2 m2 R2 h2 => h2.go R2.pop (R2.tmp _ (.tail _ hv)) R2.top (fun v s3 b e R3 q => by subst e; exact wpAny_truthy_bool ⟨m2, R3, q⟩)))
theorem TC_link {d1 : D} {op op' : CmpOp} {ops : List CmpOp} {r r' : Expr} {rs : List Expr} {Q : Bool → MH → Prop} (h : EV G C loc mh r X fun d2 m => CMP G C op d1 d2 m fun b => (b = true → TC G C loc m d2 (op' :: ops) (r' :: rs) X Q) ∧ (b = false → Q false m)) :
    TC G C loc mh d1 (op :: op' :: ops) (r :: r' :: rs) X Q := fun tmp hid s pos v1 R hv =>
  test_link (h.go R (fun v2 s2 d2 m2 R2 h2 => h2.go R2 (R2.tmp _ (.tail _ hv)) R2.top (fun v s3 b e R3 ⟨q1, q2⟩ => by
    subst e
    refine wpAny_truthy_bool ?_
    cases b with
    | true => exact (q1 rfl).go R3
    | false => exact ⟨m2, R3.pop, q2 rfl⟩)))
theorem TT_chain {l : Expr} {op₁ op₂ : CmpOp} {ops : List CmpOp} {r₁ r₂ : Expr} {rs : List Expr} {pos : Pos} {Q : Bool → MH → Prop} (h : EV G C loc mh l X fun d1 m => TC G C loc m d1 (op₁ :: op₂ :: ops) (r₁ :: r₂ :: rs) X Q)
    (hm : lastMarks (op₁ :: op₂ :: ops) (r₁ :: r₂ :: rs) = false := by with_unfolding_all rfl) (he : ∀ env, evalEach (r₁ :: r₂ :: rs) env = eval r₁ env :: eval r₂ env :: evalEach rs env := by intro _; rfl) : TT G C loc mh (.Compare l (op₁ :: op₂ :: ops) (r₁ :: r₂ :: rs) pos) X Q := fun tmp hid s R =>
  isTrue_chain (h.go R (fun v1 s1 d1 m1 R1 h1 => he C.env ▸ h1.go R1)) hm

noncomputable def AT (G : Glb) (C : Cx) (loc : Loc) (mh : MH) (op : BoolOp) (es : List Expr) (X : Addr → Loc → MH → Prop) (Q : Bool → MH → Prop) : Prop :=
  ∀ tmp hid s, Rep G C loc tmp (mh ++ hid) s → wpAny (Mo G) C.A (allTrue op es C.env) (TTq G C loc tmp hid Q) (EErr G C hid X) s
theorem AT_and_nil {Q : Bool → MH → Prop} (h : Q true mh) : AT G C loc mh .And [] X Q := fun tmp hid s R => wpAny_allTrue_And_nil ⟨mh, R, h⟩
theorem AT_or_nil {Q : Bool → MH → Prop} (h : Q false mh) : AT G C loc mh .Or [] X Q := fun tmp hid s R => wpAny_allTrue_Or_nil ⟨mh, R, h⟩
theorem AT_and {x : Expr} {r : List Expr} {Q : Bool → MH → Prop} (h : TT G C loc mh x X fun b m => (b = true → AT G C loc m .And r X Q) ∧ (b = false → Q false m)) : AT G C loc mh .And (x :: r) X Q := fun tmp hid s R =>
  wpAny_allTrue_And_cons (h.go R (fun b s1 m R1 hq3 => by
    obtain ⟨h1, h2⟩ := hq3
    cases b with
    | true => exact h1 rfl tmp hid s1 R1
    | false => exact ⟨m, R1, h2 rfl⟩))
theorem AT_or {x : Expr} {r : List Expr} {Q : Bool → MH → Prop} (h : TT G C loc mh x X fun b m => (b = true → Q true m) ∧ (b = false → AT G C loc m .Or r X Q)) : AT G C loc mh .Or (x :: r) X Q := fun tmp hid s R =>
  wpAny_allTrue_Or_cons (h.go R (fun b s1 m R1 hq4 => by
    obtain ⟨h1, h2⟩ := hq4
    cases b with
    | true => exact ⟨m, R1, h1 rfl⟩
    | false => exact h2 rfl tmp hid s1 R1))
theorem TT_bool {op : BoolOp} {es : List Expr} {pos : Pos} {Q : Bool → MH → Prop} (h : AT G C loc mh op es X Q) : TT G C loc mh (.BoolOp op es pos) X Q := fun tmp hid s R => wpAny_isTrue_BoolOp (h tmp hid s R)
theorem Rep.notin (R : Rep G C loc tmp mh s) : ¬ s.heap.objs.size ∈ MM C mh := fun z => by
  rcases List.mem_append.mp z with z | z
  · obtain ⟨o, e, _⟩ := R.there _ z; exact absurd (lt_of_get e) (Nat.lt_irrefl _)
  · exact absurd (R.lt z) (Nat.lt_irrefl _)
theorem Rep.newList (R : Rep G C loc tmp mh s) {vs : Array Value} {xs : List PyData} (F : FVs s.heap (MM C mh) vs.toList xs) (k : Nat) :
    Rep G C loc ((.ref s.heap.objs.size, .dat (.list xs)) :: tmp) mh { s with heap := s.heap.push { cls := .type "list", data := .seq vs }, toks := k } :=
  (R.alloc _ _).push (.dat (.list R.notin (Heap.get?_push_size _ rfl) rfl rfl (F.mono (.of (fun b o u₀ e => Heap.get?_push_of_some _ e) fun u₀ h => .inl h))))
theorem Rep.newTuple (R : Rep G C loc tmp mh s) {vs : Array Value} {xs : List PyData} (F : FVs s.heap (MM C mh) vs.toList xs) (k : Nat) :
    Rep G C loc ((.ref s.heap.objs.size, .dat (.tuple xs)) :: tmp) mh { s with heap := s.heap.push { cls := .type "tuple", data := .seq vs }, toks := k } :=
  (R.alloc _ _).push (.dat (.tuple R.notin (Heap.get?_push_size _ rfl) rfl rfl (F.mono (.of (fun b o u₀ e => Heap.get?_push_of_some _ e) fun u₀ h => .inl h))))

inductive DatL (ds : List D) (Q : List PyData → Prop) : Prop
  | mk (h : ds.length ≤ sizeLine) (xs : List PyData) (e : ds = xs.map .dat) (q : Q xs)
theorem EV_tuple {es : List Expr} {k : Nat} {pos : Pos} (h : EVs G C loc mh es X fun ds m => DatL ds fun xs => Q (.dat (.tuple xs)) m) : EV G C loc mh (.Tuple es k pos) X Q := fun tmp hid s R =>
  PySem.wpAny_Tuple (h.go R (fun vs s1 ds m R1 V hq6 => by
    refine absP fun P₀ hP₀ => ?_
    obtain ⟨hl, xs, e, q⟩ := hq6
    refine hP₀ ?_; clear hP₀ P₀
    subst e
    exact ⟨V.length ▸ hl, .dat (.tuple xs), m, R1.newTuple V.toFVs _, q⟩))
theorem EV_list_dat {es : List Expr} {pos : Pos} (h : EVs G C loc mh es X fun ds m => DatL ds fun xs => Q (.dat (.list xs)) m) : EV G C loc mh (.List es pos) X Q := fun tmp hid s R =>
  PySem.wpAny_List (h.go R (fun vs s1 ds m R1 V hq7 => by
    refine absP fun P₀ hP₀ => ?_
    obtain ⟨hl, xs, e, q⟩ := hq7
    refine hP₀ ?_; clear hP₀ P₀
    subst e
    exact ⟨V.length ▸ hl, .dat (.list xs), m, R1.newList V.toFVs _, q⟩))
end

section
set_option tactic.hygienic false
open PySem PySem.W PyProof.Rows
variable {G : Glb} {C C' : Cx} {loc loc' : Loc} {tmp tmp' : Tmp} {mh hid l l' : MH} {s s' s₁ : Shared}
variable {X : Addr → Loc → MH → Prop} {Q : D → MH → Prop} {Rt : D → MH → Prop} {N : Loc → MH → Prop}

theorem OPq.ev {m : MH} {v : Value} {s : Shared} (q : OPq G C loc tmp (m ++ hid) (fun d => Q d m) v s) : EVq G C loc tmp hid Q v s := by cases q with | mk d R q => exact ⟨d, m, R, q⟩
noncomputable def ITM (G : Glb) (C : Cx) (d1 d2 : D) (mh : MH) (P : D → Prop) : Prop :=
  ∀ loc tmp hid s v1 v2 X, Rep G C loc tmp (mh ++ hid) s → VD s.heap (MM C (mh ++ hid)) v1 d1 → VD s.heap (MM C (mh ++ hid)) v2 d2 →
    ∃ (T id : String), typeLookup (.type T) "__getitem__" = pure (some (.builtin id)) ∧ s.TypeIs v1 T ∧ wpAny (Mo G) C.A (getItem v1 v2) (OPq G C loc tmp (mh ++ hid) P) (EErr G C hid X) s
theorem FVs.getA {h : Heap} {M : List Addr} {vs : Array Value} {xs : List PyData} (x : FVs h M vs.toList xs) {i : Nat} {d : PyData} (e : xs[i]? = some d) : ∃ v, vs[i]? = some v ∧ FV h M v d := by
  obtain ⟨v, a, b⟩ := x.get e; exact ⟨v, by simpa using a, b⟩
theorem ITM_list_dat {xs : List PyData} {k : Int} {x : PyData} {P : D → Prop} (h0 : 0 ≤ k) (hf : k < 2 ^ 63) (hx : xs[k.toNat]? = some x) (h : P (.dat x)) : ITM G C (.dat (.list xs)) (.int k) mh P := fun loc tmp hid s v1 v2 X R x1 x2 => by
  obtain ⟨t, rfl⟩ := x2.int_inv
  cases x1 with | dat y => cases y with | list n e c d f =>
  obtain ⟨v, a, b⟩ := f.getA hx
  have hl : s.heap.IsList _ _ := ⟨_, e, c, _, d⟩
  exact ⟨"list", _, slot_list_getitem.lookup, hl.typeIs, wpAny_getItem_list hl h0 hf a ⟨_, R.push (.dat b), h⟩⟩
theorem ITM_tuple {xs : List PyData} {k : Int} {x : PyData} {P : D → Prop} (h0 : 0 ≤ k) (hf : k < 2 ^ 63) (hx : xs[k.toNat]? = some x) (h : P (.dat x)) : ITM G C (.dat (.tuple xs)) (.int k) mh P := fun loc tmp hid s v1 v2 X R x1 x2 => by
  obtain ⟨t, rfl⟩ := x2.int_inv
  cases x1 with | dat y => cases y with | tuple n e c d f =>
  obtain ⟨v, a, b⟩ := f.getA hx
  have hl : IsTup s.heap _ _ := ⟨_, e, c, _, d⟩
  have hz := f.length; rw [Array.length_toList] at hz
  have hk : k.toNat < xs.length := (List.getElem?_eq_some_iff.mp hx).1
  exact ⟨"tuple", _, slot_tuple_getitem.lookup, hl.typeIs, PyProof.Rows.getItem_tuple hl (by lia) hf (j := k.toNat) (by simp [seqIndex?, show ¬ k < 0 by lia, h0]; lia) a ⟨_, R.push (.dat b), h⟩⟩
theorem ITM_bytes {l : List UInt8} {k : Int} {P : D → Prop} (hfit : l.length ≤ 1099511627776) (h0 : 0 ≤ k) (h1 : k < l.length) (h : P (.int (l.getD k.toNat 0).toNat)) : ITM G C (.bytes l) (.int k) mh P := fun loc tmp hid s v1 v2 X R x1 x2 => by
  obtain ⟨t, rfl⟩ := x2.int_inv
  obtain ⟨u, rfl⟩ := x1.bytes_inv
  exact ⟨"bytes", _, FB.slot_bytes_getitem.lookup, typeIs_bytes _ _ _, getItem_bytes hfit h0 h1 ⟨_, (R.toks _).push (.dat (.int _ _)), h⟩⟩
noncomputable def LM (mh : MH) (a : Addr) (ds : List D) : Prop := (a, AO.list ds) ∈ mh ∨ (a, AO.app ds) ∈ mh
theorem Rep.list (R : Rep G C loc tmp (mh ++ hid) s) {a : Addr} {ds : List D} (hm : LM mh a ds) : ∃ vs, s.heap.IsList a vs ∧ VDs s.heap (MM C (mh ++ hid)) vs.toList ds :=
  hm.elim (fun hm => R.obs _ (List.mem_append_left _ hm)) fun hm => by
    refine absP fun P₀ hP₀ => ?_
    obtain ⟨vs, n, e, V⟩ := R.obs _ (List.mem_append_left _ hm)
    refine hP₀ ?_; clear hP₀ P₀
    exact ⟨vs, ⟨_, e, rfl, _, rfl⟩, V⟩
theorem VDs.getA {h : Heap} {M : List Addr} {vs : Array Value} {xs : List D} (x : VDs h M vs.toList xs) {i : Nat} {d : D} (e : xs[i]? = some d) : ∃ v, vs[i]? = some v ∧ VD h M v d := by
  obtain ⟨v, a, b⟩ := x.get e; exact ⟨v, by simpa using a, b⟩
theorem ITM_list {a : Addr} {ds : List D} {k : Int} {x : D} {P : D → Prop} (hm : LM mh a ds) (h0 : 0 ≤ k) (hf : k < 2 ^ 63) (hx : ds[k.toNat]? = some x) (h : P x) : ITM G C (.ptr a) (.int k) mh P := fun loc tmp hid s v1 v2 X R x1 x2 => by
  obtain ⟨t, rfl⟩ := x2.int_inv
  have := x1.ptr_inv; subst this
  obtain ⟨vs, hl, V⟩ := R.list hm
  obtain ⟨v, a1, b⟩ := V.getA hx
  exact ⟨"list", _, slot_list_getitem.lookup, hl.typeIs, wpAny_getItem_list hl h0 hf a1 ⟨_, R.push b, h⟩⟩
theorem ITM_listn {a : Addr} {ds : List D} {k : Int} {x : D} {P : D → Prop} (hm : LM mh a ds) (h0 : k < 0) (h1 : -(ds.length : Int) ≤ k) (hf : -(2 ^ 63) ≤ k) (hx : ds[(k + ds.length).toNat]? = some x) (h : P x) : ITM G C (.ptr a) (.int k) mh P := fun loc tmp hid s v1 v2 X R x1 x2 => by
  obtain ⟨t, rfl⟩ := x2.int_inv
  have := x1.ptr_inv; subst this
  obtain ⟨vs, hl, V⟩ := R.list hm
  obtain ⟨v, a1, b⟩ := V.getA hx
  have hz := V.length; rw [Array.length_toList] at hz
  exact ⟨"list", _, slot_list_getitem.lookup, hl.typeIs, wpAny_getItem_list_neg hl h0 (by rw [hz]; exact h1) hf (by rw [hz]; exact a1) ⟨_, R.push b, h⟩⟩

inductive EVpq (G : Glb) (C : Cx) (loc : Loc) (tmp : Tmp) (hid : MH) (Q : Option Int → MH → Prop) (v : Value) (s' : Shared) : Prop
  | mk (p : Option Int) (mh' : MH) (i : IsPart v p) (R : Rep G C loc tmp (mh' ++ hid) s') (q : Q p mh')
noncomputable def EVp (G : Glb) (C : Cx) (loc : Loc) (mh : MH) (x : Option Expr) (X : Addr → Loc → MH → Prop) (Q : Option Int → MH → Prop) : Prop :=
  ∀ tmp hid s, Rep G C loc tmp (mh ++ hid) s → wpAny (Mo G) C.A (evalPart x C.env) (EVpq G C loc tmp hid Q) (EErr G C hid X) s
theorem EVp.go {x : Option Expr} {Q : Option Int → MH → Prop} {P : Value → Shared → Prop} (h : EVp G C loc mh x X Q) (R : Rep G C loc tmp (mh ++ hid) s) (k : ∀ v s' p m, IsPart v p → Rep G C loc tmp (m ++ hid) s' → Q p m → P v s') :
    wpAny (Mo G) C.A (evalPart x C.env) P (EErr G C hid X) s := wpAny_mono (h tmp hid s R) (fun v s' q => by cases q with | mk p m i a b => exact k v s' p m i a b) fun u₀ u₀ x => x
theorem EVp_none {Q : Option Int → MH → Prop} (h : Q none mh) : EVp G C loc mh none X Q := fun tmp hid s R => by rw [evalPart_none]; exact wpAny_pure ⟨none, mh, .none, R, h⟩
theorem EVp_some {e : Expr} {Q : Option Int → MH → Prop} (h : EV G C loc mh e X fun d m => ∃ i, d = .int i ∧ Q (some i) m) : EVp G C loc mh (some e) X Q := fun tmp hid s R => by
  rw [evalPart_some]
  exact h.go R (fun v s1 d m R1 hq1 => by obtain ⟨i, e, q⟩ := hq1; subst e; obtain ⟨t, e⟩ := R1.top.int_inv; dsimp only at e; subst e; exact ⟨some i, m, .int _ _, R1.pop, q⟩)
noncomputable def SLC (G : Glb) (C : Cx) (d : D) (lo hi : Option Int) (mh : MH) (P : D → Prop) : Prop :=
  ∀ loc tmp hid s v sl vl vu X, Rep G C loc tmp (mh ++ hid) s → VD s.heap (MM C (mh ++ hid)) v d → s.heap.IsSliceOf sl vl vu .none → IsPart vl lo → IsPart vu hi →
    ∃ (T id : String), typeLookup (.type T) "__getitem__" = pure (some (.builtin id)) ∧ s.TypeIs v T ∧ wpAny (Mo G) C.A (getItem v (.ref sl)) (OPq G C loc tmp (mh ++ hid) P) (EErr G C hid X) s
noncomputable def cut {α : Type} (l : List α) (lo hi : Option Int) : List α := (l.drop (lo.elim 0 (clipAt l.length))).take (hi.elim l.length (clipAt l.length) - lo.elim 0 (clipAt l.length))
theorem SLC_bytes {l : List UInt8} {lo hi : Option Int} {P : D → Prop} (hz : l.length ≤ 16777216) (h : P (.bytes (cut l lo hi))) : SLC G C (.bytes l) lo hi mh P := fun loc tmp hid s v sl vl vu X R x hs pl pu => by
  obtain ⟨t, rfl⟩ := x.bytes_inv
  refine ⟨"bytes", _, FB.slot_bytes_getitem.lookup, typeIs_bytes _ _ _, getItem_meets (typeIs_bytes _ _ _) (by decide) FB.slot_bytes_getitem FB.entry_bytes_getitem (FB.args_bytes_getitem_2 _ _) (KBc.meets_slice2 l.toArray t _ pl pu) ⟨hs, Nat.le_trans (KBc.size_picked_le _ _ _) (by rw [sizeLine_eq]; simpa using hz), fun t' k => ?_⟩⟩
  have e : KBy.picked l.toArray lo hi = (cut l lo hi).toArray := by rw [KBc.picked_eq]; simp [cut]
  rw [e]
  exact ⟨_, (R.toks _).push (.bytes _ _), h⟩
theorem SLC_list {xs : List PyData} {lo hi : Option Int} {P : D → Prop} (hz : xs.length ≤ 16777216) (h : P (.dat (.list (cut xs lo hi)))) : SLC G C (.dat (.list xs)) lo hi mh P := fun loc tmp hid s v sl vl vu X R x hs pl pu => by
  cases x with | dat y => cases y with | @list _ _ vs _ _ n e c d f =>
  have hl : s.heap.IsList _ _ := ⟨_, e, c, _, d⟩
  have hz' := f.length; rw [Array.length_toList] at hz'
  refine ⟨"list", _, slot_list_getitem.lookup, hl.typeIs, wpAny_getItem_list_slice hl hs pl pu .none (by simp) ⟨_, R.newList (xs := cut xs lo hi) ?_ _, h⟩ (by rw [hz', sizeLine_eq]; exact hz)⟩
  rw [slicePick_plain]
  unfold cut
  rw [← hz']
  exact (f.drop _).take _

end

section
set_option tactic.hygienic false
open PySem PySem.W PyProof.Rows
variable {G : Glb} {C C' : Cx} {loc loc' : Loc} {tmp tmp' : Tmp} {mh hid l l' : MH} {s s' s₁ : Shared}
variable {X : Addr → Loc → MH → Prop} {Q : D → MH → Prop} {Rt : D → MH → Prop} {N : Loc → MH → Prop}

theorem Rep.dropAll : ∀ {l r : MH}, Rep G C loc tmp (l ++ r) s → Rep G C loc tmp r s
  | [], _, R => R
  | _ :: l, _, R => Rep.dropAll (l := l) R.drop

theorem err_noted {n : Nat} (CN : Can G C n) {sc : Scope} (I : Is C sc) {e : Value} {E : Value → Shared → Prop} (x : EErr G C hid X e s) (h : ∀ e c t loc' mh' s', Rep G C loc' [] (((e, .exc c (some t)) :: mh') ++ hid) s' → X c loc' mh' → E (.ref e) s') :
    notedBy (Mo G) C.A C.env E e s := by
  obtain ⟨e, c, T, l, m, rfl, R, hx⟩ := x
  exact wp_noteFrame CN.frames I.fr I.fm R fun t s1 R1 => h e c t l m s1 R1 hx

theorem SX_while {n : Nat} {sc : Scope} {σ : Type} {test : Expr} {body : List Stmt} {pos : Pos} (CN : Can G C n) (I : Is C sc) (μ : σ → Nat) (J : σ → Loc → MH → Prop) (a : σ) (h0 : J a loc mh)
    (turn : ∀ a loc m, J a loc m → TT G C loc m test X fun b m1 => (b = true → EX G C loc m1 body X Rt fun l' m' => ∃ a', μ a' < μ a ∧ J a' l' m') ∧ (b = false → N loc m1)) :
    SX G C loc mh (.While test body [] pos) X Rt N := fun tmp hid s R => by
  let Rr : Result → Shared → Prop := fun r s' => match r with | .ok f => FPost G C tmp hid N Rt f s' | .error e => cameBackBy (Mo G) C.A C.env (EErr G C hid X) e s'
  have back : ∀ e s', EErr G C hid X e s' → notedBy (Mo G) C.A C.env (fun e s' => Rr (.error e) s') e s' := fun e s' x =>
    err_noted CN I x fun e c t l m s' R hx => wp_cameBack R fun s2 R2 => ⟨e, c, some t, l, m, rfl, R2, hx⟩
  refine wpAny_While (codeAny_whileLoop (R := Rr) (fun k s => ∃ a loc m, μ a = k ∧ J a loc m ∧ Rep G C loc tmp (m ++ hid) s) (fun k s hq1 => ?_) (μ a) ⟨a, loc, mh, rfl, h0, R⟩)
  refine absP fun P₀ hP₀ => ?_
  obtain ⟨a, loc, m, ek, hJ, R1⟩ := hq1
  refine hP₀ ?_; clear hP₀ P₀
  refine wpAny_mono (turn a loc m hJ tmp hid s R1) (fun b s2 hq2 => ?_) back
  refine absP fun P₀ hP₀ => ?_
  obtain ⟨m2, R2, h1, h2⟩ := hq2
  refine hP₀ ?_; clear hP₀ P₀
  cases b with
  | false => exact wpAny_execs_nil ⟨loc, m2, R2, h2 rfl⟩
  | true =>
    refine wpAny_mono (h1 rfl tmp hid s2 R2) (fun f s3 q => ?_) back
    cases f with
    | next => obtain ⟨l3, m3, R3, a', ha, hJ'⟩ := q; exact ⟨μ a', ek ▸ ha, a', l3, m3, rfl, hJ', R3⟩
    | ret v => exact q
    | _ => exact q.elim

noncomputable def Yld (G : Glb) (C : Cx) (it : Value) : List D → MH → Tmp → Prop
  | [], its, aux => ∀ loc tmp hid s E, (∀ p ∈ aux, p ∈ tmp) → Rep G C loc tmp (its ++ hid) s → wpAny (Mo G) C.A (pyNext it) (fun r s' => r = none ∧ ∃ its', Rep G C loc tmp (its' ++ hid) s') E s
  | d :: ds, its, aux => ∀ loc tmp hid s E, (∀ p ∈ aux, p ∈ tmp) → Rep G C loc tmp (its ++ hid) s → wpAny (Mo G) C.A (pyNext it) (fun r s' => ∃ v its', r = some v ∧ Rep G C loc ((v, d) :: tmp) (its' ++ hid) s' ∧ Yld G C it ds its' aux) E s
noncomputable def SelfIt (G : Glb) (C : Cx) (it : Value) (its : MH) : Prop := ∀ loc tmp hid s (E : Value → Shared → Prop) (Qv : Value → Shared → Prop), Rep G C loc tmp (its ++ hid) s → Qv it s → wpAny (Mo G) C.A (pyIter it) Qv E s
noncomputable def ITB (G : Glb) (C : Cx) (d : D) (ds : List D) (m m' : MH) : Prop :=
  ∀ loc tmp hid s v E, Rep G C loc tmp (m ++ hid) s → (v, d) ∈ tmp → wpAny (Mo G) C.A (pyIter v) (fun it s' => ∃ its, Rep G C loc tmp (its ++ (m' ++ hid)) s' ∧ Yld G C it ds its [(v, d)] ∧ SelfIt G C it its) E s

theorem shuf {a b c : MH} : (a ++ (b ++ c)).Perm (b ++ (a ++ c)) := by
  rw [← List.append_assoc, ← List.append_assoc]; exact List.perm_append_comm.append_right c

theorem forLoop_rule {n : Nat} {sc : Scope} {x : Str} {px : Pos} {body : List Stmt} (CN : Can G C n) (I : Is C sc) (hx : Sto C x) {it : Value} {ds : List D} {its : MH} {aux : Tmp} (Y : Yld G C it ds its aux)
    (J : List D → Loc → MH → Prop) (h0 : J ds loc mh) (step : ∀ d ds loc m, J (d :: ds) loc m → EX G C ((x, d) :: loc) m body X Rt fun l' m' => J ds l' m') (fin : ∀ loc m, J [] loc m → N loc m)
    (haux : ∀ p ∈ aux, p ∈ tmp) (R : Rep G C loc tmp (its ++ (mh ++ hid)) s) :
    codeAny (Mo G) C.A (.forLoop (.Name x px) it body [] C.env) (fun r s' => match r with | .ok f => FPost G C tmp hid N Rt f s' | .error e => cameBackBy (Mo G) C.A C.env (EErr G C hid X) e s') s := by
  let Rr : Result → Shared → Prop := fun r s' => match r with | .ok f => FPost G C tmp hid N Rt f s' | .error e => cameBackBy (Mo G) C.A C.env (EErr G C hid X) e s'
  have back : ∀ its e s', EErr G C (its ++ hid) X e s' → notedBy (Mo G) C.A C.env (fun e s' => Rr (.error e) s') e s' := fun its e s' x =>
    err_noted CN I x fun e c t l m s' R hx => wp_cameBack R fun s2 R2 => ⟨e, c, some t, l, m, rfl, Rep.dropAll (l := its) (R2.perm (shuf (a := (e, AO.exc c (some t)) :: m) (b := its) (c := hid))), hx⟩
  refine codeAny_forLoop (R := Rr) (fun k s => ∃ rem loc m its, rem.length = k ∧ Yld G C it rem its aux ∧ J rem loc m ∧ Rep G C loc tmp (its ++ (m ++ hid)) s) (fun k s hq3 => ?_) ds.length ⟨ds, loc, mh, its, rfl, Y, h0, R⟩
  refine absP fun P₀ hP₀ => ?_
  obtain ⟨rem, loc, m, its, ek, Y, hJ, R1⟩ := hq3
  refine hP₀ ?_; clear hP₀ P₀
  cases rem with
  | nil =>
    refine wpAny_mono (Y loc tmp (m ++ hid) s _ haux R1) (fun r s2 hq4 => ?_) fun u₀ u₀ x => x
    obtain ⟨er, its', R2⟩ := hq4
    subst er
    exact wpAny_execs_nil ⟨loc, m, R2.dropAll, fin _ _ hJ⟩
  | cons d rem =>
    refine wpAny_mono (Y loc tmp (m ++ hid) s _ haux R1) (fun r s2 hq5 => ?_) fun u₀ u₀ x => x
    refine absP fun P₀ hP₀ => ?_
    obtain ⟨v, its', er, R2, Y2⟩ := hq5
    refine hP₀ ?_; clear hP₀ P₀
    subst er
    refine wpAny_assign_Name (wp_store R2.pop R2.top hx fun s3 R3 => ?_)
    refine wpAny_mono (step d rem loc m hJ tmp (its' ++ hid) s3 (R3.perm shuf)) (fun f s4 q => ?_) (back its')
    cases f with
    | next =>
      refine absP fun P₀ hP₀ => ?_
      obtain ⟨l4, m4, R4, hJ4⟩ := q
      refine hP₀ ?_; clear hP₀ P₀
      exact ⟨rem.length, by subst ek; simp, rem, l4, m4, its', rfl, Y2, hJ4, R4.perm shuf⟩
    | ret v =>
      refine absP fun P₀ hP₀ => ?_
      obtain ⟨d', l4, m4, R4, h4⟩ := q
      refine hP₀ ?_; clear hP₀ P₀
      exact ⟨d', l4, m4, Rep.dropAll (l := its') (R4.perm shuf), h4⟩
    | _ => exact q.elim

theorem SX_for {n : Nat} {sc : Scope} {x : Str} {px pos : Pos} {iter : Expr} {body : List Stmt} (CN : Can G C n) (I : Is C sc) (hx : Sto C x) (J : List D → Loc → MH → Prop)
    (h : EV G C loc mh iter X fun d m => ∃ ds m', ITB G C d ds m m' ∧ J ds loc m')
    (step : ∀ d ds loc m, J (d :: ds) loc m → EX G C ((x, d) :: loc) m body X Rt fun l' m' => J ds l' m') (fin : ∀ loc m, J [] loc m → N loc m)
    (hs : ∀ env v, foldedSetIterable iter env v = pure v := by intro _ _; rfl) : SX G C loc mh (.For (.Name x px) iter body [] pos) X Rt N := fun tmp hid s R =>
  wpAny_For (h.go R (fun v s1 d m R1 ⟨ds, m', B, hJ⟩ => wpAny_mono (B loc _ hid s1 v _ R1 (.head _)) (fun it s2 ⟨its, R2, Y, _⟩ => by
    refine codeAny_mono (forLoop_rule CN I hx Y J hJ step fin (fun p hp => by rw [List.mem_singleton.mp hp]; exact .head _) R2) fun r s3 q => ?_
    cases r with
    | error e => exact q
    | ok f => cases f with
      | next => obtain ⟨l, m, R3, h3⟩ := q; exact ⟨l, m, R3.pop, h3⟩
      | ret v => obtain ⟨d, l, m, R3, h3⟩ := q; exact ⟨d, l, m, R3.sub_tmp (fun p hp => by rcases List.mem_cons.mp hp with rfl | hp; exact .head _; exact .tail _ (.tail _ hp)), h3⟩
      | _ => exact q) fun u₀ u₀ x => x)) (hs _)

theorem raw_set (R : Rep G C loc tmp ((it, .raw o) :: mh) s) {h' : Heap} {o' : Obj} {k : Nat} (hs : Heap.ExtBut it s.heap h') (e : h'.get? it = some o') : Rep G C loc tmp ((it, .raw o') :: mh) { s with heap := h', toks := k } :=
  R.set (o := .raw o) (o' := .raw o') .head (fun b x hb e => hs b x (fun q => hb (by rw [q]; simp [foot])) e) rfl rfl (fun b hb => .inl (by simpa [foot, AO.more] using hb)) (by simp [foot, AO.more]) e
theorem raw_drop {it : Addr} {o : Obj} (R : Rep G C loc tmp ((it, .raw o) :: mh) s) {h' : Heap} {k : Nat} (hs : Heap.ExtBut it s.heap h') : Rep G C loc tmp mh { s with heap := h', toks := k } := by
  have N := nd_of R
  rw [addrs_cons] at N
  have nit : it ∉ addrs mh := fun q => (List.nodup_append.mp N).2.2 it (by simp [foot]) it q rfl
  exact R.step (S := [it]) (fun a ha => by rw [List.mem_singleton.mp ha, addrs_cons]; simp [foot]) (fun b x hb e => hs b x (fun q => hb (by simp [q])) e) rfl rfl
    (fun q hq => (R.obs q (.tail _ hq)).mono (.of (fun b x hb e => hs b x (fun q => hb (by rw [q]; exact List.mem_append_right _ (by rw [addrs_cons]; simp [foot]))) e) fun b h => .inl ((List.mem_append.mp h).elim (fun q => List.mem_append_left _ q) fun q => List.mem_append_right _ (by rw [addrs_cons]; exact List.mem_append_right _ q)))
      fun b hb x e => hs b x (fun z => nit (z ▸ mem_addrs hq hb)) e)
    (fun a h => .inl (by rw [addrs_cons]; exact List.mem_append_right _ h)) (List.nodup_append.mp N).2.1
theorem raw_new (R : Rep G C loc tmp mh s) (o : Obj) (hf : o.isFreed = false := by rfl) {k : Nat} : Rep G C loc tmp ((s.heap.objs.size, .raw o) :: mh) { s with heap := s.heap.push o, toks := k } :=
  R.add (o := .raw o) (fun b x e => Heap.get?_push_of_some _ e) rfl rfl (fun b hb => by simp [foot, AO.more] at hb; exact size_none (Nat.le_of_eq hb.symm)) (by simp [foot, AO.more]) (Heap.get?_push_size _ hf)

end

section
set_option tactic.hygienic false
open PySem PySem.W PyProof.Rows
variable {G : Glb} {C C' : Cx} {loc loc' : Loc} {tmp tmp' : Tmp} {mh hid l l' : MH} {s s' s₁ : Shared}
variable {X : Addr → Loc → MH → Prop} {Q : D → MH → Prop} {Rt : D → MH → Prop} {N : Loc → MH → Prop}

theorem Yld_list (hh : C.A.handled = none) {it a : Addr} {xs : List PyData} (rem : List PyData) : ∀ (i : Nat) (o : Obj), xs.drop i = rem → o.cls = .type "list_iterator" → o.data = .fields #[.ref a, .int i 0] →
    Yld G C (.ref it) (rem.map .dat) [(it, .raw o)] [(.ref a, .dat (.list xs))] := by
  induction rem with
  | nil =>
    exact fun i o hr hc hd => fun loc tmp hid s E ha R => by
      have V := R.tmp _ (ha _ (.head _))
      have hit : s.heap.IsListIter it a i := ⟨o, R.obs _ (.head _), hc, hd⟩
      obtain ⟨_, _, _, _, ev, n, e, c, d, f⟩ := V.dat_inv.list_inv; cases ev
      have hz := f.length; rw [Array.length_toList] at hz
      refine wpAny_pyNext_list_end hh hit ⟨_, e, c, _, d⟩ ?_ fun h' hs => ⟨rfl, [], raw_drop R hs⟩
      have := List.drop_eq_nil_iff.mp hr
      exact Array.getElem?_eq_none (by lia)
  | cons x rem ih =>
    exact fun i o hr hc hd => fun loc tmp hid s E ha R => by
      have V := R.tmp _ (ha _ (.head _))
      have hit : s.heap.IsListIter it a i := ⟨o, R.obs _ (.head _), hc, hd⟩
      have hx : xs[i]? = some x := by have := congrArg List.head? hr; simpa using this
      obtain ⟨_, _, vs, _, ev, n, e, c, d, f⟩ := V.dat_inv.list_inv; cases ev
      obtain ⟨v, hv, hf⟩ := f.getA hx
      refine wpAny_pyNext_list_item hit ⟨_, e, c, _, d⟩ hv fun h' hit' hs => ?_
      refine absP fun P₀ hP₀ => ?_
      obtain ⟨o', e', c', d'⟩ := hit'
      refine hP₀ ?_; clear hP₀ P₀
      have R' : Rep G C loc ((v, .dat x) :: tmp) ((it, .raw o) :: hid) s := R.push (.dat hf)
      exact ⟨v, [(it, .raw o')], rfl, raw_set (k := s.toks) R' hs.extBut e', ih (i + 1) o' (by rw [← List.drop_drop, hr]; rfl) c' d'⟩
theorem ITB_list {xs : List PyData} (hh : C.A.handled = none) : ITB G C (.dat (.list xs)) (xs.map .dat) mh mh := fun loc tmp hid s v E R hv => by
  have V := R.tmp _ hv
  dsimp only at V
  obtain ⟨_, _, _, _, ev, n, e, c, d, f⟩ := V.dat_inv.list_inv; cases ev
  refine wpAny_pyIter_list ⟨_, e, c, _, d⟩ ⟨[(s.heap.objs.size, .raw _)], raw_new (k := s.toks) R _, ?_, fun loc tmp hid s' E Qv R' q => wpAny_pyIter_listiter ⟨_, R'.obs _ (.head _), rfl, rfl⟩ q⟩
  exact Yld_list hh xs 0 _ (by simp) rfl rfl

noncomputable abbrev D.byte (c : UInt8) : D := .int (c.toNat : Int)
theorem Yld_bytes (hh : C.A.handled = none) {it : Addr} {b : List UInt8} {t : Tok} {aux : Tmp} (rem : List UInt8) : ∀ (i : Nat) (o : Obj), b.drop i = rem → o.cls = .type "bytes_iterator" → o.data = .fields #[.bytes b.toArray t, .int i 0] →
    Yld G C (.ref it) (rem.map D.byte) [(it, .raw o)] aux := by
  induction rem with
  | nil =>
    exact fun i o hr hc hd => fun loc tmp hid s E ha R => by
      have hit : KBw.IsBytesIter s.heap it b.toArray t i := ⟨o, R.obs _ (.head _), hc, hd⟩
      refine KBw.next_end hh hit ?_ fun h' hs => ⟨rfl, [], raw_drop R hs⟩
      have := List.drop_eq_nil_iff.mp hr
      exact Array.getElem?_eq_none (by simpa using this)
  | cons x rem ih =>
    exact fun i o hr hc hd => fun loc tmp hid s E ha R => by
      have hit : KBw.IsBytesIter s.heap it b.toArray t i := ⟨o, R.obs _ (.head _), hc, hd⟩
      have hx : b[i]? = some x := by have := congrArg List.head? hr; simpa using this
      refine KBw.next_item hit (c := x) (by simpa using hx) fun h' hit' hs => ?_
      refine absP fun P₀ hP₀ => ?_
      obtain ⟨o', e', c', d'⟩ := hit'
      refine hP₀ ?_; clear hP₀ P₀
      have R' : Rep G C loc ((.int (x.toNat : Int) s.toks, D.byte x) :: tmp) ((it, .raw o) :: hid) s := R.push (.dat (.int _ _))
      exact ⟨_, [(it, .raw o')], rfl, raw_set (k := s.toks + 1) R' hs.extBut e', ih (i + 1) o' (by rw [← List.drop_drop, hr]; rfl) c' d'⟩
theorem ITB_bytes {b : List UInt8} (hh : C.A.handled = none) : ITB G C (.bytes b) (b.map D.byte) mh mh := fun loc tmp hid s v E R hv => by
  have V := R.tmp _ hv
  dsimp only at V
  obtain ⟨t, rfl⟩ := V.bytes_inv
  exact KBw.pyIter_bytes ⟨[(s.heap.objs.size, .raw _)], raw_new (k := s.toks) R _, Yld_bytes hh b 0 _ (by simp) rfl rfl, fun loc tmp hid s' E Qv R' q => KBw.pyIter_self (i := 0) ⟨_, R'.obs _ (.head _), rfl, rfl⟩ q⟩

noncomputable def rng (a : Int) (c : Int) : Nat → List Int
  | 0 => []
  | n + 1 => a :: rng (a + c) c n
theorem Yld_range (hh : C.A.handled = none) {it : Addr} {c : Int} {aux : Tmp} : ∀ (n : Nat) (a : Int), Yld G C (.ref it) ((rng a c n).map D.int) [(it, .raw { cls := .type "range_iterator", data := .fields #[rawInt a, rawInt n, rawInt c] })] aux
  | 0, a => fun loc tmp hid s E ha R => wpAny_pyNext_range_end hh (left := 0) (R.obs _ (.head _)) (by lia) fun h' hs => ⟨rfl, [], raw_drop R hs⟩
  | n + 1, a => fun loc tmp hid s E ha R => by
    refine wpAny_pyNext_range_item (left := ((n + 1 : Nat) : Int)) (R.obs _ (.head _)) (by lia) fun h' hit' hs => ?_
    have R' : Rep G C loc ((.int a s.toks, D.int a) :: tmp) ((it, .raw { cls := .type "range_iterator", data := .fields #[rawInt a, rawInt ((n + 1 : Nat) : Int), rawInt c] }) :: hid) s := R.push (.dat (.int _ _))
    have e : ((n + 1 : Nat) : Int) - 1 = n := by lia
    rw [e] at hit'
    exact ⟨_, _, rfl, raw_set (k := s.toks + 1) R' hs.extBut hit', Yld_range hh n (a + c)⟩
theorem ITB_range {r : Addr} {a b c : Int} {t u v : Tok} {n : Nat} (hh : C.A.handled = none) (hs : Builtin.Range.small a b c = true) (hn : Builtin.Range.rangeSize a b c = n) :
    ITB G C (.ptr r) ((rng a c n).map D.int) ((r, .raw { cls := .type "range", data := .fields #[.int a t, .int b u, .int c v] }) :: mh) mh := fun loc tmp hid s w E R hv => by
  have V := R.tmp _ hv
  dsimp only at V
  have := V.ptr_inv; subst this
  refine wpAny_pyIter_range (R.obs _ (.head _)) hs ⟨[(s.heap.objs.size, .raw { cls := .type "range_iterator", data := .fields #[rawInt a, rawInt (Builtin.Range.rangeSize a b c), rawInt c] })], ?_, ?_, fun loc tmp hid s' E Qv R' q => wpAny_pyIter_rangeiter (R'.obs _ (.head _)) q⟩
  · have := (raw_new (k := s.toks) R { cls := .type "range_iterator", data := .fields #[rawInt a, rawInt (Builtin.Range.rangeSize a b c), rawInt c] })
    exact (this.perm (List.Perm.swap _ _ _)).drop
  · rw [hn]; exact Yld_range hh n a

noncomputable def BF (G : Glb) (C : Cx) (f : Value) (ds : List D) (mh : MH) (P : D → MH → Prop) : Prop :=
  ∀ loc tmp hid s vs X, Rep G C loc tmp (mh ++ hid) s → VDs s.heap (MM C (mh ++ hid)) vs ds → wpAny (Mo G) C.A (call f vs []) (EVq G C loc tmp hid P) (EErr G C hid X) s
theorem EV_callb {x : Str} {id : String} {px pos : Pos} {e : Expr} {args : List Expr} (GO : G.Ok) (hk : C.env.kindOf x = some .globalImplicit) (hg : G.mg x = none) (hb : bootBuiltins x = some (.builtin id)) (hn : x ≠ "__name__")
    (h : EVs G C loc mh (e :: args) X fun ds m => BF G C (.builtin id) ds m Q) (hd : (x == ("__debug__" : Str)) = false := by decide) (hplain : ∀ env, starEach (e :: args) env = (false, eval e env) :: starEach args env := by intro _; rfl)
    (hp : ∀ env, (backTo pos (starEach (e :: args) env)).any (·.1) = false := by intro _; rfl) :
    EV G C loc mh (.Call (.Name x px) (e :: args) [] pos) X Q := fun tmp hid s R =>
  wpAny_Call_NameR (builtin_at GO hk hg hb hn hd R (Calls.callWith_builtin (hp _) (wp_args hplain h R fun vs s2 ds m a2 a3 a4 => a4 loc tmp hid s2 _ X a2 a3)))
theorem EV_callt {x : Str} {id : String} {px pos : Pos} {e : Expr} {args : List Expr} (GO : G.Ok) (hk : C.env.kindOf x = some .globalImplicit) (hg : G.mg x = none) (hb : bootBuiltins x = some (.type id)) (hn : x ≠ "__name__")
    (h : EVs G C loc mh (e :: args) X fun ds m => BF G C (.type id) ds m Q) (hd : (x == ("__debug__" : Str)) = false := by decide) (hplain : ∀ env, starEach (e :: args) env = (false, eval e env) :: starEach args env := by intro _; rfl)
    (hp : ∀ env, (backTo pos (starEach (e :: args) env)).any (·.1) = false := by intro _; rfl) :
    EV G C loc mh (.Call (.Name x px) (e :: args) [] pos) X Q := fun tmp hid s R =>
  wpAny_Call_NameR (builtin_at GO hk hg hb hn hd R (PyProof.Rows.callWith_type (hp _) (wp_args hplain h R fun vs s2 ds m a2 a3 a4 => a4 loc tmp hid s2 _ X a2 a3)))
theorem BF_len_bytes {l : List UInt8} {P : D → MH → Prop} (hz : l.length ≤ 1099511627776) (h : P (.int l.length) mh) : BF G C (.builtin "len") [.bytes l] mh P := fun loc tmp hid s vs X R V => by
  obtain ⟨_, rfl, a⟩ := V.one
  obtain ⟨t, rfl⟩ := a.bytes_inv
  exact len_bytes (by simpa using hz) ⟨_, mh, (R.toks _).push (.dat (.int _ _)), by simpa using h⟩
theorem BF_len_list {xs : List PyData} {P : D → MH → Prop} (hz : xs.length < 2 ^ 63) (h : P (.int xs.length) mh) : BF G C (.builtin "len") [.dat (.list xs)] mh P := fun loc tmp hid s vs X R V => by
  obtain ⟨_, rfl, a⟩ := V.one
  obtain ⟨_, _, _, _, rfl, n, e, c, d, f⟩ := a.dat_inv.list_inv
  have hz' := f.length; rw [Array.length_toList] at hz'
  exact Calls.call_len_list ⟨_, e, c, _, d⟩ (by rw [hz']; lia) ⟨_, mh, (R.toks _).push (.dat (.int _ _)), by rw [hz']; exact h⟩
theorem BF_len_ptr {a : Addr} {ds : List D} {P : D → MH → Prop} (hm : LM mh a ds) (hz : ds.length < 2 ^ 63) (h : P (.int ds.length) mh) : BF G C (.builtin "len") [.ptr a] mh P := fun loc tmp hid s vs X R V => by
  obtain ⟨_, rfl, a⟩ := V.one
  have := a.ptr_inv; subst this
  obtain ⟨vs, hl, V⟩ := R.list hm
  have hz' := V.length; rw [Array.length_toList] at hz'
  exact Calls.call_len_list hl (by rw [hz']; lia) ⟨_, mh, (R.toks _).push (.dat (.int _ _)), by rw [hz']; exact h⟩
theorem BF_abs {i : Int} {P : D → MH → Prop} (h : P (.int (if i < 0 then -i else i)) mh) : BF G C (.builtin "abs") [.int i] mh P := fun loc tmp hid s vs X R V => by
  obtain ⟨_, rfl, a⟩ := V.one
  obtain ⟨t, rfl⟩ := a.int_inv
  exact call_abs_int fun u tk => ⟨_, mh, (R.toks _).push (.dat (.int _ _)), h⟩
theorem BF_int_bool {b : Bool} {P : D → MH → Prop} (h : P (.int (if b then 1 else 0)) mh) : BF G C (.type "int") [.bool b] mh P := fun loc tmp hid s vs X R V => by
  obtain ⟨_, rfl, a⟩ := V.one
  have := a.bool_inv; subst this
  exact call_int_bool ⟨_, mh, (R.toks _).push (.dat (.int _ _)), h⟩
theorem BF_range1 {n : Int} {P : D → MH → Prop} (h : ∀ r t u v, P (.ptr r) ((r, .raw { cls := .type "range", data := .fields #[.int 0 t, .int n u, .int 1 v] }) :: mh)) : BF G C (.type "range") [.int n] mh P := fun loc tmp hid s vs X R V => by
  obtain ⟨_, rfl, a⟩ := V.one
  obtain ⟨t, rfl⟩ := a.int_inv
  exact call_range_1 ⟨_, _, (raw_new R _).push (.ptr _), h _ _ _ _⟩
theorem BF_range3 {a b c : Int} {P : D → MH → Prop} (hc : c ≠ 0) (hl : c.natAbs.log2 < 9000) (h : ∀ r t u v, P (.ptr r) ((r, .raw { cls := .type "range", data := .fields #[.int a t, .int b u, .int c v] }) :: mh)) : BF G C (.type "range") [.int a, .int b, .int c] mh P := fun loc tmp hid s vs X R V => by
  obtain ⟨_, _, _, rfl, x, y, z⟩ := V.three
  obtain ⟨t, rfl⟩ := x.int_inv; obtain ⟨u, rfl⟩ := y.int_inv; obtain ⟨v, rfl⟩ := z.int_inv
  exact call_range_3 hc ⟨_, _, (raw_new R _).push (.ptr _), h _ _ _ _⟩ (.inl (PyProof.noPylong_of_log2 hl))
theorem BF_isinst {d : D} {T : String} {b : Bool} {P : D → MH → Prop} (hd : ∀ h M v, VD h M v d → ∀ (A : Around) (E : Value → Shared → Prop) (Q : Value → Shared → Prop) (s : Shared), s.heap = h → (∀ tk, Q (.bool b) { s with toks := tk }) → wpAny (Mo G) A (call (.builtin "isinstance") [v, .type T]) Q E s) (h : P (.bool b) mh) :
    BF G C (.builtin "isinstance") [d, .con (.type T)] mh P := fun loc tmp hid s vs X R V => by
  obtain ⟨_, _, rfl, x, y⟩ := V.two
  have := y.con_inv; subst this
  exact hd _ _ _ x _ _ _ s rfl fun tk => ⟨_, mh, (R.toks _).push (.dat (.bool _)), h⟩
theorem ii_int_int {i : Int} {h M v} (x : VD h M v (.int i)) (A : Around) (E : Value → Shared → Prop) (Q : Value → Shared → Prop) (s : Shared) (e : s.heap = h) (q : ∀ tk, Q (.bool true) { s with toks := tk }) : wpAny (Mo G) A (call (.builtin "isinstance") [v, .type "int"]) Q E s := by
  obtain ⟨t, rfl⟩ := x.int_inv; exact PySem.IsiPair.int_int (q s.toks)
theorem ii_none_int {h M v} (x : VD h M v .none) (A : Around) (E : Value → Shared → Prop) (Q : Value → Shared → Prop) (s : Shared) (e : s.heap = h) (q : ∀ tk, Q (.bool false) { s with toks := tk }) : wpAny (Mo G) A (call (.builtin "isinstance") [v, .type "int"]) Q E s := by
  rw [x.none_inv]; exact PySem.IsiPair.NoneType_int (q _)
theorem ii_str_int {y : Str} {h M v} (x : VD h M v (.str y)) (A : Around) (E : Value → Shared → Prop) (Q : Value → Shared → Prop) (s : Shared) (e : s.heap = h) (q : ∀ tk, Q (.bool false) { s with toks := tk }) : wpAny (Mo G) A (call (.builtin "isinstance") [v, .type "int"]) Q E s := by
  obtain ⟨t, rfl⟩ := x.str_inv; exact PySem.IsiPair.str_int (q _)
theorem ii_int_bool {i : Int} {h M v} (x : VD h M v (.int i)) (A : Around) (E : Value → Shared → Prop) (Q : Value → Shared → Prop) (s : Shared) (e : s.heap = h) (q : ∀ tk, Q (.bool false) { s with toks := tk }) : wpAny (Mo G) A (call (.builtin "isinstance") [v, .type "bool"]) Q E s := by
  obtain ⟨t, rfl⟩ := x.int_inv; exact PySem.IsiPair.int_bool (q _)
theorem ii_str_str {y : Str} {h M v} (x : VD h M v (.str y)) (A : Around) (E : Value → Shared → Prop) (Q : Value → Shared → Prop) (s : Shared) (e : s.heap = h) (q : ∀ tk, Q (.bool true) { s with toks := tk }) : wpAny (Mo G) A (call (.builtin "isinstance") [v, .type "str"]) Q E s := by
  obtain ⟨t, rfl⟩ := x.str_inv; exact PySem.IsiPair.str_str (q s.toks)

end

section
set_option tactic.hygienic false
open PySem PySem.W PyProof.Rows
variable {G : Glb} {C C' : Cx} {loc loc' : Loc} {tmp tmp' : Tmp} {mh hid l l' : MH} {s s' s₁ : Shared}
variable {X : Addr → Loc → MH → Prop} {Q : D → MH → Prop} {Rt : D → MH → Prop} {N : Loc → MH → Prop}

theorem Rep.kept (R : Rep G C loc tmp mh s) {h' : Heap} {k : Nat} (hk : ∀ b o, s.heap.get? b = some o → h'.get? b = some o) : Rep G C loc tmp mh { s with heap := h', toks := k } := R.grow hk rfl rfl
theorem push_list (R : Rep G C loc tmp mh s) {vs : Array Value} {xs : List PyData} {k : Nat} (f : FVs s.heap (MM C mh) vs.toList xs) : Rep G C loc ((.ref s.heap.objs.size, .dat (.list xs)) :: tmp) mh { s with heap := s.heap.push { cls := .type "list", data := .seq vs }, toks := k } := R.newList f _

theorem OP_addb {b c : List UInt8} {P : D → Prop} (hz : b.length + c.length ≤ 16777216) (h : P (.bytes (b ++ c))) : OP G C .Add (.bytes b) (.bytes c) mh P := fun loc tmp hid s v1 v2 X R x y => by
  obtain ⟨t, rfl⟩ := x.bytes_inv; obtain ⟨u, rfl⟩ := y.bytes_inv
  refine KBy.add_bytes (by simpa using hz) fun t' k => ⟨.bytes (b ++ c), ?_, h⟩
  have e : b.toArray ++ c.toArray = (b ++ c).toArray := by simp
  rw [e]
  exact (R.toks _).push (.bytes _ _)
theorem OP_addl {xs ys : List PyData} {P : D → Prop} (hz : xs.length + ys.length ≤ 16777216) (h : P (.dat (.list (xs ++ ys)))) : OP G C .Add (.dat (.list xs)) (.dat (.list ys)) mh P := fun loc tmp hid s v1 v2 X R x y => by
  obtain ⟨a, o, vs, n, rfl, na, ea, ca, da, fa⟩ := x.dat_inv.list_inv
  cases y with | dat y => cases y with | @list b o' ws n' _ nb eb cb db fb =>
  refine absP fun P₀ hP₀ => ?_
  obtain ⟨cls, dd, data, sl⟩ := o
  obtain ⟨cls', dd', data', sl'⟩ := o'
  refine hP₀ ?_; clear hP₀ P₀
  simp only at ca da cb db
  subst ca da cb db
  have h1 := fa.length; have h2 := fb.length
  rw [Array.length_toList] at h1 h2
  refine concat_meets ⟨_, ea, rfl⟩ ⟨_, eb, rfl⟩ noFill_list_add seq_list_add PySem.F.slot_list_add PySem.F.entry_list_add (PySem.F.args_list_add_2 _ _) (list_addW a b vs ws n n' dd dd' sl sl' (by rw [h1, h2, sizeLine_eq]; exact hz)) ⟨ea, eb, _, push_list (vs := vs ++ ws) R ?_, h⟩
  rw [Array.toList_append]
  exact fa.append fb
theorem OP_mull {x : PyData} {i : Int} {P : D → Prop} (h0 : 0 ≤ i) (hz : i ≤ 16777216) (h : P (.dat (.list (List.replicate i.toNat x)))) : OP G C .Mult (.dat (.list [x])) (.int i) mh P := fun loc tmp hid s v1 v2 X R vx vy => by
  obtain ⟨u, rfl⟩ := vy.int_inv
  cases vx with | dat vx => cases vx with | @list a o vs n _ na ea ca da fa =>
  refine absP fun P₀ hP₀ => ?_
  obtain ⟨cls, dd, data, sl⟩ := o
  refine hP₀ ?_; clear hP₀ P₀
  simp only at ca da
  subst ca da
  obtain ⟨v, hv⟩ : ∃ v, vs = #[v] := by
    have h1 := fa.length
    cases hvs : vs.toList with
    | nil => rw [hvs] at h1; simp at h1
    | cons v r =>
      rw [hvs] at h1
      have : r = [] := by simpa using h1
      subst this
      exact ⟨v, by rw [← Array.toArray_toList (xs := vs), hvs]⟩
  subst hv
  have hf : FV s.heap (MM C (mh ++ hid)) v x := by cases fa with | cons a _ => exact a
  refine wpAny_binaryOp_repeat_ref (T := "list") (U := "int") (by decide) ⟨_, ea, rfl⟩ (fun s' => typeIs_int s' i u) noFill_list_mul F.fills_int_mul F.slot_int_rmul repeat_list F.slot_int_index.lookup
    (call_meets F.slot_int_rmul (typeIs_int s i u) F.entry_int_rmul (F.args_int_rmul_2 _ _) (lm_int_rmul_list_any i u a #[v] n dd sl)
      ⟨ea, rfl, ⟨_, ea, rfl⟩, call_meets F.slot_list_mul ⟨_, ea, rfl⟩ F.entry_list_mul (F.args_list_mul_2 _ _)
        (lm_list_mul_any a #[v] n dd sl i u (by simp [Builtin.List.listFitsIndex]; lia) (by simp; lia) (by simp [Builtin.List.listTooLong, sizeLine]; lia))
        ⟨ea, _, push_list R (xs := List.replicate i.toNat x) ?_, h⟩⟩)
  rw [listMul_foldl_if]
  have e : (List.replicate i.toNat (#[v] : Array Value).toList).flatten = List.replicate i.toNat v := by
    generalize i.toNat = k
    induction k with
    | zero => rfl
    | succ k ih => rw [List.replicate_succ, List.flatten_cons, ih, List.replicate_succ]; rfl
  rw [e]
  show FVs _ _ (List.replicate i.toNat v) _
  generalize i.toNat = k
  induction k with
  | zero => exact .nil
  | succ k ih => rw [List.replicate_succ, List.replicate_succ]; exact .cons hf ih

theorem FV.int_inv {h : Heap} {M : List Addr} {v : Value} {i : Int} (x : FV h M v (.int i)) : ∃ t, v = .int i t := by
  cases x with | int _ t => exact ⟨t, rfl⟩
theorem FVs.ints {h : Heap} {M : List Addr} {vs : List Value} {ns : List Int} (x : FVs h M vs (ns.map .int)) : IntsAre vs ns := by
  refine x.ind (P := fun vs es => ∀ ns : List Int, es = ns.map .int → IntsAre vs ns) (fun ns e => ?_) (fun v vs d ds a u₀ ih ns e => ?_) ns rfl
  · cases ns with
    | nil => exact .nil
    | cons => cases e
  · cases ns with
    | nil => cases e
    | cons n ns =>
      obtain ⟨t, rfl⟩ := FV.int_inv ((List.cons.inj e).1 ▸ a)
      exact .cons n t (ih ns (List.cons.inj e).2)
theorem BF_min {a b : Int} {P : D → MH → Prop} (hh : C.A.handled = none) (h : P (.int (if b < a then b else a)) mh) : BF G C (.builtin "min") [.int a, .int b] mh P := fun loc tmp hid s vs X R V => by
  obtain ⟨_, _, rfl, x, y⟩ := V.two
  obtain ⟨t, rfl⟩ := x.int_inv; obtain ⟨u, rfl⟩ := y.int_inv
  refine min_two_ints hh fun h' tk hk => ⟨_, mh, ?_, h⟩
  have R' : Rep G C loc tmp (mh ++ hid) { s with heap := h', toks := tk } := R.grow hk rfl rfl
  by_cases q : b < a
  · rw [if_pos q, if_pos q]; exact R'.push (.dat (.int _ _))
  · rw [if_neg q, if_neg q]; exact R'.push (.dat (.int _ _))
theorem BF_sum {ns : List Int} {P : D → MH → Prop} (hh : C.A.handled = none) (h : P (.int ns.sum) mh) : BF G C (.builtin "sum") [.dat (.list (ns.map .int))] mh P := fun loc tmp hid s vs X R V => by
  obtain ⟨_, rfl, x⟩ := V.one
  obtain ⟨a, o, ws, n, rfl, na, ea, ca, da, fa⟩ := x.dat_inv.list_inv
  have hi := fa.ints
  obtain ⟨xs, hx⟩ := hi.allInts.items
  have hx' : ws = intItems xs := by simpa using hx
  subst hx'
  refine sum_intListG hh ⟨_, ea, ca, _, da⟩ fun h' tk t' hk => ⟨_, mh, (R.kept hk).push (.dat (.int _ _)), ?_⟩
  have e : numsOf (intItems xs).toList = ns := hi.numsOf
  rw [nums_intItems] at e
  rw [preSum_eq, List.take_of_length_le (by simp), e]
  exact h
theorem BF_list {xs : List PyData} {P : D → MH → Prop} (hz : xs.length ≤ 16777216) (h : P (.dat (.list xs)) mh) : BF G C (.type "list") [.dat (.list xs)] mh P := fun loc tmp hid s vs X R V => by
  obtain ⟨_, rfl, x⟩ := V.one
  obtain ⟨a, o, ws, n, rfl, na, ea, ca, da, fa⟩ := x.dat_inv.list_inv
  have h1 := fa.length; rw [Array.length_toList] at h1
  refine call_list_seq a (.inl rfl) ea ca da (fun h' c' hk hn => ⟨_, mh, (R.kept hk).push (.dat (.list R.notin hn rfl rfl (fa.mono (.of (fun b o u₀ e => hk b o e) fun u₀ h => .inl h)))), h⟩) (by rw [h1, sizeLine_eq]; exact hz)
noncomputable def octs (ns : List Int) : List UInt8 := ns.map fun n => n.toNat.toUInt8
theorem BF_bytes_list {ns : List Int} {P : D → MH → Prop} (hh : C.A.handled = none) (hr : ∀ n ∈ ns, 0 ≤ n ∧ n < 256) (hz : ns.length ≤ 16777216) (h : P (.bytes (octs ns)) mh) : BF G C (.type "bytes") [.dat (.list (ns.map .int))] mh P := fun loc tmp hid s vs X R V => by
  obtain ⟨_, rfl, x⟩ := V.one
  obtain ⟨a, o, ws, n, rfl, na, ea, ca, da, fa⟩ := x.dat_inv.list_inv
  have hi := fa.ints
  exact call_bytes_ints (vs := ws.toList) ⟨_, ea, ca, _, by simpa using da⟩ hi hr (by rw [hi.length, sizeLine_eq]; exact hz) hh fun h' t k hk => ⟨.bytes (octs ns), mh, (R.kept hk).push (.bytes (octs ns) t), h⟩

end

section
set_option tactic.hygienic false
open PySem PySem.W PyProof.Rows
variable {G : Glb} {C C' : Cx} {loc loc' : Loc} {tmp tmp' : Tmp} {mh hid l l' : MH} {s s' s₁ : Shared}
variable {X : Addr → Loc → MH → Prop} {Q : D → MH → Prop} {Rt : D → MH → Prop} {N : Loc → MH → Prop}

theorem Rep.kin (R : Rep G C loc tmp mh s) (GO : G.Ok) : G.K.In s.heap := GO.kin.keeps R.base

theorem es_refKey {h : Heap} {M : List Addr} : ∀ {es : List DictEntry} {fs : List (Str × D)}, ES h M es fs → es.any (·.refKey) = false
  | _, _, .nil => rfl
  | _, _, .cons (e := e) k _ r => by
    have : e.refKey = false := by unfold DictEntry.refKey; rw [k]
    simp [this, es_refKey r]
theorem es_find {h : Heap} {M : List Addr} {x : Str} : ∀ {es : List DictEntry} {fs : List (Str × D)}, ES h M es fs → match fs.lookup x with
    | some d => ∃ e, es.find? (·.key.isStr x) = some e ∧ VD h M e.val d
    | none => es.find? (·.key.isStr x) = none
  | _, _, .nil => rfl
  | _, _, .cons (e := e) (x := y) k v r => by
    rw [List.lookup_cons]
    have ih := es_find (x := x) r
    by_cases q : x = y
    · subst q
      have : e.key.isStr x = true := by rw [k]; simp [Value.isStr]
      simp only [beq_self_eq_true]
      exact ⟨e, by rw [List.find?_cons, this], v⟩
    · have q1 : (x == y) = false := beq_eq_false_iff_ne.mpr q
      have q2 : e.key.isStr x = false := by rw [k]; simp [Value.isStr]; exact fun z => q z.symm
      simp only [q1, List.find?_cons, q2]
      exact ih
theorem lookIn_some {h : Heap} {M : List Addr} {x : Str} {es : List DictEntry} {n : Nat} {fs : List (Str × D)} {d : D} (e : ES h M es fs) (hx : fs.lookup x = some d) : ∃ v, lookIn x (dictOf es n) = some (some v) ∧ VD h M v d := by
  have := es_find (x := x) e
  rw [hx] at this
  obtain ⟨en, h1, h2⟩ := this
  exact ⟨en.val, by unfold lookIn dictOf; simp only [h1], h2⟩
theorem lookIn_none {h : Heap} {M : List Addr} {x : Str} {es : List DictEntry} {n : Nat} {fs : List (Str × D)} (e : ES h M es fs) (hx : fs.lookup x = none) : lookIn x (dictOf es n) = some none := by
  have := es_find (x := x) e
  rw [hx] at this
  unfold lookIn dictOf
  simp only [this]
  rw [if_neg (by rw [es_refKey e]; exact Bool.false_ne_true)]

theorem Rep.inst (R : Rep G C loc tmp (mh ++ hid) s) {a Cl dx : Addr} {fs : List (Str × D)} (hm : (a, AO.inst Cl dx fs) ∈ mh) :
    ∃ es n, InstAt s.heap a (instObj Cl dx) Cl (some (dictOf es n)) ∧ s.heap.get? dx = some (dictOf es n) ∧ ES s.heap (MM C (mh ++ hid)) es fs := by
  refine absP fun P₀ hP₀ => ?_
  obtain ⟨e, es, n, e', r⟩ := R.obs _ (List.mem_append_left _ hm)
  refine hP₀ ?_; clear hP₀ P₀
  exact ⟨es, n, ⟨e, rfl, rfl, e'⟩, e', r⟩

structure Reads1 (K : Frag) (Cl : Addr) : Prop where
  ga : findIn K (.ref Cl) "__getattribute__" = some (some (.builtin "object.__getattribute__"))
  gt : findIn K (.ref Cl) "__getattr__" = some none
  cd : (clsIn K Cl).any (·.hasDict) = true
theorem VD.handed {h : Heap} {M : List Addr} {v : Value} {d : D} (x : VD h M v d) (hd : ∀ u, d ≠ .con u) : handedIn v = true := by
  cases x with
  | dat x => cases x <;> rfl
  | bytes l t => rfl
  | ptr a => rfl
  | con v => exact absurd rfl (hd v)
theorem find_own {K : Frag} {Cl : Addr} {x : Str} {od : Obj} {v : Value} (T : Reads1 K Cl) (hx : findIn K (.ref Cl) x = some none) (hv : lookIn x od = some (some v)) : findObj K Cl (some od) x = some (.value v) := by
  obtain ⟨cd, hc, hd⟩ := any_some T.cd
  unfold findObj
  rw [hc]; simp only [Option.bind_some]
  rw [hx]; simp only [Option.bind_some]
  unfold PySem.W.ownOf
  rw [hd]; simp only [if_true]
  rw [hv]; rfl

noncomputable def GA (G : Glb) (C : Cx) (d : D) (x : Str) (mh : MH) (P : D → MH → Prop) : Prop :=
  ∀ loc tmp hid s v X, Rep G C loc tmp (mh ++ hid) s → VD s.heap (MM C (mh ++ hid)) v d → wpAny (Mo G) C.A (getAttr v x true) (EVq G C loc tmp hid P) (EErr G C hid X) s
theorem GA_field {a Cl dx : Addr} {fs : List (Str × D)} {x : Str} {d : D} {P : D → MH → Prop} (GO : G.Ok) (T : Reads1 G.K Cl) (hx : findIn G.K (.ref Cl) x = some none) (hm : (a, AO.inst Cl dx fs) ∈ mh) (hf : fs.lookup x = some d) (hd : ∀ u, d ≠ .con u) (h : P d mh) : GA G C (.ptr a) x mh P := fun loc tmp hid s v X R V => by
  have := V.ptr_inv; subst this
  refine absP fun P₀ hP₀ => ?_
  obtain ⟨es, n, I, ed, E⟩ := R.inst hm
  obtain ⟨v, hv, hV⟩ := lookIn_some (n := n) E hf
  refine hP₀ ?_; clear hP₀ P₀
  exact get_value (R.kin GO) I T.ga (find_own T hx hv) (hV.handed hd) ⟨d, mh, (R.push hV).toks _, h⟩
theorem EV_attr {o : Expr} {x : Str} {pos : Pos} (h : EV G C loc mh o X fun d m => GA G C d x m Q)
    (he : ∀ env, eval (.Attribute o x pos) env = (do let v ← eval o env; standAt pos.atName; let r ← holding [v] (getAttr v x true); letTemporaryGo o v r; pure r) := by intro _; with_unfolding_all rfl)
    (ht : ∀ v r, letTemporaryGo o v r = pure () := by intro _ _; with_unfolding_all rfl) : EV G C loc mh (.Attribute o x pos) X Q := fun tmp hid s R => by
  rw [he]
  refine wpAny_bind (h.go R (fun v s1 d m R1 h1 => wpAny_bind (wpAny_standAt (wpAny_bind (wpAny_holding (wpAny_mono (h1 loc tmp hid s1 v X R1.pop R1.top) (fun r s2 z => ?_) fun u₀ u₀ x => x))))))
  exact wpAny_bind (wpAny_of_eq (ht _ _) (wpAny_pure z))

noncomputable def putL (x : Str) (hh : Int) (key v : Value) : List DictEntry → List DictEntry
  | [] => [⟨hh, key, v⟩]
  | e :: r => if e.key.isStr x then { e with val := v } :: r else e :: putL x hh key v r
noncomputable def setF (x : Str) (d : D) : List (Str × D) → List (Str × D)
  | [] => [(x, d)]
  | (y, e) :: r => if y = x then (y, d) :: r else (y, e) :: setF x d r
theorem putL_of {x : Str} {hh : Int} {key v : Value} : ∀ es : List DictEntry, (match es.findIdx? (·.key.isStr x) with | some i => es.modify i (fun e => { e with val := v }) | none => es ++ [⟨hh, key, v⟩]) = putL x hh key v es
  | [] => rfl
  | e :: r => by
    rw [List.findIdx?_cons]
    unfold putL
    cases q : e.key.isStr x with
    | true => simp
    | false =>
      have ih := putL_of (x := x) (hh := hh) (key := key) (v := v) r
      simp only [Bool.false_eq_true, if_false]
      rw [← ih]
      cases r.findIdx? (·.key.isStr x) <;> simp
theorem put_eq {x : Str} {hh : Int} {key v : Value} (es : List DictEntry) (n : Nat) : ∃ n', Obj.putName x hh key v (dictOf es n) = dictOf (putL x hh key v es) n' := by
  rw [Obj.putName_eq]
  unfold Obj.putNameByArray dictOf
  dsimp only
  rw [← putL_of es]
  have e : es.toArray.findIdx? (·.key.isStr x) = es.findIdx? (·.key.isStr x) := by simp
  rw [e]
  cases es.findIdx? (·.key.isStr x) with
  | none => exact ⟨n + 1, by simp⟩
  | some i => exact ⟨n, by simp⟩
theorem ES.put {h : Heap} {M : List Addr} {x : Str} {hh : Int} {t : Tok} {v : Value} {d : D} (V : VD h M v d) : ∀ {es : List DictEntry} {fs : List (Str × D)}, ES h M es fs → ES h M (putL x hh (.str x t) v es) (setF x d fs)
  | _, _, .nil => .cons rfl V .nil
  | _, _, .cons (e := e) (x := y) k u r => by
    unfold putL setF
    by_cases q : y = x
    · subst q
      rw [if_pos (by rw [k]; simp [Value.isStr]), if_pos rfl]
      exact .cons k V r
    · rw [if_neg (by rw [k]; simp [Value.isStr]; exact q), if_neg q]
      exact .cons k u (r.put V)
theorem ES.length {h : Heap} {M : List Addr} : ∀ {es : List DictEntry} {fs : List (Str × D)}, ES h M es fs → es.length = fs.length
  | _, _, .nil => rfl
  | _, _, .cons _ _ r => by simp [r.length]

structure Stores1 (K : Frag) (Cl : Addr) : Prop where
  sa : findIn K (.ref Cl) "__setattr__" = some (some (.builtin "object.__setattr__"))
  po : plainOver K Cl = true
  cd : (clsIn K Cl).any (·.hasDict) = true
theorem wp_setAttr {a Cl dx : Addr} {fs : List (Str × D)} {x : Str} {v : Value} {d : D} {mh' : MH} {A : Around} {E : Value → Shared → Prop} {Qu : Unit → Shared → Prop} (GO : G.Ok) (T : Stores1 G.K Cl) (hx : takerIn G.K Cl x = some none) (hz : (setF x d fs).length ≤ 1000)
    (U : Upd a (.inst Cl dx fs) (.inst Cl dx (setF x d fs)) mh mh') (R : Rep G C loc tmp mh s) (V : VD s.heap (MM C mh) v d) (h : ∀ s', Rep G C loc tmp mh' s' → Qu () s') : wpAny (Mo G) A (setAttr (.ref a) x v) Qu E s := by
  refine absP fun P₀ hP₀ => ?_
  obtain ⟨e, es, n, e', r⟩ := R.obs _ U.mem
  refine hP₀ ?_; clear hP₀ P₀
  dsimp only at e e'
  have Xk := R.kin GO
  have I : InstAt s.heap a (instObj Cl dx) Cl (some (dictOf es n)) := ⟨e, rfl, rfl, e'⟩
  have R0 := R.toks (s.toks + 1)
  refine set_plain Xk I T.sa (osa_open Xk I T.po hx fun b => ?_)
  obtain ⟨cd, hc, hd'⟩ := any_some T.cd
  refine wpAny_bind (wpAny_pure (wpAny_bind (wpAny_bind (wpAny_loadPart e (wpAny_bind ((looks_clsIn (h := s.heap) Xk hc).at ?_))))))
  rw [hd']
  refine wpAny_pure (a := some dx) (wpAny_bind (wpAny_pure (wpAny_bind ?_)))
  unfold nsSet
  refine wpAny_bind (wpAny_bind (wpAny_askSetting (wpAny_pure (wpAny_bind (wpAny_mkText (wpAny_bind (wpAny_loadPart e' ?_)))))))
  dsimp only [dictOf]
  have c : (!es.toArray.any (·.key.isStr x) && es.toArray.any (·.refKey)) = false := by
    rw [← Array.any_toList, ← Array.any_toList]
    rw [es_refKey r, Bool.and_false]
  rw [aRefKeyMayBeTheName_at, c]
  refine wpAny_updatePart e' ?_
  obtain ⟨n', hp⟩ := put_eq (x := x) (hh := PyData.keyHash (Mo G).w.params x) (key := .str x (s.toks + 1)) (v := v) es n
  have D' : (s.heap.update dx (Obj.putName x (PyData.keyHash (Mo G).w.params x) (.str x (s.toks + 1)) v)).get? dx = some (dictOf (putL x (PyData.keyHash (Mo G).w.params x) (.str x (s.toks + 1)) v es) n') := by
    rw [← hp]; exact Heap.get?_update_self _ e' (by rw [hp]; rfl)
  have r' := ES.put (x := x) (hh := PyData.keyHash (Mo G).w.params x) (t := s.toks + 1) V r
  refine wpAny_bind (wpAny_lookBehind (s := { s with heap := s.heap.update dx (Obj.putName x (PyData.keyHash (Mo G).w.params x) (.str x (s.toks + 1)) v), toks := s.toks + 1 + 1 }) D' ?_ ?_)
  · exact pastItsLine_dict (by rw [List.size_toArray, sizeLine_eq, r'.length]; lia)
  refine wpAny_pure ?_
  refine h _ ?_
  obtain ⟨y1, y2, rfl, rfl⟩ := U.split
  have ne : a ≠ dx := by
    have N := nd_of R
    simp only [addrs_append, addrs_cons] at N
    have := (List.nodup_append.mp (List.nodup_append.mp N).2.1).1
    simpa [foot, AO.more] using this
  have mono : Mono s.heap (s.heap.update dx (Obj.putName x (PyData.keyHash (Mo G).w.params x) (.str x (s.toks + 1)) v)) (MM C (y1 ++ (a, .inst Cl dx fs) :: y2)) (MM C (y1 ++ (a, .inst Cl dx (setF x d fs)) :: y2)) := .of (fun b o nb q => (Heap.get?_update_other _ _ (fun z => nb (by
      rw [← z]; exact List.mem_append_right _ (mem_addrs (p := (a, .inst Cl dx fs)) (by simp) (by simp [foot, AO.more]))))).trans q) fun b hb => .inl (by
      simpa [MM, foot, AO.more] using hb)
  refine R.set (o := .inst Cl dx fs) (o' := .inst Cl dx (setF x d fs)) U (fun b o nb q => (Heap.get?_update_other _ _ (fun z => nb (by rw [← z]; simp [foot, AO.more]))).trans q) rfl rfl (fun b hb => .inl hb) (by simpa [foot, AO.more] using ne) ?_
  exact ⟨(Heap.get?_update_other _ _ (Ne.symm ne)).trans e, _, n', D', r'.mono mono⟩
inductive PutAt (G : Glb) (loc : Loc) (N : Loc → MH → Prop) (x : Str) (d d1 : D) (m1 : MH) : Prop
  | mk (a Cl dx : Addr) (fs : List (Str × D)) (m2 : MH) (e1 : d1 = .ptr a) (GO : G.Ok) (T : Stores1 G.K Cl) (hx : takerIn G.K Cl x = some none) (hz : (setF x d fs).length ≤ 1000)
      (U : ∀ hid, Upd a (.inst Cl dx fs) (.inst Cl dx (setF x d fs)) (m1 ++ hid) (m2 ++ hid)) (n : N loc m2)
theorem SX_attr {o e : Expr} {x : Str} {p1 pos : Pos} (h : EV G C loc mh e X fun d m => EV G C loc m o X (PutAt G loc N x d))
    (hs : ∀ env, swapsWith e (some (.Attribute o x p1)) pos.line env = pure false := by intro _; rfl) : SX G C loc mh (.Assign [.Attribute o x p1] e pos) X Rt N := fun tmp hid s R =>
  plainObj_wpAny_Assign_Attribute (h.go R (fun v s1 d m R1 h1 => h1.go R1 (fun ov s2 d1 m1 R2 z => by
    cases z with | mk a Cl dx fs m2 e GO T hx hz U hN =>
    subst e
    have := R2.top.ptr_inv; dsimp only at this; subst this
    exact wp_setAttr GO T hx hz (U hid) R2.pop.pop (R2.tmp _ (.tail _ (.head _))) fun s3 R3 => ⟨loc, m2, R3, hN⟩))) (hs _)
theorem Upd.app {a : Addr} {o o' : AO} {l l' : MH} (U : Upd a o o' l l') (r : MH) : Upd a o o' (l ++ r) (l' ++ r) := by
  obtain ⟨x, y, rfl, rfl⟩ := U.split
  rw [List.append_assoc, List.append_assoc]
  clear U
  induction x with
  | nil => exact .head
  | cons p x ih => exact .tail ih

end

section
set_option tactic.hygienic false
open PySem PySem.W PyProof.Rows
variable {G : Glb} {C C' : Cx} {loc loc' : Loc} {tmp tmp' : Tmp} {mh hid l l' : MH} {s s' s₁ : Shared}
variable {X : Addr → Loc → MH → Prop} {Q : D → MH → Prop} {Rt : D → MH → Prop} {N : Loc → MH → Prop}

theorem EV_app {es : List Expr} {pos : Pos} (h : EVs G C loc mh es X fun ds m => ds.length ≤ sizeLine ∧ ∀ a, Q (.ptr a) ((a, .app ds) :: m)) : EV G C loc mh (.List es pos) X Q := fun tmp hid s R =>
  PySem.wpAny_List (h.go R (fun vs s1 ds m R1 V ⟨hl, q⟩ => by
    refine ⟨V.length ▸ hl, .ptr s1.heap.objs.size, (s1.heap.objs.size, .app ds) :: m, ?_, q _⟩
    have R2 : Rep G C loc tmp ((s1.heap.objs.size, .app ds) :: (m ++ hid)) { s1 with heap := s1.heap.push { cls := .type "list", data := .seq vs.toArray } } := by
      refine R1.add (fun b o e => Heap.get?_push_of_some _ e) rfl rfl (fun b hb => ?_) (by simp [foot, AO.more]) ?_
      · simp [foot, AO.more] at hb; exact size_none (Nat.le_of_eq hb.symm)
      · refine ⟨_, _, Heap.get?_push_size _ rfl, ?_⟩
        exact V.mono (.of (fun b o u₀ e => Heap.get?_push_of_some _ e) fun b hb => by
          rcases List.mem_append.mp hb with q | q
          · exact .inl (List.mem_append_left _ q)
          · rw [addrs_cons] at q
            rcases List.mem_append.mp q with q | q
            · simp [foot, AO.more] at q; exact .inr (by subst q; exact size_none (Nat.le_refl _))
            · exact .inl (List.mem_append_right _ q))
    exact R2.push (.ptr _)))

theorem Rep.freeze {a : Addr} {xs : List PyData} (R : Rep G C loc tmp mh s) (hm : (a, AO.list (xs.map .dat)) ∈ mh ∨ (a, AO.app (xs.map .dat)) ∈ mh) {mh' : MH} (hp : ∀ p ∈ mh', p ∈ mh) (hs : (addrs mh').Sublist (addrs mh)) (ha : a ∉ addrs mh') :
    Rep G C loc tmp mh' s ∧ VD s.heap (MM C mh') (.ref a) (.dat (.list xs)) := by
  have hM : ∀ b ∈ MM C mh', b ∈ MM C mh := fun b hb => (List.mem_append.mp hb).elim (fun q => List.mem_append_left _ q) fun q => List.mem_append_right _ (hs.subset q)
  have mono : Mono s.heap s.heap (MM C mh) (MM C mh') := .of (fun u₀ u₀ u₀ e => e) fun b h => .inl (hM b h)
  refine ⟨R.step (S := []) (fun u₀ h => nomatch h) (fun u₀ u₀ u₀ e => e) rfl rfl (fun p h => (R.obs p (hp p h)).mono mono fun u₀ u₀ u₀ e => e) (fun a h => .inl (hs.subset h)) ((nd_of R).sublist hs), ?_⟩
  have hO : ∃ vs, s.heap.IsList a vs ∧ VDs s.heap (MM C mh) vs.toList (xs.map .dat) := by
    rcases hm with hm | hm
    · exact R.obs _ hm
    · obtain ⟨vs, n, e, V⟩ := R.obs _ hm; exact ⟨vs, ⟨_, e, rfl, _, rfl⟩, V⟩
  refine absP fun P₀ hP₀ => ?_
  obtain ⟨vs, ⟨o, e, c, n, d⟩, V⟩ := hO
  refine hP₀ ?_; clear hP₀ P₀
  have haM : a ∈ addrs mh := hm.elim (fun hm => mem_addrs hm (by simp [foot])) fun hm => mem_addrs hm (by simp [foot])
  exact .dat (.list (fun q => (List.mem_append.mp q).elim (fun q => own_not R q haM) ha) e c d (V.mono mono).toFVs)
noncomputable def rem (a : Addr) (mh : MH) : MH := mh.filter fun p => !(p.1 == a)
noncomputable def MC (G : Glb) (C : Cx) (d : D) (x : Str) (pos : Pos) (args : List Expr) (loc : Loc) (mh : MH) (X : Addr → Loc → MH → Prop) (P : D → MH → Prop) : Prop :=
  ∀ tmp hid s v pl, Rep G C loc tmp (mh ++ hid) s → (v, d) ∈ tmp → wpAny (Mo G) C.A (getMethod v x pl) (fun fx s₂ => wpAny (Mo G) C.A (callWith pos fx.1 fx.2 (backTo pos (starEach args C.env)) []) (EVq G C loc tmp hid P) (EErr G C hid X) s₂) (EErr G C hid X) s
theorem EV_meth {o : Expr} {x : Str} {apos pos : Pos} {args : List Expr} (h : EV G C loc mh o X fun d m => MC G C d x pos args loc m X Q)
    (he : ∀ env, ∃ pl, eval (.Call (.Attribute o x apos) args [] pos) env = (do
      let ov ← eval o env
      standAt apos.atName
      let (f, first) ← holding [ov] (getMethod ov x pl)
      callWith pos f first (backTo pos (starEach args env)) []) := by intro _; exact ⟨_, rfl⟩) : EV G C loc mh (.Call (.Attribute o x apos) args [] pos) X Q := fun tmp hid s R => by
  obtain ⟨pl, he⟩ := he C.env
  refine MethodCall_ (pl := pl) (h.go R (fun v s1 d m R1 h1 => wpAny_mono (h1 _ hid s1 v pl R1 (.head _)) (fun fx s2 z => wpAny_mono z (fun r s3 hq2 => by obtain ⟨d, m, R3, q⟩ := hq2; exact ⟨d, m, R3.sub_tmp (fun p hp => by rcases List.mem_cons.mp hp with rfl | hp; exact .head _; exact .tail _ (.tail _ hp)), q⟩) fun u₀ u₀ x => x) fun u₀ u₀ x => x)) he
theorem mapSeq_obj (f : Array Value → Array Value) (c : Value) (vs : Array Value) (n : Nat) : ∃ n', Obj.mapSeq f { cls := c, data := .seq vs n } = { cls := c, data := .seq (f vs) n' } := ⟨_, rfl⟩
theorem app_turn {a : Addr} {o' : AO} {ds : List D} {mh' : MH} {h' : Heap} {k : Nat} (U : Upd a (.app ds) o' mh mh') (R : Rep G C loc tmp mh s) (hs : Heap.SameBut a s.heap h') (hm : o'.more = [])
    (hO : Mono s.heap h' (MM C mh) (MM C mh') → OD h' (MM C mh') a o') : Rep G C loc tmp mh' { s with heap := h', toks := k } := by
  have ftn : foot (a, o') = [a] := by unfold foot; rw [hm]
  have fto : foot (a, AO.app ds) = [a] := rfl
  have hM : ∀ b, b ∈ MM C mh' → b ∈ MM C mh := fun b hb => by
    obtain ⟨x, y, rfl, rfl⟩ := U.split
    simpa [MM, ftn, fto] using hb
  have ha : a ∈ MM C mh := List.mem_append_right _ (mem_addrs U.mem (by simp [foot]))
  have mono : Mono s.heap h' (MM C mh) (MM C mh') := .of (fun b o nb q => (hs.2 b fun z => nb (z ▸ ha)).trans q) fun b hb => .inl (hM b hb)
  exact R.set U (fun b o nb q => (hs.2 b fun z => nb (by rw [z]; simp [foot])).trans q) rfl rfl (fun b hb => .inl (by rw [fto]; rwa [ftn] at hb)) (by rw [ftn]; simp) (hO mono)
theorem lst_turn {a : Addr} {o' : AO} {ds : List D} {mh' : MH} {h' : Heap} {k : Nat} (U : Upd a (.list ds) o' mh mh') (R : Rep G C loc tmp mh s) (hs : Heap.SameBut a s.heap h') (hm : o'.more = [])
    (hO : Mono s.heap h' (MM C mh) (MM C mh') → OD h' (MM C mh') a o') : Rep G C loc tmp mh' { s with heap := h', toks := k } := by
  have ftn : foot (a, o') = [a] := by unfold foot; rw [hm]
  have fto : foot (a, AO.list ds) = [a] := rfl
  have hM : ∀ b, b ∈ MM C mh' → b ∈ MM C mh := fun b hb => by
    obtain ⟨x, y, rfl, rfl⟩ := U.split
    simpa [MM, ftn, fto] using hb
  have ha : a ∈ MM C mh := List.mem_append_right _ (mem_addrs U.mem (by simp [foot]))
  have mono : Mono s.heap h' (MM C mh) (MM C mh') := .of (fun b o nb q => (hs.2 b fun z => nb (z ▸ ha)).trans q) fun b hb => .inl (hM b hb)
  exact R.set U (fun b o nb q => (hs.2 b fun z => nb (by rw [z]; simp [foot])).trans q) rfl rfl (fun b hb => .inl (by rw [fto]; rwa [ftn] at hb)) (by rw [ftn]; simp) (hO mono)
theorem MC_append {a : Addr} {ds : List D} {e : Expr} {pos : Pos} {P : D → MH → Prop} (h : ∃ ds, (a, AO.app ds) ∈ mh) (h2 : EV G C loc mh e X fun d m => ∃ ds m', ds.length < sizeLine ∧ (∀ hid, Upd a (.app ds) (.app (ds ++ [d])) (m ++ hid) (m' ++ hid)) ∧ P .none m')
    (he : ∀ env, starEach [e] env = (false, eval e env) :: starEach [] env := by intro _; rfl) (hp : ∀ env, (backTo pos (starEach [] env)).any (·.1) = false := by intro _; rfl) : MC G C (.ptr a) "append" pos [e] loc mh X P := fun tmp hid s v pl R hv => by
  have V := R.tmp _ hv
  have := V.ptr_inv; dsimp only at this; subst this
  refine absP fun P₀ hP₀ => ?_
  obtain ⟨ds0, hm⟩ := h
  obtain ⟨vs0, n0, e0, _⟩ := R.obs _ (List.mem_append_left _ hm)
  refine hP₀ ?_; clear hP₀ P₀
  refine Calls.getMethod_list_append e0 rfl rfl ?_
  refine callWith_method1 (wpAny_items_cons (h2.go R (fun d s1 dv m R1 ⟨ds, m', hz, U, q⟩ => wpAny_items_nil ?_)) (he _)) (he _) (hp _)
  refine absP fun P₀ hP₀ => ?_
  obtain ⟨vs, n, e1, W⟩ := R1.pop.obs _ (U hid).mem
  refine hP₀ ?_; clear hP₀ P₀
  dsimp only at e1
  have hz' := W.length; rw [Array.length_toList] at hz'
  refine call_meets (s := s1) F.slot_list_append ⟨_, e1, rfl⟩ F.entry_list_append (F.args_list_append_2 _ _) (list_append a vs n d (by rw [hz']; lia)) ⟨e1, .none, m', ?_, q⟩
  obtain ⟨n', ee⟩ := mapSeq_obj (fun x => x.push d) (.type "list") vs n
  have e2 := Heap.get?_update_self (Obj.mapSeq fun x => x.push d) e1 (by rw [ee]; rfl)
  rw [ee] at e2
  refine (app_turn (U hid) R1.pop (Heap.SameBut.update ..) rfl fun mono => ⟨_, _, e2, ?_⟩).push (.dat .none)
  rw [Array.toList_push]
  exact (W.mono mono).append (.cons (R1.top.mono mono) .nil)

theorem wp_setItem {a : Addr} {ds : List D} {k : Int} {t : Tok} {v : Value} {d : D} {mh' : MH} {A : Around} {E : Value → Shared → Prop} {Qu : Unit → Shared → Prop} (U : Upd a (.list ds) (.list (ds.set k.toNat d)) mh mh') (h0 : 0 ≤ k) (hf : k < 2 ^ 63) (hn : k < ds.length)
    (R : Rep G C loc tmp mh s) (V : VD s.heap (MM C mh) v d) (h : ∀ s', Rep G C loc tmp mh' s' → Qu () s') : wpAny (Mo G) A (setItem (.ref a) (.int k t) v) Qu E s := by
  obtain ⟨vs, hl, W⟩ := R.obs _ U.mem
  dsimp only at hl
  have hz' := W.length; rw [Array.length_toList] at hz'
  refine wpAny_setItem_list hl h0 hf (by rw [hz']; exact hn) fun h' hl' hs => h _ (lst_turn (k := s.toks) U R hs rfl fun mono => ⟨_, hl', ?_⟩)
  rw [Array.toList_setIfInBounds]
  exact (W.mono mono).set _ (V.mono mono)
inductive PutIt (loc : Loc) (N : Loc → MH → Prop) (d d1 d2 : D) (m2 : MH) : Prop
  | mk (a : Addr) (ds : List D) (k : Int) (m3 : MH) (e1 : d1 = .ptr a) (e2 : d2 = .int k) (h0 : 0 ≤ k) (hf : k < 2 ^ 63) (hn : k < ds.length) (U : ∀ hid, Upd a (.list ds) (.list (ds.set k.toNat d)) (m2 ++ hid) (m3 ++ hid)) (n : N loc m3)
theorem SX_setItem {o i e : Expr} {p1 pos : Pos} (h : EV G C loc mh e X fun d m => EV G C loc m o X fun d1 m1 => EV G C loc m1 i X (PutIt loc N d d1))
    (hs : ∀ env, swapsWith e (some (.Subscript o i p1)) pos.line env = pure false := by intro _; rfl) : SX G C loc mh (.Assign [.Subscript o i p1] e pos) X Rt N := fun tmp hid s R =>
  wpAny_Assign_Subscript (h.go R (fun v s1 d m R1 h1 => h1.go R1 (fun ov s2 d1 m1 R2 h2 => h2.go R2 (fun iv s3 d2 m2 R3 z => by
    cases z with | mk a ds k m3 e1 e2 h0 hf hn U hN =>
    subst e1; subst e2
    obtain ⟨t, e⟩ := R3.top.int_inv; dsimp only at e; subst e
    have := R3.pop.top.ptr_inv; dsimp only at this; subst this
    exact wp_setItem (U hid) h0 hf hn R3.pop.pop.pop (R3.tmp _ (.tail _ (.tail _ (.head _)))) fun s4 R4 => ⟨loc, m3, R4, hN⟩)))) (hs _)
theorem Rep.app_list {a : Addr} {ds : List D} {mh' : MH} (U : Upd a (.app ds) (.list ds) mh mh') (R : Rep G C loc tmp mh s) : Rep G C loc tmp mh' s := by
  refine absP fun P₀ hP₀ => ?_
  obtain ⟨vs, n, e, V⟩ := R.obs _ U.mem
  refine hP₀ ?_; clear hP₀ P₀
  exact app_turn (h' := s.heap) (k := s.toks) U R ⟨rfl, fun u₀ u₀ => rfl⟩ rfl fun mono => ⟨vs, ⟨_, e, rfl, _, rfl⟩, V.mono mono⟩

end

section
set_option tactic.hygienic false
open PySem PySem.W PyProof.Rows
variable {G : Glb} {C C' : Cx} {loc loc' : Loc} {tmp tmp' : Tmp} {mh hid l l' : MH} {s s' s₁ : Shared}
variable {X : Addr → Loc → MH → Prop} {Q : D → MH → Prop} {Rt : D → MH → Prop} {N : Loc → MH → Prop}

noncomputable def blank (sc : Scope) : Env := { scope := sc, locals := 0, globals := 0, cells := [] }
theorem swapped_blank (ts : List Expr) (v : Expr) (env : Env) : swappedStores ts v env = swappedStores ts v (blank env.scope) := rfl
theorem VDs.rev {h : Heap} {M : List Addr} : ∀ {vs : List Value} {ds : List D}, VDs h M vs ds → VDs h M vs.reverse ds.reverse
  | _, _, .nil => .nil
  | _, _, .cons a b => by rw [List.reverse_cons, List.reverse_cons]; exact b.rev.append (.cons a .nil)
theorem VDs.zip {h : Heap} {M : List Addr} {vs : List Value} {ds : List D} (x : VDs h M vs ds) : ∀ p ∈ vs.zip ds, VD h M p.1 p.2 := by
  induction x with
  | nil => exact fun p hp => nomatch hp
  | cons a _ ih =>
    intro p hp
    rcases List.mem_cons.mp hp with rfl | hp
    · exact a
    · exact ih p hp
theorem VDs.ofZip {h : Heap} {M : List Addr} {vs : List Value} {ds : List D} (hl : vs.length = ds.length) (hh : ∀ p ∈ vs.zip ds, VD h M p.1 p.2) : VDs h M vs ds := by
  induction vs generalizing ds with
  | nil => cases ds with
    | nil => exact .nil
    | cons => cases hl
  | cons v vs ih => cases ds with
    | nil => cases hl
    | cons d ds => exact .cons (hh (v, d) (.head _)) (ih (Nat.succ.inj hl) fun p hp => hh p (.tail _ hp))
theorem not_new {h h' : Heap} {o : Obj} (hx : Heap.ExtBut (h.push o).objs.size (h.push o) h') : ∀ b x, h.get? b = some x → h'.get? b = some x := fun b x e => hx b x (fun q => by
  have := lt_of_get e
  rw [Heap.size_push] at q
  exact absurd this (by rw [q]; exact Nat.not_lt.mpr (Nat.le_succ _))) (Heap.get?_push_of_some _ e)
theorem Rep.withTmp (R : Rep G C loc tmp mh s) (h : ∀ p ∈ tmp', VD s.heap (MM C mh) p.1 p.2) : Rep G C loc tmp' mh s := { R with tmp := h }
theorem wp_binds {A : Around} {E : Value → Shared → Prop} {Qu : Unit → Shared → Prop} {ns : List Str} {vs : List Value} {ds : List D} {loc : Loc} {s : Shared} (hl : ns.length = ds.length) (hn : ∀ n ∈ ns, Sto C n) (R : Rep G C loc tmp mh s) (V : VDs s.heap (MM C mh) vs ds)
    (h : ∀ s', Rep G C ((ns.zip ds).reverse ++ loc) tmp mh s' → Qu () s') : wpAny (Mo G) A (assignInOrder (ns.map fun n => bindName C.env n) vs) Qu E s := by
  induction ns generalizing vs ds loc s with
  | nil =>
    cases ds with
    | nil => obtain rfl := V.unnil; exact wpAny_assignInOrder_none (h s R)
    | cons => cases hl
  | cons n ns ih =>
    cases ds with
    | nil => cases hl
    | cons d ds =>
      obtain ⟨v, vs, rfl, a, b⟩ := V.uncons
      have R0 : Rep G C loc (((v, d) :: vs.zip ds) ++ tmp) mh s := R.withTmp fun p hp => by
        rcases List.mem_append.mp hp with hp | hp
        · rcases List.mem_cons.mp hp with rfl | hp
          · exact a
          · exact b.zip p hp
        · exact R.tmp p hp
      have hlen := b.length
      refine wpAny_assignInOrder_more (wpAny_bindName (wp_store (d := d) R0 a (hn n (.head _)) fun s1 R1 => ?_))
      have V1 : VDs s1.heap (MM C mh) vs ds := .ofZip hlen fun p hp => R1.tmp p (List.mem_append_left _ (.tail _ hp))
      refine ih (Nat.succ.inj hl) (fun m hm => hn m (.tail _ hm)) (R1.sub_tmp fun p hp => List.mem_append_right _ hp) V1 fun s2 R2 => h s2 ?_
      rw [List.zip_cons_cons, List.reverse_cons, List.append_assoc]; exact R2
theorem push_tuple (R : Rep G C loc tmp mh s) {vs : List Value} {ds : List D} (V : VDs s.heap (MM C mh) vs ds) {k : Nat} : Rep G C loc tmp mh { s with heap := s.heap.push { cls := .type "tuple", data := .seq vs.toArray }, toks := k } := R.alloc _ _
theorem SX_tuple {elts es : List Expr} {k k2 : Nat} {tpos vpos pos : Pos} {names : List Str} (hh : C.A.handled = none) (hn : ∀ n ∈ names, Sto C n) (h : EVs G C loc mh es X fun ds m => ds.length ≤ sizeLine ∧ names.length = ds.length ∧ N (names.zip ds ++ loc) m)
    (hw : swappedStores [.Tuple elts k tpos] (.Tuple es k2 vpos) (blank C.env.scope) = pure (some names)) (hs : ∀ env, swapsWithSole [.Tuple elts k tpos] (.Tuple es k2 vpos) pos.line env = pure false := by intro _; rfl) :
    SX G C loc mh (.Assign [.Tuple elts k tpos] (.Tuple es k2 vpos) pos) X Rt N := fun tmp hid s R => by
  refine Assign_Tuple_swapped (names := names) (PySem.wpAny_Tuple (h.go R (fun vs s1 ds m R1 V ⟨hz, hl, hN⟩ => ⟨V.length ▸ hz, ?_⟩))) (hs _) ((swapped_blank _ _ _).trans hw)
  have hk : names.length = vs.toArray.size := by rw [List.size_toArray, V.length]; exact hl
  rw [hk]
  have R2 := push_tuple (k := s1.toks) R1 V
  refine unpackItems_tuple hh ⟨_, Heap.get?_push_size _ rfl, rfl, _, rfl⟩ fun h' hx => ?_
  have kk : ∀ b o, s1.heap.get? b = some o → h'.get? b = some o := not_new hx
  have R3 : Rep G C loc tmp (m ++ hid) { s1 with heap := h', toks := s1.toks } := R1.kept kk
  have V3 : VDs h' (MM C (m ++ hid)) vs ds := V.mono (.of (fun b o u₀ e => kk b o e) fun u₀ h => .inl h)
  refine wp_binds (ns := names.reverse) (ds := ds.reverse) (by simpa using hl) (fun n hm => hn n (List.mem_reverse.mp hm)) R3 V3.rev fun s4 R4 => ⟨_, m, R4, ?_⟩
  have e : (names.reverse.zip ds.reverse).reverse = names.zip ds := by rw [List.zip_eq_zipWith, List.zip_eq_zipWith, ← List.reverse_zipWith hl, List.reverse_reverse]
  rw [e]; exact hN
theorem SX_tuple2O {es : List Expr} {k k2 : Nat} {tpos vpos pos p1 p2 : Pos} {n1 n2 : Str} (hh : C.A.handled = none) (hn1 : Sto C n1) (hn2 : Sto C n2) (h : EVs G C loc mh es X fun ds m => ∃ d1 d2, ds = [d1, d2] ∧ N ((n2, d2) :: (n1, d1) :: loc) m)
    (hw : swappedStores [.Tuple [.Name n1 p1, .Name n2 p2] k tpos] (.Tuple es k2 vpos) (blank C.env.scope) = pure none)
    (hs : ∀ env, swapsWithSole [.Tuple [.Name n1 p1, .Name n2 p2] k tpos] (.Tuple es k2 vpos) pos.line env = pure false := by intro _; rfl) :
    SX G C loc mh (.Assign [.Tuple [.Name n1 p1, .Name n2 p2] k tpos] (.Tuple es k2 vpos) pos) X Rt N := fun tmp hid s R => by
  refine Assign_Tuple (PySem.wpAny_Tuple (h.go R (fun vs s1 ds m R1 V hq2 => ?_))) (hs _) ((swapped_blank _ _ _).trans hw)
  refine absP fun P₀ hP₀ => ?_
  obtain ⟨d1, d2, e, hN⟩ := hq2
  refine hP₀ ?_; clear hP₀ P₀
  subst e
  obtain ⟨v1, v2, rfl, V1, V2⟩ := V.two
  refine ⟨by rw [sizeLine_eq]; simp, ?_⟩
  refine wpAny_assign_Tuple hh ⟨_, Heap.get?_push_size _ rfl, rfl, _, rfl⟩ (by first | rfl | simp [assignEach]) (by first | rfl | simp [assignEach]) fun h' hx => ?_
  have kk : ∀ b o, s1.heap.get? b = some o → h'.get? b = some o := not_new hx
  have R3 : Rep G C loc tmp (m ++ hid) { s1 with heap := h', toks := s1.toks } := R1.kept kk
  have mo : Mono s1.heap h' (MM C (m ++ hid)) (MM C (m ++ hid)) := .of (fun b o u₀ e => kk b o e) fun u₀ h => .inl h
  have R4 : Rep G C loc ((v2, d2) :: tmp) (m ++ hid) { s1 with heap := h', toks := s1.toks } := R3.push (V2.mono mo)
  show wpAny _ _ (assignInOrder [assign (.Name n1 p1) C.env, assign (.Name n2 p2) C.env] [v1, v2]) _ _ _
  refine wpAny_assignInOrder_more (wpAny_assign_Name (wp_store R4 (V1.mono mo) hn1 fun s5 R5 => ?_))
  refine wpAny_assignInOrder_more (wpAny_assign_Name (wp_store R5.pop R5.top hn2 fun s6 R6 => wpAny_assignInOrder_none ⟨_, m, R6, hN⟩))

end

section
set_option tactic.hygienic false
open PySem PySem.W PyProof.Rows
variable {G : Glb} {C C' : Cx} {loc loc' : Loc} {tmp tmp' : Tmp} {mh hid l l' : MH} {s s' s₁ : Shared}
variable {X : Addr → Loc → MH → Prop} {Q : D → MH → Prop} {Rt : D → MH → Prop} {N : Loc → MH → Prop}

theorem relabel_blank (sc : Scope) (env : Env) : relabel sc env = relabel sc (blank env.scope) := rfl
structure SubC (C C2 : Cx) (sc : Scope) : Prop where
  scope : C2.env.scope = relabel sc (blank C.env.scope)
  A : C2.A = C.A
  fs : C2.fs = C.fs
theorem SubC.can {C2 : Cx} {sc : Scope} {n : Nat} (S : SubC C C2 sc) (CN : Can G C n) : Can G C2 n := ⟨S.A ▸ CN.room, S.A ▸ CN.hand, by rw [S.A, S.fs]; exact CN.frames⟩
theorem SubC.kindOf {C2 : Cx} {sc scO : Scope} (S : SubC C C2 sc) (I : C.env.scope = scO) (x : Str) : C2.env.kindOf x = (relabel sc (blank scO)).names.lookup x := by unfold Env.kindOf; rw [S.scope, I]

theorem closure_go {env : Env} (f : Str × NameKind → List (Str × Addr) → Sem (ForInStep (List (Str × Addr)))) (hf : ∀ n k cs, f (n, k) cs = if k == .free then (do let a ← cellOf env n; pure (.yield ((n, a) :: cs))) else pure (.yield cs)) (names : List (Str × NameKind)) : ∀ (acc : List (Str × Addr)), (∀ y, (y, NameKind.free) ∈ names → ∃ c, env.cells.lookup y = some c) → (∀ y c, acc.lookup y = some c → env.cells.lookup y = some c) →
      ∃ cl, forIn names acc f = (pure cl : Sem _) ∧ (∀ y c, cl.lookup y = some c → env.cells.lookup y = some c) ∧ ∀ y, ((acc.lookup y).isSome ∨ (y, NameKind.free) ∈ names) → (cl.lookup y).isSome := by
  induction names with
  | nil =>
    exact fun acc u₀ ha => ⟨acc, rfl, ha, fun y h => h.elim id fun q => nomatch q⟩
  | cons hd r ih =>
    obtain ⟨n, k⟩ := hd
    exact fun acc hn ha => by
      rw [List.forIn_cons, hf]
      cases hk : k == NameKind.free with
      | true =>
        have hk' : k = .free := by simpa using hk
        subst hk'
        obtain ⟨c, hc⟩ := hn n (.head _)
        have e : cellOf env n = pure c := by unfold cellOf; rw [hc]
        obtain ⟨cl, e1, e2, e3⟩ := ih ((n, c) :: acc) (fun y hy => hn y (.tail _ hy)) fun y c' h => by
          rw [List.lookup_cons] at h
          cases q : y == n with
          | true => rw [q] at h; cases h; rw [beq_iff_eq.mp q]; exact hc
          | false => rw [q] at h; exact ha y c' h
        refine ⟨cl, ?_, e2, fun y h => e3 y ?_⟩
        · rw [if_pos rfl, e]; exact e1
        · rw [List.lookup_cons]
          rcases h with h | h
          · cases q : y == n with
            | true => exact .inl rfl
            | false => exact .inl h
          · rcases List.mem_cons.mp h with q | q
            · cases q; exact .inl (by simp)
            · exact .inr q
      | false =>
        refine absP fun P₀ hP₀ => ?_
        obtain ⟨cl, e1, e2, e3⟩ := ih acc (fun y hy => hn y (.tail _ hy)) ha
        refine hP₀ ?_; clear hP₀ P₀
        refine ⟨cl, ?_, e2, fun y h => e3 y (h.imp id fun q => ?_)⟩
        · rw [if_neg (by simp)]; exact e1
        · rcases List.mem_cons.mp q with q | q
          · cases q; simp at hk
          · exact q
theorem closure_ex {sc : Scope} {env : Env} (h : ∀ y, (y, NameKind.free) ∈ sc.names → ∃ c, env.cells.lookup y = some c) :
    ∃ cl, closureFor sc env = pure cl ∧ (∀ y c, cl.lookup y = some c → env.cells.lookup y = some c) ∧ ∀ y, (y, NameKind.free) ∈ sc.names → (cl.lookup y).isSome := by
  obtain ⟨cl, a, b, c⟩ := closure_go (env := env) (fun x r => if x.2 == .free then (do let a ← cellOf env x.1; pure (.yield ((x.1, a) :: r))) else pure (.yield r)) (fun u₀ u₀ u₀ => rfl) sc.names [] h fun y c h => by cases h
  refine ⟨cl, ?_, b, fun y hy => c y (.inr hy)⟩
  unfold closureFor
  rw [← a]
  simp

theorem Upd.mid {a : Addr} {o o' : AO} : ∀ (x y : MH), Upd a o o' (x ++ (a, o) :: y) (x ++ (a, o') :: y)
  | [], _ => .head
  | _ :: x, y => .tail (Upd.mid x y)
noncomputable def compCx (C : Cx) (ce : Env) (H : Addr) (L : MH) (s : Shared) : Cx := { A := C.A, env := ce, own := [H], fs := C.fs, s0 := s, M0 := H :: addrs L }
theorem comp_in {ce : Env} {H : Addr} {o : Obj} {sc : Scope} {L : MH} {locF : Loc} {mm : Str → Option Value} (R : Rep G C loc tmp ((H, .raw o) :: L) s) (hns : s.heap.Ns H mm) (hL : ce.locals = H) (hsc : ce.scope = relabel sc C.env) (hk : sc.kind = .function)
    (hg : ce.globals = C.env.globals) (hb : ce.builtins = C.env.builtins) (hcl : ∀ y c, ce.cells.lookup y = some c → C.env.cells.lookup y = some c)
    (hcs : ∀ y, (y, NameKind.free) ∈ sc.names → (ce.cells.lookup y).isSome) (hF : ∀ y d, locF.lookup y = some d → loc.lookup y = some d ∧ C.env.kindOf y ≠ some .local ∧ (y, NameKind.free) ∈ sc.names ∧ (ce.kindOf y = some .cell ∨ ce.kindOf y = some .free)) :
    Rep G (compCx C ce H L s) locF [] L s ∧ Under C (compCx C ce H L s) ((H, .raw o) :: L) s := by
  have aH : H ∈ addrs ((H, AO.raw o) :: L) := by rw [addrs_cons]; simp [foot]
  have aL : ∀ a ∈ addrs L, a ∈ addrs ((H, AO.raw o) :: L) := fun a ha => by rw [addrs_cons]; exact List.mem_append_right _ ha
  have all : ∀ a, a ∈ H :: addrs L ↔ a ∈ addrs ((H, AO.raw o) :: L) := fun a => by rw [addrs_cons]; simp [foot, AO.more]
  have nd := nd_of R
  rw [addrs_cons] at nd
  have nH : H ∉ addrs L := fun q => (List.nodup_append.mp nd).2.2 H (by simp [foot]) H q rfl
  have mono : Mono s.heap s.heap (MM C ((H, AO.raw o) :: L)) (MM (compCx C ce H L s) L) := .of (fun u₀ u₀ u₀ e => e) fun b hb => .inl (List.mem_append_right _ ((all b).mp (by
    rcases List.mem_append.mp hb with q | q
    · rw [List.mem_singleton.mp q]; exact .head _
    · exact .tail _ q)))
  obtain ⟨m0, hm0, hl⟩ := R.ns
  refine ⟨⟨⟨by show ce.scope.kind = _; rw [hsc]; exact hk, by show ce.globals = _; rw [hg]; exact R.ok.gl, by show ce.builtins = _; rw [hb]; exact R.ok.bi, R.base, fun a ha => R.new (List.mem_append_right _ ((all a).mp ha)), R.ok.fnew, by show ce.locals ∈ _; rw [hL]; exact .head _, fun a ha q => ?_, fun y c e z => ?_, fun x y c hx hy => R.ok.cinj x y c (hcl _ _ hx) (hcl _ _ hy), fun e he => ?_⟩, ?_, fun x c e => ?_, (fun u₀ h => nomatch h), fun p hp => (R.obs p (.tail _ hp)).mono mono fun u₀ u₀ u₀ e => e, fun a ha => ?_, ?_, fun a ha => ?_, ?_⟩, ⟨rfl, ?_, fun a ha => .inl ha⟩⟩
  · obtain ⟨e, he, hf⟩ := List.mem_filterMap.mp ha
    refine absP fun P₀ hP₀ => ?_
    obtain ⟨_, L', o', hf', _, _, n⟩ := R.frame he
    refine hP₀ ?_; clear hP₀ P₀
    rw [hf] at hf'; cases hf'; exact n ((all _).mp q)
  · have := (R.cells y c (hcl _ _ e)).1
    exact this (by rw [z]; show ce.locals ∈ _; rw [hL]; exact aH)
  · refine absP fun P₀ hP₀ => ?_
    obtain ⟨hk', L', o', hf, ho, hd, _⟩ := R.frame he
    refine hP₀ ?_; clear hP₀ P₀
    exact ⟨hk', L', hf, .inr ⟨o', ho, hd⟩⟩
  · refine ⟨mm, by show s.heap.Ns ce.locals mm; rw [hL]; exact hns, fun y d e => ?_⟩
    refine absP fun P₀ hP₀ => ?_
    obtain ⟨a, b, c, k⟩ := hF y d e
    obtain ⟨v, hv, hd⟩ := hl y d a
    refine hP₀ ?_; clear hP₀ P₀
    refine ⟨v, ?_, hd.mono mono⟩
    obtain ⟨cc, hcc⟩ := Option.isSome_iff_exists.mp (hcs y c)
    have hcell : s.heap.IsCell cc (some v) := by
      unfold VarAt at hv
      split at hv
      · rename_i q; exact absurd q b
      · obtain ⟨c', q, z⟩ := hv; rw [hcl y cc hcc] at q; cases q; exact z
      · obtain ⟨c', q, z⟩ := hv; rw [hcl y cc hcc] at q; cases q; exact z
      · exact hv.elim
    unfold VarAt
    rcases k with k | k
    · rw [show (compCx C ce H L s).env.kindOf y = some .cell from k]; exact ⟨cc, hcc, hcell⟩
    · rw [show (compCx C ce H L s).env.kindOf y = some .free from k]; exact ⟨cc, hcc, hcell⟩
  · obtain ⟨a, b⟩ := R.cells x c (hcl _ _ e)
    exact ⟨fun q => a (aL _ q), b⟩
  · rw [List.mem_singleton.mp ha]
    refine absP fun P₀ hP₀ => ?_
    obtain ⟨o', es, ep, e, d, r⟩ := hns
    refine hP₀ ?_; clear hP₀ P₀
    exact ⟨o', e, fun vs n q => by rw [d] at q; cases q⟩
  · exact List.nodup_append.mpr ⟨by simp [compCx], (List.nodup_append.mp nd).2.1, fun a ha b hb q => by rw [List.mem_singleton.mp ha] at q; exact nH (q ▸ hb)⟩
  · rcases List.mem_append.mp ha with q | q
    · exact .inl (by rw [List.mem_singleton.mp q]; exact .head _)
    · exact .inl (.tail _ q)
  · exact .refl _ _ _
  · show H :: addrs L = addrs ((H, AO.raw o) :: L)
    rw [addrs_cons]; rfl
theorem comp_out {ce : Env} {H : Addr} {o : Obj} {L L' : MH} {loc2 : Loc} {tmp2 : Tmp} (R : Rep G C loc tmp ((H, .raw o) :: L) s) (hL : ce.locals = H) (U : Under C (compCx C ce H L s) ((H, .raw o) :: L) s) (R2 : Rep G (compCx C ce H L s) loc2 tmp2 L' s') :
    ∃ o', (∃ mm, s'.heap.Ns H mm) ∧ Rep G C loc tmp ((H, .raw o') :: L') s' ∧ Mono s'.heap s'.heap (MM (compCx C ce H L s) L') (MM C ((H, .raw o') :: L')) := by
  obtain ⟨o', e', _⟩ := R2.there H (.head _)
  have nH : H ∉ addrs L' := own_not R2 (.head _)
  have aH : H ∈ addrs ((H, AO.raw o) :: L) := by rw [addrs_cons]; simp [foot]
  obtain ⟨m2, hm2, _⟩ := R2.ns
  refine ⟨o', ⟨m2, by have : (compCx C ce H L s).env.locals = H := hL; rw [← this]; exact hm2⟩, R.back2 U R2 (l2 := (H, .raw o') :: L') (fun a ha => ?_) (fun u₀ mo p hp => ?_) ?_⟩
  · rw [addrs_cons] at ha
    rcases List.mem_append.mp ha with q | q
    · simp [foot, AO.more] at q; subst q; exact .inr ⟨.head _, aH⟩
    · exact .inl q
  · rcases List.mem_cons.mp hp with rfl | hp
    · exact e'
    · exact (R2.obs p hp).mono mo fun u₀ u₀ u₀ e => e
  · rw [addrs_cons]
    exact List.nodup_append.mpr ⟨by simp [foot, AO.more], nd_of R2, fun a ha b hb q => by simp [foot, AO.more] at ha; subst ha; exact nH (q ▸ hb)⟩

noncomputable def IFS (G : Glb) (C : Cx) (loc : Loc) (mh : MH) (ifs : List Expr) (Q : Bool → MH → Prop) : Prop := match ifs with
  | [] => Q true mh
  | [c] => TT G C loc mh c NoX Q
  | _ => False
theorem NoErr {e : Value} {P : Prop} (x : EErr G C hid NoX e s) : P := by obtain ⟨_, _, _, _, _, _, _, h⟩ := x; exact h.elim
theorem IFS.go {ifs : List Expr} {Qb : Bool → MH → Prop} (h : IFS G C loc mh ifs Qb) (R : Rep G C loc tmp (mh ++ hid) s) {E : Value → Shared → Prop} :
    wpAny (Mo G) C.A (forIn ifs true fun c r => if r = true then do let ok ← isTrue c C.env (eval c C.env); pure (ForInStep.yield ok) else pure (ForInStep.yield r)) (TTq G C loc tmp hid Qb) E s := by
  match ifs, h with
  | [], h => exact wpAny_tests_nil ⟨mh, R, h⟩
  | [c], h => exact wpAny_tests_one (wpAny_mono (h tmp hid s R) (fun u₀ u₀ q => q) fun u₀ u₀ x => NoErr x)

theorem lookup_relabel_free {env : Env} (hk : env.scope.kind = .function) {x : Str} (hx : env.kindOf x = some .cell) {names : List (Str × NameKind)} : names.lookup x = some .free →
    (names.map fun (n, k) => if (k == NameKind.free && env.scope.kind == .function && env.kindOf n == some .cell) then (n, NameKind.cell) else (n, k)).lookup x = some .cell := by
  induction names with
  | nil =>
    exact fun h => by simp at h
  | cons hd r ih =>
    obtain ⟨n, k⟩ := hd
    exact fun h => by
      rw [List.lookup_cons] at h
      rw [List.map_cons, List.lookup_cons]
      cases q : x == n with
      | true =>
        rw [q] at h; cases h
        have : x = n := beq_iff_eq.mp q
        subst this
        simp [hk, hx]
      | false =>
        rw [q] at h
        have e : (match (n, k) with | (n, k) => if (k == NameKind.free && env.scope.kind == ScopeKind.function && env.kindOf n == some NameKind.cell) = true then (n, NameKind.cell) else (n, k)).1 = n := by dsimp only; split <;> rfl
        dsimp only at e ⊢
        rw [e, q]
        exact ih h
structure CompOk (C : Cx) (sc : Scope) (x : Str) (locF loc : Loc) : Prop where
  kind : sc.kind = .function
  nocell : ∀ y ∈ sc.names, y.2 ≠ .cell
  names : ∀ y ∈ sc.names, y.2 = .local → sc.names.lookup y.1 = some .local
  x : sc.names.lookup x = some .local
  free : ∀ y, (y, NameKind.free) ∈ sc.names → C.env.kindOf y = some .cell ∧ sc.names.lookup y = some .free ∧ ∃ c, C.env.cells.lookup y = some c
  locF : ∀ y d, locF.lookup y = some d → loc.lookup y = some d ∧ (y, NameKind.free) ∈ sc.names


end

section
set_option tactic.hygienic false
open PySem PySem.W
open PySem PySem.Builtin PySem.Builtin.ObjectAttr

section sExc
variable {prog : Program} {w : World} {A : Around} {E : Value → Shared → Prop} {R : Result → Shared → Prop} {h : Heap} {g : Array GenState} {d : Drawn} {t : Nat} {os : OsState}
variable {nm q : Str} {C N : Addr} {bs bm bmB : List Value} {hdct : Bool} {sn : List Str} {sub : List Value} {ab : Bool} {col : Option Bool} {dd : Option Addr} {k0 k1 k2 k3 k5 : Option Value} {B newId initId : String}
noncomputable abbrev excO (C t : Addr) : Obj := { cls := .ref C, data := .fields #[.ref t, .none, .none, .none, .bool false, .none] }
noncomputable abbrev tupO (rest : List Value) : Obj := { cls := .type "tuple", data := .seq rest.toArray }

theorem exc_check {M : Model} (F : ExcBaseFacts B newId initId bmB) (hB : bm.contains (.type B) = true) {rest : List Value} {Q : Unit → Shared → Prop} (hC : h.get? C = some (excClassObj nm q C N bs bm hdct sn sub ab col dd k0 k1 k2 k3 k5 newId))
    (hq : Q () ⟨h, g, d, t, os⟩) : wpAny M A (checkBuiltinCall newId ⟨.ref C :: rest, []⟩) Q E ⟨h, g, d, t, os⟩ := by
  have hcont : (Value.ref C :: bm).contains (.type B) = true := by rw [List.contains_cons, hB, Bool.or_true]
  have hstar := F.noStar
  simp only [checkBuiltinCall, F.newKind, F.newSplit, F.newRow]
  repeat (first | refine wpAny_loadPart_at hC ?_ | (refine wpAny_isSubtype_exc hC ?_; rw [hcont]) | refine wpAny_staticBase_exc hC ?_ | refine wpAny_madeBy_exc hC ?_ | simp only [bne_self_eq_false, Bool.false_eq_true, if_false] | wp_step)
  exact hq
theorem exc_new (F : ExcBaseFacts B newId initId bmB) (hB : bm.contains (.type B) = true) (hAt : bm.contains (.type "AttributeError") = false) (hNa : bm.contains (.type "NameError") = false) {rest : List Value}
    (hC : h.get? C = some (excClassObj nm q C N bs bm hdct sn sub ab col dd k0 k1 k2 k3 k5 newId)) (hq : R (.ok (.ret (.ref (h.objs.size + 1)))) ⟨(h.push (tupO rest)).push (excO C h.objs.size), g, d, t, os⟩) (hrest : rest.length ≤ sizeLine) :
    codeAny (model prog w) A (.builtin newId ⟨.ref C :: rest, []⟩) R ⟨h, g, d, t, os⟩ := by
  have hends := F.ends
  have hcB : (Value.ref C :: bm).contains (.type B) = true := by rw [List.contains_cons, hB, Bool.or_true]
  have hcA : (Value.ref C :: bm).contains (.type "AttributeError") = false := by rw [List.contains_cons, hAt]; rfl
  have hcN : (Value.ref C :: bm).contains (.type "NameError") = false := by rw [List.contains_cons, hNa]; rfl
  refine codeAny_builtinAt F.entry ?_
  unfold Builtin.«BaseException.__new__»
  refine PySem.wpAt_bind ?_
  show wpAt _ _ _ (stack >>= _) _ _ _
  refine PySem.wpAt_bind (PySem.wpAt_stack fun p below => PySem.wpAt_of_wpAny ?_)
  wp_walk
  refine PySem.wpAt_of_wpAny ?_
  rw [F.owner]
  repeat (first | with_reducible refine wpAny_madeHere_exc F.canon hC ?_ | with_reducible refine wpAny_loadPart_at hC ?_ | (with_reducible refine wpAny_isSubtype_exc hC ?_; first | rw [hcB] | rw [hcA] | rw [hcN]) | wp_step)
  show R _ _
  rw [Heap.size_push]
  exact hq
theorem exc_make {K : Frag} {fI : Addr} (X : K.In h) (F : ExcBaseFacts B newId initId bmB) (hB : bm.contains (.type B) = true) (hAt : bm.contains (.type "AttributeError") = false) (hNa : bm.contains (.type "NameError") = false) {rest : List Value}
    (hC : h.get? C = some (excClassObj nm q C N bs bm hdct sn sub ab col dd k0 k1 k2 k3 k5 newId)) (hi : findIn K (.ref C) "__init__" = some (some (.ref fI))) (hf : typeIn K (.ref fI) = some (.type "function")) (hrest : rest.length ≤ sizeLine)
    (hq : codeAny (model prog w) (A.under (.builtin "type.__call__" ⟨.ref C :: rest, []⟩)) (.call (.ref fI) ⟨.ref (h.objs.size + 1) :: rest, []⟩) (InitBack (h.objs.size + 1) R) ⟨(h.push (tupO rest)).push (excO C h.objs.size), g, d, t, os⟩) :
    codeAny (model prog w) A (.call (.ref C) ⟨rest, []⟩) R ⟨h, g, d, t, os⟩ := by
  have f1 := tc_lookup
  have f2 := tc_bind (.ref C)
  have hT : (⟨h, g, d, t, os⟩ : Shared).TypeIs (.ref C) "type" := ⟨_, hC, rfl⟩
  refine codeAny_of_tree ?_
  show wpAny _ _ (callAny (.ref C) _) _ _ _
  repeat (any_goals (first | assumption | with_reducible refine wpAny_loadPart_at hC ?_ | wp_step))
  refine ⟨rfl, ?_⟩
  refine codeAny_call_builtin_at (Code.quiet_builtin _ (by decide +kernel)) entry_typeCall (wpAny_check_type_call_sub hC ?_)
  repeat (first | with_reducible refine wpAny_loadPart_at hC ?_ | with_reducible refine wpAny_madeBy_exc hC ?_ | wp_step)
  refine codeAny_call_builtin_code (Code.quiet_builtin _ F.quiet) (exc_check F hB hC ?_)
  refine exc_new F hB hAt hNa hC ?_ hrest
  show wpAny _ _ _ _ _ _
  have k : ∀ b o, h.get? b = some o → ((h.push (tupO rest)).push (excO C h.objs.size)).get? b = some o := fun b o e => Heap.get?_push_of_some _ (Heap.get?_push_of_some _ e)
  have hC₁ := k _ _ hC
  have hget : ((h.push (tupO rest)).push (excO C h.objs.size)).get? (h.objs.size + 1) = some (excO C h.objs.size) := by heap_get
  have hcC : (Value.ref C :: bm).contains (.ref C) = true := by simp
  have i1 := (looks_findIn (M := model prog w) X hi).keeps k
  have b1 := (bind_fn (M := model prog w) X (.ref (h.objs.size + 1)) hf).keeps k
  unfold isInstance
  repeat (first | with_reducible refine wpAny_loadPart_at hget ?_ | (with_reducible refine wpAny_isSubtype_exc hC₁ ?_; rw [hcC]) | wp_step)
  refine wpAny_isSubtype_exc (h := (h.push (tupO rest)).push (excO C h.objs.size)) hC₁ ?_
  rw [hcC]
  have t1 : Looks (model prog w) ((h.push (tupO rest)).push (excO C h.objs.size)) (typeOf (.ref (h.objs.size + 1))) (.ref C) := (Looks.ld hget).andThen .now
  show wpAny _ _ (holding [Value.ref (h.objs.size + 1)] (callSpecial? (.ref (h.objs.size + 1)) "__init__" rest []) >>= _) _ _ _
  unfold callSpecial? specialOf
  repeat (first | with_reducible refine wpAny_call ?_ | lk)
  refine codeAny_mono hq fun r s' z => ?_
  rcases r with e | (v | _ | _ | _) <;> first | exact z | exact z.elim | skip
  obtain ⟨rfl, z⟩ := z
  exact wpAny_pure (wpAny_pure z)

theorem exc_check_init {M : Model} (F : ExcBaseFacts B newId initId bmB) (hB : bm.contains (.type B) = true) {e : Addr} {oe : Obj} {rest : List Value} {Q : Unit → Shared → Prop}
    (hC : h.get? C = some (excClassObj nm q C N bs bm hdct sn sub ab col dd k0 k1 k2 k3 k5 newId)) (he : h.get? e = some oe) (hcls : oe.cls = .ref C) (hq : Q () ⟨h, g, d, t, os⟩) :
    wpAny M A (checkBuiltinCall initId ⟨.ref e :: rest, []⟩) Q E ⟨h, g, d, t, os⟩ := by
  have hcB : (Value.ref C :: bm).contains (.type B) = true := by rw [List.contains_cons, hB, Bool.or_true]
  have hshort := F.noStar
  simp only [checkBuiltinCall, F.initKind, F.initSplit, F.initRow]
  repeat (first | (with_reducible refine wpAny_loadPart_at he ?_; rw [hcls]) | with_reducible refine wpAny_loadPart_at hC ?_ | (with_reducible refine wpAny_isSubtype_exc hC ?_; rw [hcB]) | wp_step)
  refine wpAny_onRaise ?_
  rw [show ∀ (a b : String) (n : Nat), Bind.check ⟨.positional, "*", B, .self, [⟨"args", .varPos, false⟩]⟩ a b n (List.map (fun x => x.fst) ({ pos := Value.ref e :: rest } : Args).kw) = pure () from
    fun a b n => check_star_args _ _ _ _ _ _]
  exact wpAny_pure hq
theorem exc_init {t0 e : Addr} {rest : List Value} {Q : Value → Shared → Prop} (F : ExcBaseFacts B newId initId bmB) (hB : bm.contains (.type B) = true) (hC : h.get? C = some (excClassObj nm q C N bs bm hdct sn sub ab col dd k0 k1 k2 k3 k5 newId)) (he : h.get? e = some (excO C t0)) (hrest : rest.length ≤ sizeLine)
    (hq : ∀ h', h'.get? e = some (excO C h.objs.size) → (∀ b o, b ≠ e → h.get? b = some o → h'.get? b = some o) → Q .none ⟨h', g, d, t, os⟩) : wpAny (model prog w) A (call (.builtin initId) (.ref e :: rest)) Q E ⟨h, g, d, t, os⟩ := by
  refine wpAny_call (codeAny_call_builtin F.init.plain F.initEntry (exc_check_init F hB hC he rfl ?_))
  wp_walk
  have ne : e ≠ h.objs.size := Nat.ne_of_lt (Heap.lt_size he)
  refine hq _ (Heap.get?_update_self _ (Heap.get?_push_of_some _ he) rfl) fun b o hb hh => ?_
  exact (Heap.get?_update_other _ _ (Ne.symm hb)).trans (Heap.get?_push_of_some _ hh)

theorem exc_setattr {K : Frag} {e t0 : Addr} {name : Str} {v : Value} {Q : Unit → Shared → Prop} (X : K.In h) (hC : h.get? C = some (excClassObj nm q C N bs bm true sn sub ab col dd k0 k1 k2 k3 k5 newId))
    (hKC : K.lookup C = some (excClassObj nm q C N bs bm true sn sub ab col dd k0 k1 k2 k3 k5 newId)) (he : h.get? e = some (excO C t0)) (hs : findIn K (.ref C) "__setattr__" = some (some (.builtin "object.__setattr__"))) (ht : takerIn K C name = some none)
    (hpass : refuseLoop (.ref e) "__setattr__" (.ref C :: bm) = pure ()) (hob : bm.contains (.type "object") = true)
    (hq : ∀ h' tk' dx, h'.get? e = some { cls := .ref C, dict := some dx, data := .fields #[.ref t0, .none, .none, .none, .bool false, .none] } → (∀ b o, b ≠ e → h.get? b = some o → h'.get? b = some o) → Q () ⟨h', g, d, tk', os⟩) :
    wpAny (model prog w) A (setAttr (.ref e) name v) Q E ⟨h, g, d, t, os⟩ := by
  have I : InstAt h e (excO C t0) C none := ⟨he, rfl, rfl, trivial⟩
  refine set_plain (s := ⟨h, g, d, t, os⟩) X I hs ?_
  have SF := PySem.F.store_object
  have hcC : (Value.ref C :: bm).contains (.type "object") = true := by rw [List.contains_cons, hob, Bool.or_true]
  have hcl : clsIn K C = some { name := nm, bases := bs, mro := .ref C :: bm, ns := N, qualname := q, hasDict := true, slotNames := sn, subclasses := sub, abstract := ab, collection := col, hasDel := false } := by unfold clsIn; rw [hKC]
  have sb : Looks (model prog w) h (isInstance (.ref e) (.type "object")) true := I.type.andThen (looks_mroIn X (by unfold mroIn; rw [hcl, Option.bind_some, if_neg (by simp)]; rw [hcC]))
  refine codeAny_call_builtin SF.slot.plain SF.entry (@check_slot (model prog w) _ _ ⟨h, g, d, t + 1, os⟩ "object.__setattr__" "object" "__setattr__" (.ref e) [.str name t, v] [] _ SF.kind SF.split sb (SF.args (.ref e) (.str name t) v) ?_)
  obtain ⟨attr, ha, hr⟩ := Option.bind_eq_some_iff.mp ht
  have hm : Looks (model prog w) h (mroOf (.ref C)) (.ref C :: bm) := (looks_clsIn X hcl).andThen .now
  have L3 : Looks (model prog w) h (storeTaker? attr) none := by
    cases attr with
    | none => exact .now
    | some a =>
      obtain ⟨b, hb, hb2⟩ := Option.map_eq_some_iff.mp hr
      refine (looks_takesIn X hb).andThen ?_
      cases b with
      | true => cases hb2
      | false => exact .now
  have L1 : Looks (model prog w) h (typeOf (.ref e)) (.ref C) := I.type
  have L2 := looks_findIn (M := model prog w) X ha
  rw [osa_eq, refuse_eq]
  refine wpAny_bind (wpAny_bind (L1.at (wpAny_bind (hm.at ?_))))
  rw [hpass]
  refine wpAny_pure (wpAny_bind (L1.at (wpAny_bind (L2.at (wpAny_bind (L3.at ?_))))))
  have Lc := looks_clsIn (M := model prog w) X hcl
  refine wpAny_bind (wpAny_pure (wpAny_bind (wpAny_bind (wpAny_loadPart he (wpAny_bind (Lc.at ?_))))))
  have hx₁ : (h.push { cls := .type "dict", data := .dict #[] }).get? e = some (excO C t0) := Heap.get?_push_of_some _ he
  have hxs : e ≠ h.objs.size := Nat.ne_of_lt (Heap.lt_size he)
  show wpAny _ _ (alloc { cls := .type "dict", data := .dict #[] } >>= _) _ _ _
  refine wpAny_bind (wpAny_alloc' ?_)
  refine wpAny_bind (wpAny_update' hx₁ ?_)
  refine wpAny_pure ?_
  have hgd : ((h.push { cls := .type "dict", data := .dict #[] }).update e fun o => { cls := o.cls, dict := some h.objs.size, data := o.data, slots := o.slots }).get? h.objs.size = some { cls := .type "dict", data := .dict #[] } :=
    (Heap.get?_update_ne _ _ _ _ hxs.symm).trans (Heap.get?_push_at rfl rfl)
  have hnd : ((h.push { cls := .type "dict", data := .dict #[] }).update e fun o => { cls := o.cls, dict := some h.objs.size, data := o.data, slots := o.slots }).Ns h.objs.size (fun u₀ => none) :=
    ⟨_, #[], _, hgd, rfl, fun e he => absurd he (by simp), fun u₀ => rfl⟩
  show wpAny _ _ (Builtin.ObjectAttr.storeInDict h.objs.size (.str name t) name v) _ _ _
  unfold Builtin.ObjectAttr.storeInDict newKeyGuard
  refine wpAny_bind (wpAny_pure (wpAny_bind (wpAny_nsSet1 (Heap.Ns1.of_empty hnd) fun h' hn' hs => ?_)))
  refine absP fun P₀ hP₀ => ?_
  obtain ⟨oD, esD, epD, hoD, hdD, hcD⟩ := hn'.count (Within.cons name v Within.nil)
  refine hP₀ ?_; clear hP₀ P₀
  refine wpAny_bind (wpAny_lookBehind hoD (by rw [hdD]; exact pastItsLine_dict (Nat.le_trans hcD (by rw [List.length_cons, List.length_nil, sizeLine_eq]; omega))) ?_)
  refine wpAny_pure ?_
  refine hq h' _ h.objs.size ?_ fun b ob hbx hb => ?_
  · exact (hs.2 e hxs).trans (Heap.get?_update_self _ hx₁ rfl)
  · exact (hs.2 b (Nat.ne_of_lt (Heap.lt_size hb))).trans ((Heap.get?_update_ne _ _ _ _ hbx).trans (Heap.get?_push_of_some _ hb))
end sExc

end

section
set_option tactic.hygienic false
open PySem PySem.W PyProof.Rows
variable {G : Glb} {C C' : Cx} {loc loc' : Loc} {tmp tmp' : Tmp} {mh hid l l' : MH} {s s' s₁ : Shared}
variable {X : Addr → Loc → MH → Prop} {Q : D → MH → Prop} {Rt : D → MH → Prop} {N : Loc → MH → Prop}

noncomputable abbrev Cx.at (C : Cx) (A : Around) : Cx := { C with A := A }
theorem Rep.at (R : Rep G C loc tmp mh s) (A : Around) : Rep G (C.at A) loc tmp mh s :=
  ⟨⟨R.ok.kind, R.ok.gl, R.ok.bi, R.ok.base, R.ok.new, R.ok.fnew, R.ok.mine, R.ok.fM, R.ok.cloc, R.ok.cinj, R.ok.fobj⟩, R.ns, R.cells, R.tmp, R.obs, R.there, R.nd, R.sub, R.lat⟩
theorem Rep.out {A : Around} (R : Rep G (C.at A) loc tmp mh s) : Rep G C loc tmp mh s :=
  ⟨⟨R.ok.kind, R.ok.gl, R.ok.bi, R.ok.base, R.ok.new, R.ok.fnew, R.ok.mine, R.ok.fM, R.ok.cloc, R.ok.cinj, R.ok.fobj⟩, R.ns, R.cells, R.tmp, R.obs, R.there, R.nd, R.sub, R.lat⟩

theorem tc_under {A : Around} {Cl : Addr} {rest : List Value} : A.under (.builtin "type.__call__" ⟨.ref Cl :: rest, []⟩) = { A with depth := A.depth + 1, units := A.units + 1 } := by
  refine absP fun P₀ hP₀ => ?_
  obtain ⟨h, d, f, g, u⟩ := A
  refine hP₀ ?_; clear hP₀ P₀
  rfl
theorem Can.tc {n : Nat} (CN : Can G C (n + 1)) {Cl : Addr} {rest : List Value} : Can G (C.at (C.A.under (.builtin "type.__call__" ⟨.ref Cl :: rest, []⟩))) n := by
  refine absP fun P₀ hP₀ => ?_
  obtain ⟨⟨r1, r2⟩, h, f⟩ := CN
  refine hP₀ ?_; clear hP₀ P₀
  rw [tc_under]
  exact ⟨⟨by show C.A.depth + 1 + _ ≤ _; lia, by show C.A.units + 1 + _ ≤ _; lia⟩, h, f⟩

structure ExcC (K : Frag) (Cl fI : Addr) : Prop where
  obj : ∃ nm q N bs bm sn sub ab col dd k0 k1 k2 k3 k5, K.lookup Cl = some (excClassObj nm q Cl N bs bm true sn sub ab col dd k0 k1 k2 k3 k5 "ValueError.__new__") ∧ bm.contains (.type "ValueError") = true ∧ bm.contains (.type "AttributeError") = false ∧ bm.contains (.type "NameError") = false ∧
    bm.contains (.type "BaseException") = true ∧ bm.contains (.type "object") = true ∧ ∀ e : Addr, refuseLoop (.ref e) "__setattr__" (.ref Cl :: bm) = pure ()
  init : findIn K (.ref Cl) "__init__" = some (some (.ref fI))
  fty : typeIn K (.ref fI) = some (.type "function")
  sa : findIn K (.ref Cl) "__setattr__" = some (some (.builtin "object.__setattr__"))
  taker : takerIn K Cl "reason" = some none
  keep : keepIn K (.ref Cl) = true

noncomputable abbrev excD (Cl t dx : Addr) : Obj := { cls := .ref Cl, dict := some dx, data := .fields #[.ref t, .none, .none, .none, .bool false, .none] }
noncomputable def InitFN (G : Glb) (n : Nat) (fI : Addr) : Prop := ∀ Cl e t0 x mh, ExcC G.K Cl fI → FN G n (.ref fI) [.ptr e, .str x] ((e, .raw (excO Cl t0)) :: mh) (fun u₀ u₀ => False) (fun d m => d = .none ∧ ∃ t dx, m = (e, .raw (excD Cl t dx)) :: mh)

theorem wp_callCls {n : Nat} {Cl fI : Addr} {v : Value} {x : Str} (GO : G.Ok) (CN : Can G C (n + 1)) (EC : ExcC G.K Cl fI) (hI : InitFN G n fI) (R : Rep G C loc tmp (mh ++ hid) s) (V : VD s.heap (MM C (mh ++ hid)) v (.str x)) {E : Value → Shared → Prop} :
    wpAny (Mo G) C.A (call (.ref Cl) [v]) (fun v s' => ∃ e t dx, v = .ref e ∧ Rep G C loc tmp (((e, .raw (excD Cl t dx)) :: mh) ++ hid) s') E s := by
  refine absP fun P₀ hP₀ => ?_
  obtain ⟨nm, q, N, bs, bm, sn, sub, ab, col, dd, k0, k1, k2, k3, k5, hK, b1, b2, b3, b4, b5, b6⟩ := EC.obj
  have Xk := R.kin GO
  have hC := Xk _ _ hK
  obtain ⟨hp, g, d, tk, os⟩ := s
  refine hP₀ ?_; clear hP₀ P₀
  refine wpAny_call (exc_make Xk PySem.F.excBase_ValueError b1 b2 b3 hC EC.init EC.fty (by rw [sizeLine_eq]; simp) ?_)
  have R1 : Rep G C loc tmp (mh ++ hid) ⟨hp.push (tupO [v]), g, d, tk, os⟩ := R.alloc _ _
  have R2 : Rep G C loc tmp (((hp.objs.size + 1, .raw (excO Cl hp.objs.size)) :: mh) ++ hid) ⟨(hp.push (tupO [v])).push (excO Cl hp.objs.size), g, d, tk, os⟩ := by
    have := raw_new (k := tk) R1 (excO Cl hp.objs.size)
    rwa [show (⟨hp.push (tupO [v]), g, d, tk, os⟩ : Shared).heap.objs.size = hp.objs.size + 1 from Heap.size_push ..] at this
  have V2 : VD ((hp.push (tupO [v])).push (excO Cl hp.objs.size)) (MM (C.at (C.A.under (.builtin "type.__call__" ⟨[.ref Cl, v], []⟩))) (((hp.objs.size + 1, .raw (excO Cl hp.objs.size)) :: mh) ++ hid)) v (.str x) := by
    obtain ⟨t, rfl⟩ := V.str_inv; exact .dat (.str _ _)
  refine codeAny_mono (hI Cl (hp.objs.size + 1) hp.objs.size x mh EC _ loc tmp hid _ [.ref (hp.objs.size + 1), v] CN.tc (R2.at _) (.cons (.ptr _) (.cons V2 .nil))) fun r s' z => ?_
  cases r with
  | error e => obtain ⟨_, _, _, _, _, _, _, _, f⟩ := z; exact f.elim
  | ok f => cases f with
    | ret u =>
      refine absP fun P₀ hP₀ => ?_
      obtain ⟨d', m, R3, e1, t, dx, e2⟩ := z
      refine hP₀ ?_; clear hP₀ P₀
      subst e1; subst e2
      have := R3.top.none_inv; dsimp only at this
      exact ⟨this, _, t, dx, rfl, R3.pop.out⟩
    | _ => exact z

theorem raw_exc {e Cl t dx : Addr} (R : Rep G C loc tmp ((e, .raw (excD Cl t dx)) :: mh) s) : Rep G C loc tmp ((e, .exc Cl none) :: mh) s := by
  have U : Upd e (.raw (excD Cl t dx)) (.exc Cl none) ((e, .raw (excD Cl t dx)) :: mh) ((e, .exc Cl none) :: mh) := .head
  exact R.set U (fun u₀ u₀ u₀ q => q) rfl rfl (fun b hb => .inl (by simpa [foot, AO.more] using hb)) (by simp [foot, AO.more]) ⟨_, _, R.obs _ (.head _), rfl, rfl, rfl⟩

theorem wp_throwExc {Cl fI : Addr} {x : Sem Value} {env : Env} {A : Around} {E : Value → Shared → Prop} {Qf : Flow → Shared → Prop} (EC : ExcC G.K Cl fI) (hh : A.handled = none)
    (h : wpAny (Mo G) A x (fun v s₁ => ∃ e t dx, v = .ref e ∧ G.K.In s₁.heap ∧ s₁.heap.get? e = some (excD Cl t dx) ∧ E (.ref e) s₁) E s) : wpAny (Mo G) A (raiseStmt env (some x) none) Qf E s := by
  refine absP fun P₀ hP₀ => ?_
  obtain ⟨nm, q, N, bs, bm, sn, sub, ab, col, dd, k0, k1, k2, k3, k5, hK, b1, b2, b3, b4, b5, b6⟩ := EC.obj
  refine hP₀ ?_; clear hP₀ P₀
  have hcB : (Value.ref Cl :: bm).contains (.type "BaseException") = true := by rw [List.contains_cons, b4, Bool.or_true]
  unfold raiseStmt
  refine wpAny_bind (wpAny_mono h (fun v s₁ h₁ => ?_) fun u₀ u₀ x => x)
  obtain ⟨e, t, dx, rfl, hX, he, hE⟩ := h₁
  have hC := hX _ _ hK
  refine absP fun P₀ hP₀ => ?_
  obtain ⟨hp, g, d, tk, os⟩ := s₁
  refine hP₀ ?_; clear hP₀ P₀
  repeat (first | with_reducible refine wpAny_loadPart_at he ?_ | with_reducible refine wpAny_loadPart_at hC ?_ | (with_reducible refine wpAny_isSubtype_exc hC ?_; rw [hcB]) | wp_step)
  exact wpAny_raiseNew_none hh hE

end

section
set_option tactic.hygienic false
open PySem PySem.W PyProof.Rows
variable {G : Glb} {C C' : Cx} {loc loc' : Loc} {tmp tmp' : Tmp} {mh hid l l' : MH} {s s' s₁ : Shared}
variable {X : Addr → Loc → MH → Prop} {Q : D → MH → Prop} {Rt : D → MH → Prop} {N : Loc → MH → Prop}

theorem SX_raise {n : Nat} {cn : Str} {Cl fI : Addr} {x : Str} {k : Nat} {p1 p2 p3 pos : Pos} (GO : G.Ok) (CN : Can G C (n + 1)) (hk : C.env.kindOf cn = some .globalImplicit) (hg : G.mg cn = some (.ref Cl)) (EC : ExcC G.K Cl fI) (hI : InitFN G n fI) (h : X Cl loc mh)
    (hd : (cn == ("__debug__" : Str)) = false := by decide) : SX G C loc mh (.Raise (some (.Call (.Name cn p1) [.Constant (.str x) k p2] [] p3)) none pos) X Rt N := fun tmp hid s R => by
  rw [arm_exec_Raise]
  refine wpAny_bind (wpAny_standAt ?_)
  show wpAny (Mo G) C.A (raiseStmt C.env (some (eval (.Call (.Name cn p1) [.Constant (.str x) k p2] [] p3) C.env >>= fun v => standAt pos >>= fun u₀ => pure v)) none) _ _ _
  refine wp_throwExc EC CN.hand (wpAny_bind (wpAny_Call_NameR (glob_at GO hk hg hd R ?_)))
  refine callWith_K (R.kin GO) EC.keep (wpAny_items_cons (wpAny_Constant_str (wpAny_items_nil ⟨(R.toks _).kin GO, ?_⟩)) rfl)
  refine wpAny_mono (wp_callCls GO CN EC hI (R.toks (s.toks + 1)) (.dat (.str x _))) (fun v s2 ⟨e, t, dx, ev, R2⟩ => wpAny_bind (wpAny_standAt (wpAny_pure ?_))) fun u₀ u₀ x => x
  exact ⟨e, t, dx, ev, R2.kin GO, R2.obs _ (.head _), e, Cl, none, loc, mh, rfl, (raw_exc R2).sub_tmp (fun u₀ h => nomatch h), h⟩

theorem excMatches_K {K : Frag} {M : Model} {A : Around} {E : Value → Shared → Prop} {c t fI fJ e : Addr} {oe : Obj} {Q : Bool → Shared → Prop} (X : K.In s.heap) (Ec : ExcC K c fI) (Et : ExcC K t fJ) (he : s.heap.get? e = some oe) (hcls : oe.cls = .ref c) (hq : Q (isSub K c t) s) :
    wpAny M A (excMatches (.ref e) (.ref t)) Q E s := by
  refine absP fun P₀ hP₀ => ?_
  obtain ⟨nm, q, N, bs, bm, sn, sub, ab, col, dd, k0, k1, k2, k3, k5, hK, b1, b2, b3, b4, b5, b6⟩ := Ec.obj
  obtain ⟨nm', q', N', bs', bm', sn', sub', ab', col', dd', k0', k1', k2', k3', k5', hK', b1', b2', b3', b4', b5', b6'⟩ := Et.obj
  refine hP₀ ?_; clear hP₀ P₀
  have hC := X _ _ hK
  have hT := X _ _ hK'
  have hcB : (Value.ref t :: bm').contains (.type "BaseException") = true := by rw [List.contains_cons, b4', Bool.or_true]
  have hsub : isSub K c t = (Value.ref c :: bm).contains (.ref t) := by unfold isSub; rw [hK]
  rw [hsub] at hq
  refine absP fun P₀ hP₀ => ?_
  obtain ⟨hp, g, d, tk, os⟩ := s
  refine hP₀ ?_; clear hP₀ P₀
  have f1 := tc_notTuple
  have f2 := tc_sub
  unfold excMatches
  repeat (first | (with_reducible refine wpAny_loadPart_at he ?_; rw [hcls]) | with_reducible refine wpAny_loadPart_at hT ?_ | (with_reducible refine wpAny_isSubtype_exc hT ?_; rw [hcB]) | with_reducible refine wpAny_isSubtype_exc hC ?_ | wp_step)
  cases hb : (Value.ref c :: bm).contains (.ref t) with
  | true => rw [hb] at hq; exact wpAny_pure (wpAny_pure (wpAny_pure hq))
  | false => rw [hb] at hq; exact wpAny_pure (wpAny_pure (wpAny_pure hq))

inductive HND (G : Glb) (C : Cx) (c : Addr) (loc : Loc) (mh : MH) (Rt : D → MH → Prop) (N : Loc → MH → Prop) : List ExceptHandler → Prop
  | hit {x : Str} {p pos : Pos} {b : Stmt} {suite : List Stmt} {rest : List ExceptHandler} {t fI fJ : Addr} (hk : C.env.kindOf x = some .globalImplicit) (hd : (x == ("__debug__" : Str)) = false) (hg : G.mg x = some (.ref t)) (Ec : ExcC G.K c fI) (Et : ExcC G.K t fJ)
      (hb : isSub G.K c t = true) (hx : ∀ A, EX0 G (C.at A) loc mh (b :: suite) NoX Rt N) : HND G C c loc mh Rt N (.ExceptHandler (some (.Name x p)) none (b :: suite) pos :: rest)
  | miss {x : Str} {p pos : Pos} {b : Stmt} {suite : List Stmt} {rest : List ExceptHandler} {t fI fJ : Addr} (hk : C.env.kindOf x = some .globalImplicit) (hd : (x == ("__debug__" : Str)) = false) (hg : G.mg x = some (.ref t)) (Ec : ExcC G.K c fI) (Et : ExcC G.K t fJ)
      (hb : isSub G.K c t = false) (hx : HND G C c loc mh Rt N rest) : HND G C c loc mh Rt N (.ExceptHandler (some (.Name x p)) none (b :: suite) pos :: rest)
theorem HND.mk {c : Addr} {x : Str} {p pos : Pos} {b : Stmt} {suite : List Stmt} {rest : List ExceptHandler} (h : ∃ t fI fJ, C.env.kindOf x = some .globalImplicit ∧ (x == ("__debug__" : Str)) = false ∧ G.mg x = some (.ref t) ∧ ExcC G.K c fI ∧ ExcC G.K t fJ ∧
      ((isSub G.K c t = true ∧ ∀ A, EX0 G (C.at A) loc mh (b :: suite) NoX Rt N) ∨ (isSub G.K c t = false ∧ HND G C c loc mh Rt N rest))) : HND G C c loc mh Rt N (.ExceptHandler (some (.Name x p)) none (b :: suite) pos :: rest) := by
  obtain ⟨t, fI, fJ, h1, h2, h3, h4, h5, h | h⟩ := h
  · exact .hit h1 h2 h3 h4 h5 h.1 h.2
  · exact .miss h1 h2 h3 h4 h5 h.1 h.2
theorem FPost.out {A : Around} {e : Addr × AO} {f : Flow} (q : FPost G (C.at A) [] (e :: hid) N Rt f s) : FPost G C [] hid N Rt f s := by
  have go : ∀ {loc' tmp' m}, Rep G (C.at A) loc' tmp' (m ++ e :: hid) s → Rep G C loc' tmp' (m ++ hid) s := fun R => ((R.out).perm List.perm_middle).drop
  cases f with
  | next => obtain ⟨l, m, R, h⟩ := q; exact ⟨l, m, go R, h⟩
  | ret v => obtain ⟨d, l, m, R, h⟩ := q; exact ⟨d, l, m, go R, h⟩
  | _ => exact q
theorem wp_handle (GO : G.Ok) {c e t : Addr} {E : Value → Shared → Prop} {hs : List ExceptHandler} (H : HND G C c loc mh Rt N hs) : ∀ {s : Shared}, Rep G C loc [] (((e, .exc c (some t)) :: mh) ++ hid) s → wpAny (Mo G) C.A (handleBy (.ref e) C.env hs) (FPost G C [] hid N Rt) E s := by
  induction H with
  | @hit x p pos b suite rest t' fI fJ hk hd hg Ec Et hb hx =>
    intro s R
    refine wpAny_handleBy_cons (codeAny_handlers_test ?_) (by intro q; cases q)
    refine glob_at (C := C.at (C.A.mark (some (.ref e)))) GO hk hg hd (R.at _) ?_
    refine absP fun P₀ hP₀ => ?_
    obtain ⟨oe, vs, he, hcl, _⟩ := R.obs _ (.head _)
    refine hP₀ ?_; clear hP₀ P₀
    refine excMatches_K (R.kin GO) Ec Et he hcl ?_
    rw [hb]
    refine codeAny_handlers_suite (wp_setFlight R fun s3 R3 => ?_)
    have R4 : Rep G (C.at (C.A.mark (some (.ref e)))) loc [] (mh ++ ((e, .exc c (some t)) :: hid)) s3 := (R3.perm List.perm_middle.symm).at _
    exact wpAny_mono (hx _ _ s3 R4) (fun f s4 q => q.out) fun u₀ u₀ x => NoErr x
  | @miss x p pos b suite rest t' fI fJ hk hd hg Ec Et hb hx ih =>
    intro s R
    refine wpAny_handleBy_cons (codeAny_handlers_test ?_) (by intro q; cases q)
    refine glob_at (C := C.at (C.A.mark (some (.ref e)))) GO hk hg hd (R.at _) ?_
    refine absP fun P₀ hP₀ => ?_
    obtain ⟨oe, vs, he, hcl, _⟩ := R.obs _ (.head _)
    refine hP₀ ?_; clear hP₀ P₀
    refine excMatches_K (R.kin GO) Ec Et he hcl ?_
    rw [hb]
    exact ih R
theorem SX0_try {n : Nat} {sc : Scope} {body : List Stmt} {h0 : ExceptHandler} {hs : List ExceptHandler} {pos : Pos} (GO : G.Ok) (CN : Can G C n) (I : Is C sc) (h : EX0 G C loc mh body (fun c l m => HND G C c l m Rt N (h0 :: hs)) Rt N) :
    SX0 G C loc mh (.Try body (h0 :: hs) [] [] pos) X Rt N := fun hid s R => by
  refine wpAny_Try_except (wpAny_mono (h hid s R) (fun f s1 q => ?_) fun e s1 q => ?_)
  · cases f with
    | next => exact wpAny_execs_nil q
    | ret v => exact q
    | _ => exact q
  · obtain ⟨e, c, T, l, m, rfl, R1, hX⟩ := q
    exact wp_noteFrame CN.frames I.fr I.fm R1 fun t s2 R2 => wp_setFlight R2 fun s3 R3 => wp_handle GO hX R3
theorem SX0_while {n : Nat} {sc : Scope} {σ : Type} {test : Expr} {body : List Stmt} {pos : Pos} (CN : Can G C n) (I : Is C sc) (μ : σ → Nat) (J : σ → Loc → MH → Prop) (a : σ) (h0 : J a loc mh)
    (turn : ∀ a loc m, J a loc m → TT G C loc m test X fun b m1 => (b = true → EX0 G C loc m1 body X Rt fun l' m' => ∃ a', μ a' < μ a ∧ J a' l' m') ∧ (b = false → N loc m1)) :
    SX0 G C loc mh (.While test body [] pos) X Rt N := fun hid s R => by
  let Rr : Result → Shared → Prop := fun r s' => match r with | .ok f => FPost G C [] hid N Rt f s' | .error e => cameBackBy (Mo G) C.A C.env (EErr G C hid X) e s'
  have back : ∀ e s', EErr G C hid X e s' → notedBy (Mo G) C.A C.env (fun e s' => Rr (.error e) s') e s' := fun e s' x =>
    err_noted CN I x fun e c t l m s' R hx => wp_cameBack R fun s2 R2 => ⟨e, c, some t, l, m, rfl, R2, hx⟩
  refine wpAny_While (codeAny_whileLoop (R := Rr) (fun k s => ∃ a loc m, μ a = k ∧ J a loc m ∧ Rep G C loc [] (m ++ hid) s) (fun k s hq2 => ?_) (μ a) ⟨a, loc, mh, rfl, h0, R⟩)
  refine absP fun P₀ hP₀ => ?_
  obtain ⟨a, loc, m, ek, hJ, R1⟩ := hq2
  refine hP₀ ?_; clear hP₀ P₀
  refine wpAny_mono (turn a loc m hJ [] hid s R1) (fun b s2 hq3 => ?_) back
  refine absP fun P₀ hP₀ => ?_
  obtain ⟨m2, R2, h1, h2⟩ := hq3
  refine hP₀ ?_; clear hP₀ P₀
  cases b with
  | false => exact wpAny_execs_nil ⟨loc, m2, R2, h2 rfl⟩
  | true =>
    refine wpAny_mono (h1 rfl hid s2 R2) (fun f s3 q => ?_) back
    cases f with
    | next => obtain ⟨l3, m3, R3, a', ha, hJ'⟩ := q; exact ⟨μ a', ek ▸ ha, a', l3, m3, rfl, hJ', R3⟩
    | ret v => exact q
    | _ => exact q.elim

end

section
set_option tactic.hygienic false
open PySem PySem.W PyProof.Rows
variable {G : Glb} {C C' : Cx} {loc loc' : Loc} {tmp tmp' : Tmp} {mh hid l l' : MH} {s s' s₁ : Shared}
variable {X : Addr → Loc → MH → Prop} {Q : D → MH → Prop} {Rt : D → MH → Prop} {N : Loc → MH → Prop}

structure MakesC (K : Frag) (Cl fI : Addr) : Prop where
  makes : makesIn K Cl = true
  init : findIn K (.ref Cl) "__init__" = some (some (.ref fI))
  fty : typeIn K (.ref fI) = some (.type "function")
  keep : keepIn K (.ref Cl) = true

theorem wp_new {n : Nat} {Cl fI : Addr} {vs : List Value} {ds : List D} {XX : Addr → Loc → MH → Prop} (GO : G.Ok) (CN : Can G C (n + 1)) (M : MakesC G.K Cl fI) (R : Rep G C loc tmp (mh ++ hid) s) (V : VDs s.heap (MM C (mh ++ hid)) vs ds)
    (h : ∀ x dx, FN G n (.ref fI) (.ptr x :: ds) ((x, .inst Cl dx []) :: mh) (fun c m => XX c loc m) (fun d m => d = .none ∧ Q (.ptr x) m)) :
    wpAny (Mo G) C.A (call (.ref Cl) vs) (EVq G C loc tmp hid Q) (EErr G C hid XX) s := by
  have Xk := R.kin GO
  refine absP fun P₀ hP₀ => ?_
  obtain ⟨hp, g, d, tk, os⟩ := s
  refine hP₀ ?_; clear hP₀ P₀
  refine wpAny_call (make_core (makes_of Xk M.makes) (looks_findIn Xk M.init) (fun self => bind_fn Xk self M.fty) (.inl rfl) ?_)
  have k : ∀ b o, hp.get? b = some o → ((hp.push emptyDict).push (instObj Cl hp.objs.size)).get? b = some o := fun b o e => Heap.get?_push_of_some _ (Heap.get?_push_of_some _ e)
  have e1 : ((hp.push emptyDict).push (instObj Cl hp.objs.size)).get? (hp.objs.size + 1) = some (instObj Cl hp.objs.size) := by heap_get
  have e2 : ((hp.push emptyDict).push (instObj Cl hp.objs.size)).get? hp.objs.size = some (dictOf [] 0) := Heap.get?_push_of_some _ (Heap.get?_push_size _ rfl)
  have R2 : Rep G C loc tmp (((hp.objs.size + 1, .inst Cl hp.objs.size []) :: mh) ++ hid) ⟨(hp.push emptyDict).push (instObj Cl hp.objs.size), g, d, tk, os⟩ :=
    R.add (o := .inst Cl hp.objs.size []) (s' := ⟨(hp.push emptyDict).push (instObj Cl hp.objs.size), g, d, tk, os⟩) k rfl rfl (fun b hb => by
      simp only [foot, AO.more, List.mem_cons, List.not_mem_nil, or_false] at hb
      rcases hb with rfl | rfl
      · exact size_none (Nat.le_succ _)
      · exact size_none (Nat.le_refl _)) (by simp [foot, AO.more]) ⟨e1, [], 0, e2, .nil⟩
  have V2 : VDs ((hp.push emptyDict).push (instObj Cl hp.objs.size)) (MM C (((hp.objs.size + 1, .inst Cl hp.objs.size []) :: mh) ++ hid)) vs ds := V.mono (.of (fun b o u₀ e => k b o e) fun b hb => by
    rcases List.mem_append.mp hb with q | q
    · exact .inl (List.mem_append_left _ q)
    · rw [List.cons_append, addrs_cons] at q
      rcases List.mem_append.mp q with q | q
      · simp only [foot, AO.more, List.mem_cons, List.not_mem_nil, or_false] at q
        rcases q with rfl | rfl
        · exact .inr (size_none (Nat.le_succ _))
        · exact .inr (size_none (Nat.le_refl _))
      · exact .inl (List.mem_append_right _ q))
  refine codeAny_mono (h (hp.objs.size + 1) hp.objs.size _ loc tmp hid _ (.ref (hp.objs.size + 1) :: vs) CN.tc (R2.at _) (.cons (.ptr _) V2)) fun r s' z => ?_
  cases r with
  | error e =>
    obtain ⟨e', c, T, l2, m2, rfl, R3, e3, h3⟩ := z
    subst e3
    exact ⟨e', c, T, _, m2, rfl, R3.out, h3⟩
  | ok f => cases f with
    | ret u =>
      refine absP fun P₀ hP₀ => ?_
      obtain ⟨d', m, R3, e1, h3⟩ := z
      refine hP₀ ?_; clear hP₀ P₀
      subst e1
      have := R3.top.none_inv; dsimp only at this
      exact ⟨this, _, m, R3.pop.out.push (.ptr _), h3⟩
    | _ => exact z
theorem EV_new {n : Nat} {x : Str} {px pos : Pos} {e : Expr} {args : List Expr} {Cl fI : Addr} (GO : G.Ok) (CN : Can G C (n + 1)) (hk : C.env.kindOf x = some .globalImplicit) (hg : G.mg x = some (.ref Cl)) (M : MakesC G.K Cl fI)
    (h : EVs G C loc mh (e :: args) X fun ds m => ∀ x dx, FN G n (.ref fI) (.ptr x :: ds) ((x, .inst Cl dx []) :: m) (fun c m' => X c loc m') (fun d m' => d = .none ∧ Q (.ptr x) m'))
    (hd : (x == ("__debug__" : Str)) = false := by decide) (hplain : ∀ env, starEach (e :: args) env = (false, eval e env) :: starEach args env := by intro _; rfl) (hp : ∀ env, (backTo pos (starEach args env)).any (·.1) = false := by intro _; rfl) :
    EV G C loc mh (.Call (.Name x px) (e :: args) [] pos) X Q := fun tmp hid s R =>
  wpAny_Call_NameR (glob_at GO hk hg hd R (callWith_K (R.kin GO) M.keep (h.go R (fun vs s2 ds m2 R2 V h2 => ⟨R2.kin GO, wp_new GO CN M R2 V h2⟩)) (hplain _) (hp _)))

structure MethC (K : Frag) (Cl : Addr) (x : Str) (f : Addr) : Prop where
  ga : findIn K (.ref Cl) "__getattribute__" = some (some (.builtin "object.__getattribute__"))
  gt : findIn K (.ref Cl) "__getattr__" = some none
  fn : findIn K (.ref Cl) x = some (some (.ref f))
  ty : typeIn K (.ref f) = some (.type "function")
theorem MC_own {n : Nat} {a Cl dx f : Addr} {fd : FuncData} {fs : List (Str × D)} {x : Str} {pos : Pos} {e : Expr} {args : List Expr} {P : D → MH → Prop} (GO : G.Ok) (CN : Can G C n) (T : MethC G.K Cl x f) (hf : FnAt G f fd) (hm : (a, AO.inst Cl dx fs) ∈ mh) (hx : fs.lookup x = none)
    (h : EVs G C loc mh (e :: args) X fun ds m => FN G n (.ref f) (.ptr a :: ds) m (fun c m' => X c loc m') P) (hplain : ∀ env, starEach (e :: args) env = (false, eval e env) :: starEach args env := by intro _; rfl) : MC G C (.ptr a) x pos (e :: args) loc mh X P := fun tmp hid s v pl R hv => by
  have V := R.tmp _ hv
  have := V.ptr_inv; dsimp only at this; subst this
  refine absP fun P₀ hP₀ => ?_
  obtain ⟨es, k, I, ed, E⟩ := R.inst hm
  refine hP₀ ?_; clear hP₀ P₀
  refine method_fn (R.kin GO) I T.ga T.gt T.fn T.ty (by have := lookIn_none (n := k) E hx; unfold shadowIn; simp only [this]; rfl) ?_
  obtain ⟨o, ho, hdt⟩ := hf.obj
  refine Calls.callWith_function (o := o) (fd := fd) (wp_args hplain h R fun vs s2 ds m a2 a3 a4 => ⟨⟨a2.base _ _ ho, hdt⟩, wp_callFN CN a4 a2 (.cons (.ptr _) a3)⟩)
theorem MC_own0 {n : Nat} {a Cl dx f : Addr} {fd : FuncData} {fs : List (Str × D)} {x : Str} {pos : Pos} {P : D → MH → Prop} (GO : G.Ok) (CN : Can G C n) (T : MethC G.K Cl x f) (hf : FnAt G f fd) (hm : (a, AO.inst Cl dx fs) ∈ mh) (hx : fs.lookup x = none)
    (h : FN G n (.ref f) [.ptr a] mh (fun c m' => X c loc m') P) : MC G C (.ptr a) x pos [] loc mh X P := fun tmp hid s v pl R hv => by
  have V := R.tmp _ hv
  have := V.ptr_inv; dsimp only at this; subst this
  refine absP fun P₀ hP₀ => ?_
  obtain ⟨es, k, I, ed, E⟩ := R.inst hm
  refine hP₀ ?_; clear hP₀ P₀
  refine method_fn (R.kin GO) I T.ga T.gt T.fn T.ty (by have := lookIn_none (n := k) E hx; unfold shadowIn; simp only [this]; rfl) ?_
  obtain ⟨o, ho, hdt⟩ := hf.obj
  refine Calls.callWith_function (o := o) (fd := fd) (PySem.evalArgs_none ⟨⟨R.base _ _ ho, hdt⟩, ?_⟩)
  exact wp_callFN CN h R (.cons (.ptr _) .nil)

theorem EErr.loose {X' : Addr → Loc → MH → Prop} (h : ∀ c l m, X c l m → ∃ g m0, m.Perm (g ++ m0) ∧ X' c l m0) {v : Value} (x : EErr G C hid X v s) : EErr G C hid X' v s := by
  obtain ⟨e, c, T, l, m, rfl, R, hx⟩ := x
  refine absP fun P₀ hP₀ => ?_
  obtain ⟨g, m0, P, h0⟩ := h c l m hx
  refine hP₀ ?_; clear hP₀ P₀
  refine ⟨e, c, T, l, m0, rfl, ?_, h0⟩
  refine Rep.dropAll (l := g) (R.perm ?_)
  show ((e, AO.exc c T) :: (m ++ hid)).Perm (g ++ ((e, .exc c T) :: (m0 ++ hid)))
  refine List.Perm.trans (List.Perm.cons _ (P.append_right hid)) ?_
  rw [List.append_assoc]
  exact List.perm_middle.symm
theorem FN.loose {n : Nat} {f : Value} {ds : List D} {X X' : Addr → MH → Prop} {Q Q' : D → MH → Prop} (h : FN G n f ds mh X Q) (hq : ∀ d m, Q d m → ∃ g m0, m.Perm (g ++ m0) ∧ Q' d m0) (hx : ∀ c m, X c m → ∃ g m0, m.Perm (g ++ m0) ∧ X' c m0) : FN G n f ds mh X' Q' :=
  fun C loc tmp hid s vs c R V => codeAny_mono (h C loc tmp hid s vs c R V) fun r s' q => by
    cases r with
    | ok f => cases f with
      | ret v =>
        refine absP fun P₀ hP₀ => ?_
        obtain ⟨d, m, a, b⟩ := q
        obtain ⟨g, m0, P, h0⟩ := hq d m b
        refine hP₀ ?_; clear hP₀ P₀
        refine ⟨d, m0, Rep.dropAll (l := g) (a.perm ?_), h0⟩
        exact (P.append_right hid).trans (by rw [List.append_assoc])
      | _ => exact q
    | error v => exact EErr.loose (fun c l m hq1 => by obtain ⟨e, z⟩ := hq1; exact let ⟨g, m0, P, h0⟩ := hx c m z; ⟨g, m0, P, e, h0⟩) q
theorem Can.less {n m : Nat} (h : n ≤ m) (CN : Can G C m) : Can G C n := ⟨⟨by have := CN.room.1; lia, by have := CN.room.2; lia⟩, CN.hand, CN.frames⟩
theorem FN.more {n m : Nat} {f : Value} {ds : List D} {X : Addr → MH → Prop} {Q : D → MH → Prop} (hm : n ≤ m) (h : FN G n f ds mh X Q) : FN G m f ds mh X Q := fun C loc tmp hid s vs c R V => h C loc tmp hid s vs (c.less hm) R V

end

section
set_option tactic.hygienic false
open PySem PySem.W
open PySem (Ctx)

noncomputable def badIds : List String := ["bytearray.__contains__", "bytearray.__mod__", "bytearray.__rmod__", "_struct.pack_into.held", "bytearray.find.held"] ++ Builtin.Bytes.decodersThatHold
noncomputable def clean : Code → Bool
  | .builtin id _ => !badIds.contains id
  | _ => true
noncomputable def wpX {α : Type} (M : Model) (A : Around) (t : Sem α) (Q : α → Shared → Prop) (E : Value → Shared → Prop) (s : Shared) : Prop :=
  ∀ Γ p, Γ.In A → clean Γ.code = true → (∀ x ∈ Γ.below, clean x.1 = true) → Sem.wp M Γ t (fun a u₀ s' => Q a s') (fun e u₀ s' => E e s') p s
noncomputable def codeX (M : Model) (A : Around) (c : Code) (R : Result → Shared → Prop) (s : Shared) : Prop :=
  ∀ Γ p, Γ.code = c → Γ.Below A → (∀ x ∈ Γ.below, clean x.1 = true) → wpCode M Γ R p s

section sX
variable {α β : Type} {M : Model} {A : Around} {E : Value → Shared → Prop} {s : Shared}
theorem wpX.of {t : Sem α} {Q : α → Shared → Prop} (h : wpAny M A t Q E s) : wpX M A t Q E s := fun Γ p hΓ u₀ u₀ => h Γ p hΓ
theorem codeX.of {c : Code} {R : Result → Shared → Prop} (h : codeAny M A c R s) : codeX M A c R s := fun Γ p hc hΓ u₀ => h Γ p hc hΓ
theorem wpX_mono {t : Sem α} {Q Q' : α → Shared → Prop} {E' : Value → Shared → Prop} (h : wpX M A t Q E s) (hQ : ∀ a s, Q a s → Q' a s) (hE : ∀ e s, E e s → E' e s) : wpX M A t Q' E' s :=
  fun Γ p hΓ k1 k2 => Sem.wp_mono M Γ t (fun a u₀ s => hQ a s) (fun e u₀ s => hE e s) p s (h Γ p hΓ k1 k2)
theorem codeX_mono {c : Code} {R R' : Result → Shared → Prop} (h : codeX M A c R s) (hR : ∀ r s, R r s → R' r s) : codeX M A c R' s := fun Γ p hc hΓ k => wpCode_mono hR (h Γ p hc hΓ k)
theorem wpX_pure {a : α} {Q : α → Shared → Prop} (h : Q a s) : wpX M A (pure a) Q E s := .of (wpAny_pure h)
theorem wpX_bind {m : Sem α} {f : α → Sem β} {Q : β → Shared → Prop} (h : wpX M A m (fun a s' => wpX M A (f a) Q E s') E s) : wpX M A (m >>= f) Q E s := fun Γ p hΓ k1 k2 => by
  rw [Sem.wp_bind']
  exact Sem.wp_mono M Γ m (fun a p' s' h' => h' Γ p' hΓ k1 k2) (fun u₀ u₀ u₀ h' => h') p s (h Γ p hΓ k1 k2)
theorem wpX_onRaise {m : Sem α} {k : Value → Sem Unit} {Q : α → Shared → Prop} (h : wpX M A m Q (fun e s' => wpX M A (k e) (fun u₀ s'' => E e s'') E s') s) : wpX M A (m.onRaise k) Q E s := fun Γ p hΓ k1 k2 => by
  rw [Sem.wp_onRaise]
  exact Sem.wp_mono M Γ m (fun u₀ u₀ u₀ h' => h') (fun e p' s' h' => h' Γ p' hΓ k1 k2) p s (h Γ p hΓ k1 k2)
theorem wpX_holding {vs : List Value} {m : Sem α} {Q : α → Shared → Prop} (h : wpX M A m Q E s) : wpX M A (holding vs m) Q E s := fun Γ p hΓ k1 k2 => by rw [Sem.wp_holding]; exact h Γ p hΓ k1 k2
theorem wpX_standAt {pos : Pos} {Q : Unit → Shared → Prop} (h : Q () s) : wpX M A (standAt pos) Q E s := .of (wpAny_standAt h)
theorem wpX_point {Q : Unit → Shared → Prop} (h : Q () s) : wpX M A point Q E s := .of (wpAny_point h)
theorem wpX_of_eq {m : Sem α} {a : α} {Q : α → Shared → Prop} (e : m = pure a) (h : Q a s) : wpX M A m Q E s := .of (wpAny_of_eq e h)
theorem clean_below {Γ : Ctx} {p : Pos} (k1 : clean Γ.code = true) (k2 : ∀ x ∈ Γ.below, clean x.1 = true) : ∀ x ∈ (Γ.code, p) :: Γ.below, clean x.1 = true := fun x hx => by
  rcases List.mem_cons.mp hx with rfl | hx
  · exact k1
  · exact k2 x hx
theorem wpX_run {c : Code} {h : Option Value} {Q : Flow → Shared → Prop} (hc : codeX M (A.mark h) c (fun r s' => match r with | .ok f => Q f s' | .error e => E e s') s) (hnb : h ≠ some byPass := by intro x; cases x) : wpX M A (run c h) Q E s :=
  fun Γ p hΓ k1 k2 => by rw [Sem.wp_run]; exact hc _ p rfl (hΓ.enter c h p hnb) (clean_below k1 k2)
theorem wpX_call {f : Value} {pos : List Value} {kw : List (Str × Value)} {Q : Value → Shared → Prop} (hc : codeX M A (.call f ⟨pos, kw⟩) (fun r s' => match r with | .ok (.ret v) => Q v s' | .ok _ => False | .error e => E e s') s) : wpX M A (call f pos kw) Q E s :=
  fun Γ p hΓ k1 k2 => by
    show Sem.wp M Γ (runValue _) _ _ p s
    rw [Sem.wp_runValue]; exact hc _ p rfl (hΓ.enter _ none p (by intro x; cases x)) (clean_below k1 k2)
theorem codeX_of_tree {c : Code} {R : Result → Shared → Prop} (hc : clean c = true) (h : wpX M (A.under c) (M.den c) (fun fin s' => match fin with | .done f => R (.ok f) s' | .again c' => c'.quiet = true ∧ codeX M A c' R s') (fun e s' => R (.error e) s') s) : codeX M A c R s := fun Γ p e hΓ k => by
  rw [wpCode_iff_wp, e]
  refine Sem.wp_mono M Γ _ (fun fin p' s' h' => ?_) (fun u₀ u₀ u₀ h' => h') p s (h Γ p (e ▸ hΓ.in) (e ▸ hc) k)
  cases fin with
  | done f => exact h'
  | again c' => exact ⟨h'.1, h'.2 (Γ.goto c') p' rfl (hΓ.goto c') k⟩
theorem codeX_loop {c : Code} {R : Result → Shared → Prop} (hcl : clean c = true) (hq : c.quiet = true) (I : Nat → Shared → Prop)
    (turn : ∀ n s, I n s → wpX M (A.under c) (M.den c) (fun fin s' => match fin with | .done f => R (.ok f) s' | .again c' => (c' = c ∧ ∃ m, m < n ∧ I m s') ∨ (c'.quiet = true ∧ codeX M A c' R s')) (fun e s' => R (.error e) s') s)
    (n : Nat) (h : I n s) : codeX M A c R s := by
  induction n using Nat.strongRecOn generalizing s with
  | ind n ih =>
    refine codeX_of_tree hcl (wpX_mono (turn n s h) (fun fin s' hf => ?_) fun u₀ u₀ h' => h')
    cases fin with
    | done f => exact hf
    | again c' =>
      rcases hf with ⟨rfl, m, hm, hI⟩ | hf
      · exact ⟨hq, ih m hm hI⟩
      · exact hf
theorem wpX_operate {vs : List Value} {m : Sem Value} {Q : Value → Shared → Prop} (h : wpX M A m Q E s) : wpX M A (operate vs m) Q E s := fun Γ p hΓ k1 k2 => by rw [Sem.wp_operate]; exact h Γ p hΓ k1 k2
theorem wpX_keep {vs : List Value} {m : Sem α} {Q : α → Shared → Prop} (h : wpX M A m Q E s) : wpX M A (m.keep vs) Q E s := fun Γ p hΓ k1 k2 => by rw [Sem.wp_keep]; exact h Γ p hΓ k1 k2

theorem clean_bad {id : String} {args : Args} (h1 : badIds.contains id = true) (h2 : clean (.builtin id args) = true) : False := by
  have h3 : (!badIds.contains id) = true := h2
  rw [h1] at h3; cases h3
theorem wpX_exported {a : Addr} {Q : Bool → Shared → Prop} (h : Q false s) : wpX M A (Builtin.Bytes.exported (.ref a)) Q E s := fun Γ p hΓ k1 k2 => by
  show Q (((Γ.code, p) :: Γ.below).any _) s
  rw [List.any_eq_false.mpr fun x hx => ?_]
  · exact h
  obtain ⟨c, q⟩ := x
  have hc := clean_below (p := p) k1 k2 _ hx
  dsimp only at hc
  clear hx
  cases c with
  | builtin id args =>
    have hc' : badIds.contains id = false := by simpa [clean] using hc
    obtain ⟨pos, kw⟩ := args
    have n1 : id ≠ "bytearray.__contains__" := fun q => by subst q; exact clean_bad (by decide) hc
    have n2 : id ≠ "bytearray.__mod__" := fun q => by subst q; exact clean_bad (by decide) hc
    have n3 : id ≠ "bytearray.__rmod__" := fun q => by subst q; exact clean_bad (by decide) hc
    have n4 : id ≠ "_struct.pack_into.held" := fun q => by subst q; exact clean_bad (by decide) hc
    have n5 : id ≠ "bytearray.find.held" := fun q => by subst q; exact clean_bad (by decide) hc
    have n6 : Builtin.Bytes.decodersThatHold.contains id = false := by
      unfold badIds at hc'
      rw [List.contains_eq_any_beq] at hc' ⊢
      rw [List.any_append, Bool.or_eq_false_iff] at hc'
      exact hc'.2
    delta Builtin.Bytes.exported.match_1
    show ¬ ((dite (id = "bytearray.__contains__") _ _ : Bool) = true)
    rw [dif_neg n1, dif_neg n2, dif_neg n3, dif_neg n4, dif_neg n5]
    cases pos with
    | nil => exact Bool.false_ne_true
    | cons v r =>
      show ¬ ((Builtin.Bytes.sameRef v (.ref a) && Builtin.Bytes.decodersThatHold.contains id) = true)
      rw [n6, Bool.and_false]; exact Bool.false_ne_true
  | _ => exact Bool.false_ne_true
end sX

end

section
set_option tactic.hygienic false
open PySem PySem.W PyProof.Rows

section sR
variable {M : Model} {A : Around} {E : Value → Shared → Prop} {s : Shared} {env : Env}
theorem xspl_nil {pos : Pos} {Q : List Value → Shared → Prop} (h : Q [] s) : wpX M A (spliced (backTo pos (starEach [] env))) Q E s := wpX_pure h
theorem xspl_cons {pos : Pos} {e : Expr} {rest : List Expr} {Q : List Value → Shared → Prop} (he : starEach (e :: rest) env = (false, eval e env) :: starEach rest env)
    (h : wpX M A (eval e env) (fun v s₁ => wpX M A (spliced (backTo pos (starEach rest env))) (fun vs s₂ => Q (v :: vs) s₂) E s₁) E s) : wpX M A (spliced (backTo pos (starEach (e :: rest) env))) Q E s := by
  rw [he]
  show wpX M A (eval e env >>= fun v => (pure [v] : Sem (List Value)) >>= fun here => holding here (spliced (backTo pos (starEach rest env))) >>= fun r => pure (here ++ r)) Q E s
  exact wpX_bind (wpX_mono h (fun v s₁ h₁ => wpX_bind (wpX_pure (wpX_bind (wpX_holding (wpX_mono h₁ (fun vs s₂ h₂ => wpX_pure h₂) fun u₀ u₀ x => x))))) fun u₀ u₀ x => x)
theorem x_args {f : Value} {x : Sem Value} {rest : List (Bool × Sem Value)} {Q : Args → Shared → Prop} (h : wpX M A (spliced ((false, x) :: rest)) (fun vs s' => Q ⟨vs, []⟩ s') E s) : wpX M A (evalArgs f true ((false, x) :: rest) []) Q E s := by
  unfold evalArgs
  show wpX M A (spliced ((false, x) :: rest) >>= _) Q E s
  exact wpX_bind (wpX_mono h (fun vs s' h' => wpX_holding (wpX_bind (wpX_pure (wpX_bind (wpX_pure (wpX_pure h')))))) fun u₀ u₀ x => x)
theorem x_callName {id : Str} {p pos : Pos} {args : List Expr} {Q : Value → Shared → Prop} (h : wpX M A (eval (.Name id p) env) (fun f s₁ => wpX M A (callWith pos f [] (backTo pos (starEach args env)) []) Q E s₁) E s) : wpX M A (eval (.Call (.Name id p) args [] pos) env) Q E s := by
  show wpX M A (eval (.Name id p) env >>= fun f => callWith pos f [] (backTo pos (starEach args env)) (backToKw pos (keywordEach [] env))) Q E s
  exact wpX_bind h
theorem x_callWith {pos : Pos} {a : Addr} {o : Obj} {fd : FuncData} {first : List Value} {args : List (Bool × Sem Value)} {Q : Value → Shared → Prop}
    (h : wpX M A (evalArgs (.ref a) true args []) (fun x s₁ => (s₁.heap.get? a = some o ∧ o.data = .func fd) ∧ wpX M A (call (.ref a) (first ++ x.pos) x.kw) Q E s₁) E s) : wpX M A (callWith pos (.ref a) first args []) Q E s := by
  unfold callWith
  refine wpX_bind (wpX_holding (wpX_mono h (fun x s₁ h₁ => wpX_bind (wpX_standAt ?_)) fun u₀ u₀ x => x))
  have tail : ∀ {t : Sem Value}, wpX M A t Q E s₁ → wpX M A (t >>= fun r => holding [r] point >>= fun u₀ => pure r) Q E s₁ :=
    fun ht => wpX_bind (wpX_mono ht (fun r s₂ hr => wpX_bind (wpX_holding (wpX_point (wpX_pure hr)))) fun u₀ u₀ x => x)
  have kp : keeperOf (.ref a) = (load a >>= fun o => _) := rfl
  cases hs : args.any (·.1) <;> simp only [List.any_nil, Bool.or_false] <;>
    refine wpX_bind (m := keeperOf (.ref a)) (.of ?_) <;> unfold keeperOf <;>
    refine wpAny_bind (wpAny_load h₁.1.1 ?_) <;> rw [h₁.1.2] <;> refine wpAny_pure ?_
  · dsimp only
    split
    · exact tail h₁.2
    · exact tail (by unfold callMarked; exact wpX_keep h₁.2)
  · exact tail (by unfold callMarked; exact wpX_keep h₁.2)
theorem x_callWithB {pos : Pos} {id : String} {first : List Value} {args : List (Bool × Sem Value)} {Q : Value → Shared → Prop} (hp : args.any (·.1) = false)
    (h : wpX M A (evalArgs (.builtin id) true args []) (fun a s₁ => wpX M A (call (.builtin id) (first ++ a.pos) a.kw) Q E s₁) E s) : wpX M A (callWith pos (.builtin id) first args []) Q E s := by
  unfold callWith
  refine wpX_bind (wpX_holding (wpX_mono h (fun a s₁ h₁ => wpX_bind (wpX_standAt ?_)) fun u₀ u₀ x => x))
  simp only [hp, List.any_nil, Bool.or_false]
  refine wpX_bind (wpX_pure ?_)
  exact wpX_bind (wpX_mono h₁ (fun r s₂ hr => wpX_bind (wpX_holding (wpX_point (wpX_pure hr)))) fun u₀ u₀ x => x)
theorem x_meth {o : Expr} {name : Str} {apos pos : Pos} {args : List Expr} {pl : Sem Bool} {Q : Value → Shared → Prop}
    (h : wpX M A (eval o env) (fun ov s₁ => wpX M A (getMethod ov name pl) (fun fx s₂ => wpX M A (callWith pos fx.1 fx.2 (backTo pos (starEach args env)) []) Q E s₂) E s₁) E s)
    (he : eval (.Call (.Attribute o name apos) args [] pos) env = (do
      let ov ← eval o env
      standAt apos.atName
      let (f, first) ← holding [ov] (getMethod ov name pl)
      callWith pos f first (backTo pos (starEach args env)) [])) : wpX M A (eval (.Call (.Attribute o name apos) args [] pos) env) Q E s := by
  rw [he]
  exact wpX_bind (wpX_mono h (fun ov s₁ h₁ => wpX_bind (wpX_standAt (wpX_bind (wpX_holding (wpX_mono h₁ (fun fx s₂ h₂ => h₂) fun u₀ u₀ x => x))))) fun u₀ u₀ x => x)
theorem x_binop {l r : Expr} {op : Operator} {pos : Pos} {Q : Value → Shared → Prop} (h : wpX M A (eval l env) (fun a s₁ => wpX M A (eval r env) (fun b s₂ => wpX M A (binaryOp op a b) Q E s₂) E s₁) E s) : wpX M A (eval (.BinOp l op r pos) env) Q E s := by
  rw [eval_BinOp]
  exact wpX_bind (wpX_mono h (fun a s₁ h₁ => wpX_bind (wpX_holding (wpX_mono h₁ (fun b s₂ h₂ => wpX_bind (wpX_standAt (wpX_operate h₂))) fun u₀ u₀ x => x))) fun u₀ u₀ x => x)
theorem x_cmp {l r : Expr} {op : CmpOp} {pos : Pos} {whole : Sem Value} {Q : Bool → Shared → Prop} (h : wpX M A (eval l env) (fun a s₁ => wpX M A (eval r env) (fun b s₂ => wpX M A (compareOp op a b) (fun c s₃ => wpX M A (truthy c) Q E s₃) E s₂) E s₁) E s) (hm : behindInMarks op r = false) :
    wpX M A (isTrue (.Compare l [op] [r] pos) env whole) Q E s := by
  rw [isTrue_Compare1, markedBehindIn_of_false hm]
  exact wpX_bind (wpX_mono h (fun a s₁ h₁ => wpX_bind (wpX_holding (wpX_mono h₁ (fun b s₂ h₂ => wpX_bind (wpX_standAt (wpX_bind (wpX_operate (wpX_mono h₂ (fun c s₃ h₃ => wpX_holding h₃) fun u₀ u₀ x => x))))) fun u₀ u₀ x => x))) fun u₀ u₀ x => x)
theorem x_not {x : Expr} {pos : Pos} {whole : Sem Value} {Q : Bool → Shared → Prop} (h : wpX M A (isTrue x env (eval x env)) (fun b s₁ => Q (!b) s₁) E s) : wpX M A (isTrue (.UnaryOp .Not x pos) env whole) Q E s := by
  rw [arm_isTrue_UnaryOp]
  exact wpX_bind (wpX_mono h (fun b s₁ h₁ => wpX_pure h₁) fun u₀ u₀ x => x)
theorem x_val {e : Expr} {whole : Sem Value} {Q : Bool → Shared → Prop} (h : wpX M A whole (fun v s₁ => wpX M A (truthy v) Q E s₁) E s) (he : isTrue e env whole = (do let v ← whole; standAt e.pos; holding [v] (truthy v))) : wpX M A (isTrue e env whole) Q E s := by
  rw [he]
  exact wpX_bind (wpX_mono h (fun v s₁ h₁ => wpX_bind (wpX_standAt (wpX_holding h₁))) fun u₀ u₀ x => x)
theorem x_or {x : Expr} {rest : List Expr} {Q : Bool → Shared → Prop} (h : wpX M A (isTrue x env (eval x env)) (fun b s₁ => if b then Q true s₁ else wpX M A (allTrue .Or rest env) Q E s₁) E s) : wpX M A (allTrue .Or (x :: rest) env) Q E s := by
  rw [arm_allTrue_cons]
  refine wpX_bind (wpX_mono h (fun b s₁ h₁ => ?_) fun u₀ u₀ x => x)
  cases b
  · exact h₁
  · exact wpX_pure h₁
theorem x_andv {e₁ e₂ : Expr} {rest : List Expr} {pos : Pos} {Q : Value → Shared → Prop} (h : wpX M A (eval e₁ env) (fun v s₁ => wpX M A (truthy v) (fun c s₂ => if c then wpX M A (eval (.BoolOp .And (e₂ :: rest) pos) env) Q E s₂ else Q v s₂) E s₁) E s) :
    wpX M A (eval (.BoolOp .And (e₁ :: e₂ :: rest) pos) env) Q E s := by
  show wpX M A (eval e₁ env >>= fun v => standAt pos >>= fun u₀ => holding [v] (truthy v) >>= fun c => (match BoolOp.And, c with
    | .And, false | .Or, true => pure v
    | _, _ => boolOp pos .And (eval e₂ env :: evalEach rest env))) Q E s
  refine wpX_bind (wpX_mono h (fun v s₁ h₁ => wpX_bind (wpX_standAt (wpX_bind (wpX_holding (wpX_mono h₁ (fun c s₂ h₂ => ?_) fun u₀ u₀ x => x))))) fun u₀ u₀ x => x)
  cases c with
  | false => exact wpX_pure h₂
  | true => exact h₂
theorem x_execs_cons {st : Stmt} {rest : List Stmt} {Q : Flow → Shared → Prop} (h : wpX M A (exec st env) (fun f s' => match f with | .next => wpX M A (execs rest env) Q E s' | f => Q f s') E s) : wpX M A (execs (st :: rest) env) Q E s := by
  rw [execs_cons]
  refine wpX_bind (wpX_mono h (fun f s' h' => ?_) fun u₀ u₀ x => x)
  cases f <;> first | exact h' | exact wpX_pure h'
theorem x_assign {x : Str} {px pos : Pos} {e : Expr} {Q : Flow → Shared → Prop} (h : wpX M A (eval e env) (fun v s₁ => wpX M A (storeName env x v) (fun u₀ => Q .next) E s₁) E s) (hs : swapsWith e (some (.Name x px)) pos.line env = pure false) : wpX M A (exec (.Assign [.Name x px] e pos) env) Q E s := fun Γ p hΓ k1 k2 => by
  simp only [exec_Assign_Name env x px e pos hs, Sem.wp_bind', Sem.wp_cmd_standAt, Sem.wp_bindName, Sem.wp_pure']
  exact Sem.wp_mono M Γ _ (fun v u₀ s₁ h₁ => h₁ Γ _ hΓ k1 k2) (fun u₀ u₀ u₀ h' => h') _ _ (h Γ _ hΓ k1 k2)
theorem x_if {test : Expr} {b o : List Stmt} {pos : Pos} {Q : Flow → Shared → Prop} (h : wpX M A (isTrue test env (eval test env)) (fun c s₂ => if c then wpX M A (execs b env) Q E s₂ else wpX M A (execs o env) Q E s₂) E s) : wpX M A (exec (.If test b o pos) env) Q E s := by
  rw [exec_If]
  refine wpX_bind (wpX_standAt (wpX_bind (wpX_mono h (fun c s₂ h₂ => ?_) fun u₀ u₀ x => x)))
  cases c <;> exact h₂
theorem x_ret {e : Expr} {pos : Pos} {Q : Flow → Shared → Prop} (h : wpX M A (eval e env) (fun v => Q (.ret v)) E s) : wpX M A (exec (.Return (some e) pos) env) Q E s := by
  rw [exec_Return_some]
  exact wpX_bind (wpX_standAt (wpX_bind (wpX_mono h (fun v s₁ h₁ => wpX_pure h₁) fun u₀ u₀ x => x)))
theorem x_expr {e : Expr} {pos : Pos} {Q : Flow → Shared → Prop} (h : wpX M A (eval e env) (fun v s' => v = .none ∧ Q .next s') E s) (hi : interactive env = false) (hs : swapsWith e none pos.line env = pure false) : wpX M A (exec (.Expr e pos) env) Q E s := by
  rw [exec_Expr env e pos hi hs]
  refine wpX_bind (wpX_standAt (wpX_bind (wpX_mono h (fun v s' h' => ?_) fun u₀ u₀ x => x)))
  obtain ⟨rfl, h'⟩ := h'
  rw [dropValue_plain (fun u₀ => by intro q; cases q)]
  exact wpX_pure h'
theorem x_noted {α : Type} {m : Sem α} {Q : α → Shared → Prop} (h : wpX M A m Q (notedBy M A env E) s) : wpX M A (m.onRaise fun x => do noteFrame x env; theTreesLotGoes x) Q E s :=
  wpX_onRaise (wpX_mono h (fun u₀ u₀ q => q) fun u₀ u₀ hx => .of (wpAny_bind (wpAny_mono hx (fun u₀ u₀ e => wpAny_theTreesLotGoes e) fun u₀ u₀ e => e)))
theorem x_runOwn {c : Code} {h : Option Value} {Q : Flow → Shared → Prop} (hc : codeX M (A.mark h) c (fun r s' => match r with | .ok f => Q f s' | .error e => cameBackBy M A env E e s') s) (hnb : h ≠ some byPass := by intro x; cases x) : wpX M A (runOwn c env h) Q E s := by
  unfold runOwn
  exact wpX_onRaise (wpX_mono (wpX_run hc hnb) (fun u₀ u₀ x => x) fun u₀ u₀ x => .of x)
end sR
section sR2
variable {prog : Program} {w : World} {A : Around} {E : Value → Shared → Prop} {s : Shared} {env : Env} {R : Result → Shared → Prop}
theorem x_while {test : Expr} {body : List Stmt} {pos : Pos} {Q : Flow → Shared → Prop} (I : Nat → Shared → Prop)
    (turn : ∀ n s, I n s → wpX (model prog w) A (isTrue test env (eval test env)) (fun b s₂ => if b then wpX (model prog w) A (execs body env) (fun f s₃ => match f with | .next => ∃ m, m < n ∧ I m s₃ | .ret v => Q (.ret v) s₃ | _ => False) (notedBy (model prog w) A env (cameBackBy (model prog w) A env E)) s₂
      else Q .next s₂) (notedBy (model prog w) A env (cameBackBy (model prog w) A env E)) s) (n : Nat) (h : I n s) : wpX (model prog w) A (exec (.While test body [] pos) env) Q E s := by
  rw [exec_While]
  refine wpX_bind (wpX_standAt (x_runOwn (codeX_loop rfl rfl I (fun n s hI => ?_) n h)))
  show wpX _ A ((whileTurn test body [] env).onRaise (fun x => do noteFrame x env; theTreesLotGoes x)) _ _ s
  refine x_noted ?_
  simp only [whileTurn]
  refine wpX_bind (wpX_mono (turn n s hI) (fun b s₂ h₂ => ?_) fun u₀ u₀ h' => h')
  cases b with
  | false =>
    simp only [Bool.false_eq_true, if_false] at h₂ ⊢
    exact wpX_bind (wpX_pure (wpX_pure h₂))
  | true =>
    simp only [if_true] at h₂ ⊢
    refine wpX_bind (wpX_mono h₂ (fun f s₃ h₃ => ?_) fun u₀ u₀ h' => h')
    cases f with
    | next => exact wpX_pure (.inl ⟨rfl, h₃⟩)
    | ret v => exact wpX_pure h₃
    | _ => exact h₃.elim
theorem x_forLoop {target : Expr} {it : Value} {body : List Stmt} (I : Nat → Shared → Prop)
    (turn : ∀ n s, I n s → let M := model prog w; let E : Value → Shared → Prop := notedBy M A env fun e s' => R (.error e) s'; let J : Shared → Prop := fun s => ∃ m, m < n ∧ I m s; wpX M A (pyNext it) (fun r s₁ => match r with
      | none => R (.ok .next) s₁
      | some v => wpX M A (letOwnedTupleGo target it v) (fun u₀ s₁' => wpX M A (assign target env v) (fun u₀ s₂ => wpX M A (execs body env) (fun f s₃ => match f with
            | .next => J s₃
            | .ret v => R (.ok (.ret v)) s₃ | _ => False) E s₂) E s₁') E s₁) E s)
    (n : Nat) (h : I n s) : codeX (model prog w) A (.forLoop target it body [] env) R s := by
  refine codeX_loop rfl rfl I (fun n s hI => ?_) n h
  show wpX _ A ((forTurn target it body [] env).onRaise (fun x => do noteFrame x env; theTreesLotGoes x)) _ _ s
  refine x_noted ?_
  simp only [forTurn]
  refine wpX_bind (wpX_standAt (wpX_bind (wpX_onRaise (wpX_mono (turn n s hI) (fun r s₁ h₁ => ?_) fun u₀ u₀ h' => wpX_standAt h'))))
  cases r with
  | none => exact wpX_pure (.inr ⟨rfl, .of (codeAny_block (wpAny_execs_nil h₁))⟩)
  | some v =>
    refine wpX_bind (wpX_mono h₁ (fun u₀ s₁' h₁' => wpX_bind (wpX_mono h₁' (fun u₀ s₂ h₂ => wpX_bind (wpX_mono h₂ (fun f s₃ h₃ => ?_) fun u₀ u₀ h' => h')) fun u₀ u₀ h' => h')) fun u₀ u₀ h' => h')
    cases f with
    | next => exact wpX_pure (.inl ⟨rfl, h₃⟩)
    | ret v => exact wpX_pure h₃
    | _ => exact h₃.elim
theorem x_for {target iter : Expr} {body : List Stmt} {pos : Pos} {Q : Flow → Shared → Prop}
    (h : wpX (model prog w) A (eval iter env) (fun x s₁ => wpX (model prog w) A (pyIter x) (fun it s₂ => codeX (model prog w) A (.forLoop target it body [] env) (fun r s' => match r with | .ok f => Q f s' | .error e => cameBackBy (model prog w) A env E e s') s₂) E s₁) E s)
    (hs : ∀ x, foldedSetIterable iter env x = pure x) : wpX (model prog w) A (exec (.For target iter body [] pos) env) Q E s := by
  rw [exec_For]
  exact wpX_bind (wpX_standAt (wpX_bind (wpX_mono h (fun x s₁ h₁ => wpX_bind (wpX_of_eq (hs x) (wpX_bind (wpX_standAt (wpX_bind (wpX_holding (wpX_mono h₁ (fun it s₂ h₂ => x_runOwn h₂) fun u₀ u₀ h' => h'))))))) fun u₀ u₀ h' => h')))
theorem x_func {body : List Stmt} (h : wpX (model prog w) (A.deeper env) (execs body env) (fun f s' => R (.ok (.ret (match f with | .ret v => v | _ => .none))) s') (fun e s' => wpAny (model prog w) (A.deeper env) (leaving env e) (fun u₀ s'' => R (.error e) s'') (fun e' s'' => R (.error e') s'') s') s) :
    codeX (model prog w) A (.func body env) R s := by
  refine codeX_of_tree rfl ?_
  show wpX _ (A.deeper env) (do point; match ← (execs body env).onRaise (leaving env) with | .ret v => ret v | _ => ret .none) _ _ s
  refine wpX_bind (wpX_point (wpX_bind (wpX_onRaise (wpX_mono h (fun f s' h' => ?_) fun u₀ u₀ h' => .of h'))))
  cases f <;> exact wpX_pure h'
theorem x_callFn {a : Addr} {args : Args} {o : Obj} {fd : FuncData} {body : List Stmt} (hroom : A.depth < recursionLimit) (ho : s.heap.get? a = some o) (hd' : o.data = .func fd) (hco : fd.scope.isCoroutine = false) (hgen : fd.scope.isGenerator = false) (hbody : fd.body = .stmts body) (hcd : s.heap.CodeRec fd.code fd.qualname)
    (h : wpX (model prog w) A.in1 (bindArgs fd args) (fun binds s₁ => wpX (model prog w) A.in1 (newFunctionEnv fd.scope fd.globals fd.closure binds (fd.qualname ++ ".<locals>.") (some a) fd.code none fd.builtins) (fun env s₂ => s₂.heap.NoLimit ∧ codeX (model prog w) A (.func body env) R s₂) (fun e s' => R (.error e) s') s₁) (fun e s' => R (.error e) s') s) :
    codeX (model prog w) A (.call (.ref a) args) R s := by
  refine codeX_of_tree rfl ?_
  show wpX _ A.in1 (callAny (.ref a) args) _ _ s
  simp only [callAny]
  refine wpX_bind (.of (wpAny_load ho ?_))
  refine absP fun P₀ hP₀ => ?_
  obtain ⟨c, oc, vs, tq, hc, hoc, hdc, hq⟩ := hcd
  refine hP₀ ?_; clear hP₀ P₀
  simp only [hd', callFunction, hco, hgen, hbody, hc]
  rw [hc] at h
  refine wpX_bind (m := field (.ref c) 1) (.of (wpAny_field hoc hdc hq ?_))
  refine wpX_bind (wpX_pure ?_)
  exact wpX_bind (wpX_mono h (fun binds s₁ h₁ => wpX_bind (wpX_mono h₁ (fun env s₂ h₂ => wpX_bind (.of (wpAny_enterFrame h₂.1 hroom (wpX_pure (And.intro rfl h₂.2))))) fun u₀ u₀ h' => h')) fun u₀ u₀ h' => h')
end sR2

end

section
set_option tactic.hygienic false
open PySem PySem.W PyProof.Rows
variable {G : Glb} {C C' : Cx} {loc loc' : Loc} {tmp tmp' : Tmp} {mh hid l l' : MH} {s s' s₁ : Shared}
variable {X : Addr → Loc → MH → Prop} {Q : D → MH → Prop} {Rt : D → MH → Prop} {N : Loc → MH → Prop}

noncomputable def EVX (G : Glb) (C : Cx) (loc : Loc) (mh : MH) (e : Expr) (X : Addr → Loc → MH → Prop) (Q : D → MH → Prop) : Prop :=
  ∀ tmp hid s, Rep G C loc tmp (mh ++ hid) s → wpX (Mo G) C.A (eval e C.env) (EVq G C loc tmp hid Q) (EErr G C hid X) s
noncomputable def TTX (G : Glb) (C : Cx) (loc : Loc) (mh : MH) (e : Expr) (X : Addr → Loc → MH → Prop) (Q : Bool → MH → Prop) : Prop :=
  ∀ tmp hid s, Rep G C loc tmp (mh ++ hid) s → wpX (Mo G) C.A (isTrue e C.env (eval e C.env)) (TTq G C loc tmp hid Q) (EErr G C hid X) s
noncomputable def EVsX (G : Glb) (C : Cx) (loc : Loc) (mh : MH) (es : List Expr) (X : Addr → Loc → MH → Prop) (Q : List D → MH → Prop) : Prop :=
  ∀ tmp hid s pos, Rep G C loc tmp (mh ++ hid) s → wpX (Mo G) C.A (spliced (backTo pos (starEach es C.env))) (EVsq G C loc tmp hid Q) (EErr G C hid X) s
noncomputable def SXX (G : Glb) (C : Cx) (loc : Loc) (mh : MH) (st : Stmt) (X : Addr → Loc → MH → Prop) (Rt : D → MH → Prop) (N : Loc → MH → Prop) : Prop :=
  ∀ tmp hid s, Rep G C loc tmp (mh ++ hid) s → wpX (Mo G) C.A (exec st C.env) (FPost G C tmp hid N Rt) (EErr G C hid X) s
noncomputable def EXX (G : Glb) (C : Cx) (loc : Loc) (mh : MH) (ss : List Stmt) (X : Addr → Loc → MH → Prop) (Rt : D → MH → Prop) (N : Loc → MH → Prop) : Prop :=
  ∀ tmp hid s, Rep G C loc tmp (mh ++ hid) s → wpX (Mo G) C.A (execs ss C.env) (FPost G C tmp hid N Rt) (EErr G C hid X) s
noncomputable def FNX (G : Glb) (n : Nat) (f : Value) (ds : List D) (mh : MH) (X : Addr → MH → Prop) (Q : D → MH → Prop) : Prop :=
  ∀ C loc tmp hid s vs, Can G C n → Rep G C loc tmp (mh ++ hid) s → VDs s.heap (MM C (mh ++ hid)) vs ds →
    codeX (Mo G) C.A (.call f ⟨vs, []⟩) (FNq G C loc tmp hid X Q) s
theorem EVX.go {e : Expr} {P : Value → Shared → Prop} (h : EVX G C loc mh e X Q) (R : Rep G C loc tmp (mh ++ hid) s) (k : ∀ v s' d m, Rep G C loc ((v, d) :: tmp) (m ++ hid) s' → Q d m → P v s') :
    wpX (Mo G) C.A (eval e C.env) P (EErr G C hid X) s := wpX_mono (h tmp hid s R) (fun v s' q => by cases q with | mk d m a b => exact k v s' d m a b) fun u₀ u₀ x => x
theorem TTX.go {e : Expr} {Q : Bool → MH → Prop} {P : Bool → Shared → Prop} (h : TTX G C loc mh e X Q) (R : Rep G C loc tmp (mh ++ hid) s) (k : ∀ v s' m, Rep G C loc tmp (m ++ hid) s' → Q v m → P v s') :
    wpX (Mo G) C.A (isTrue e C.env (eval e C.env)) P (EErr G C hid X) s := wpX_mono (h tmp hid s R) (fun v s' q => by cases q with | mk m a b => exact k v s' m a b) fun u₀ u₀ x => x
theorem EVsX.go {es : List Expr} {Q : List D → MH → Prop} {P : List Value → Shared → Prop} {pos : Pos} (h : EVsX G C loc mh es X Q) (R : Rep G C loc tmp (mh ++ hid) s)
    (k : ∀ vs s' ds m, Rep G C loc tmp (m ++ hid) s' → VDs s'.heap (MM C (m ++ hid)) vs ds → Q ds m → P vs s') :
    wpX (Mo G) C.A (spliced (backTo pos (starEach es C.env))) P (EErr G C hid X) s := wpX_mono (h tmp hid s pos R) (fun v s' q => by cases q with | mk ds m a V b => exact k v s' ds m a V b) fun u₀ u₀ x => x
theorem EV.x {e : Expr} (h : EV G C loc mh e X Q) : EVX G C loc mh e X Q := fun tmp hid s R => .of (h tmp hid s R)
theorem TT.x {e : Expr} {Q : Bool → MH → Prop} (h : TT G C loc mh e X Q) : TTX G C loc mh e X Q := fun tmp hid s R => .of (h tmp hid s R)
theorem EVs.x {es : List Expr} {Q : List D → MH → Prop} (h : EVs G C loc mh es X Q) : EVsX G C loc mh es X Q := fun tmp hid s pos R => .of (h tmp hid s pos R)
theorem SX.x {st : Stmt} (h : SX G C loc mh st X Rt N) : SXX G C loc mh st X Rt N := fun tmp hid s R => .of (h tmp hid s R)
theorem EX.x {ss : List Stmt} (h : EX G C loc mh ss X Rt N) : EXX G C loc mh ss X Rt N := fun tmp hid s R => .of (h tmp hid s R)
theorem EXX_nil (h : N loc mh) : EXX G C loc mh [] X Rt N := (EX_nil h).x
theorem EXX_cons {st : Stmt} {rest : List Stmt} (h : SXX G C loc mh st X Rt fun loc' mh' => EXX G C loc' mh' rest X Rt N) : EXX G C loc mh (st :: rest) X Rt N := fun tmp hid s R =>
  x_execs_cons (wpX_mono (h tmp hid s R) (fun f s1 q => by
    cases f with
    | next => obtain ⟨l, m, R1, h1⟩ := q; exact h1 tmp hid s1 R1
    | ret v => exact q
    | _ => exact q.elim) fun u₀ u₀ x => x)
theorem SXX_assign {x : Str} {px pos : Pos} {e : Expr} (hk : Sto C x) (h : EVX G C loc mh e X fun d m => N ((x, d) :: loc) m) (hs : ∀ env, swapsWith e (some (.Name x px)) pos.line env = pure false := by intro _; rfl) : SXX G C loc mh (.Assign [.Name x px] e pos) X Rt N := fun tmp hid s R =>
  x_assign (h.go R (fun v s1 d m R1 h1 => .of (wp_store R1.pop R1.top hk fun s2 R2 => ⟨_, m, R2, h1⟩))) (hs _)
theorem SXX_if {t : Expr} {b o : List Stmt} {pos : Pos} (h : TTX G C loc mh t X fun c m => (c = true → EXX G C loc m b X Rt N) ∧ (c = false → EXX G C loc m o X Rt N)) : SXX G C loc mh (.If t b o pos) X Rt N := fun tmp hid s R =>
  x_if (h.go R (fun c s1 m R1 hq1 => by
    obtain ⟨h1, h2⟩ := hq1
    cases c with
    | true => exact h1 rfl tmp hid s1 R1
    | false => exact h2 rfl tmp hid s1 R1))
theorem SXX_ret {e : Expr} {pos : Pos} (h : EVX G C loc mh e X Rt) : SXX G C loc mh (.Return (some e) pos) X Rt N := fun tmp hid s R =>
  x_ret (h.go R (fun v s1 d m R1 h1 => ⟨d, loc, m, R1, h1⟩))
theorem SXX_expr {e : Expr} {pos : Pos} (h : EVX G C loc mh e X fun d m => d = .none ∧ N loc m) (hi : interactive C.env = false) (hs : ∀ env, swapsWith e none pos.line env = pure false := by intro _; rfl) : SXX G C loc mh (.Expr e pos) X Rt N := fun tmp hid s R =>
  x_expr (h.go R (fun v s1 d m R1 hq2 => by obtain ⟨e, h1⟩ := hq2; subst e; exact ⟨R1.top.none_inv, loc, m, R1.pop, h1⟩)) hi (hs _)
theorem EVsX_cons {e : Expr} {es : List Expr} {Q : List D → MH → Prop} (h : EVX G C loc mh e X fun d m => EVsX G C loc m es X fun ds m' => Q (d :: ds) m') (he : ∀ env, starEach (e :: es) env = (false, eval e env) :: starEach es env := by intro _; rfl) : EVsX G C loc mh (e :: es) X Q := fun tmp hid s pos R =>
  xspl_cons (he _) (h.go R (fun v s1 d m R1 h1 => h1.go R1 (fun vs s2 ds m2 R2 V h2 => ⟨d :: ds, m2, R2.pop, .cons R2.top V, h2⟩)))
theorem xp_args {f : Value} {e : Expr} {args : List Expr} {pos : Pos} {Q : List D → MH → Prop} {P : Args → Shared → Prop} (hplain : ∀ env, starEach (e :: args) env = (false, eval e env) :: starEach args env) (h : EVsX G C loc mh (e :: args) X Q)
    (R : Rep G C loc tmp (mh ++ hid) s) (k : ∀ vs s' ds m, Rep G C loc tmp (m ++ hid) s' → VDs s'.heap (MM C (m ++ hid)) vs ds → Q ds m → P ⟨vs, []⟩ s') :
    wpX (Mo G) C.A (evalArgs f true (backTo pos (starEach (e :: args) C.env)) []) P (EErr G C hid X) s := by
  have h := h.go (pos := pos) R k
  rw [hplain] at h ⊢
  exact x_args h
theorem xp_callFN {n : Nat} {f : Value} {ds : List D} {vs : List Value} {X : Addr → Loc → MH → Prop} (CN : Can G C n) (h : FNX G n f ds mh (fun c m => X c loc m) Q) (R : Rep G C loc tmp (mh ++ hid) s) (V : VDs s.heap (MM C (mh ++ hid)) vs ds) :
    wpX (Mo G) C.A (call f vs []) (EVq G C loc tmp hid Q) (EErr G C hid X) s :=
  wpX_call (codeX_mono (h C loc tmp hid s vs CN R V) fun r s' q => by
    cases r with
    | ok f => cases f with
      | ret v => exact q
      | _ => exact q
    | error v => exact EErr.mono (fun c l m hq3 => by obtain ⟨e, z⟩ := hq3; exact e ▸ z) q)
theorem EVX_call {n : Nat} {x : Str} {px pos : Pos} {e : Expr} {args : List Expr} {f : Addr} {fd : FuncData} (GO : G.Ok) (CN : Can G C n) (hk : C.env.kindOf x = some .globalImplicit) (hg : G.mg x = some (.ref f)) (hf : FnAt G f fd)
    (h : EVsX G C loc mh (e :: args) X fun ds m => FNX G n (.ref f) ds m (fun c m => X c loc m) Q) (hd : (x == ("__debug__" : Str)) = false := by decide) (hplain : ∀ env, starEach (e :: args) env = (false, eval e env) :: starEach args env := by intro _; rfl) :
    EVX G C loc mh (.Call (.Name x px) (e :: args) [] pos) X Q := fun tmp hid s R =>
  hf.obj.elim fun o ⟨ho, hdt⟩ => x_callName (.of (glob_at GO hk hg hd R
    (x_callWith (o := o) (fd := fd) (xp_args hplain h R fun vs s2 ds m a2 a3 a4 => ⟨⟨a2.base _ _ ho, hdt⟩, xp_callFN CN a4 a2 a3⟩))))
noncomputable def MCX (G : Glb) (C : Cx) (d : D) (x : Str) (pos : Pos) (args : List Expr) (loc : Loc) (mh : MH) (X : Addr → Loc → MH → Prop) (P : D → MH → Prop) : Prop :=
  ∀ tmp hid s v pl, Rep G C loc tmp (mh ++ hid) s → (v, d) ∈ tmp → wpX (Mo G) C.A (getMethod v x pl) (fun fx s₂ => wpX (Mo G) C.A (callWith pos fx.1 fx.2 (backTo pos (starEach args C.env)) []) (EVq G C loc tmp hid P) (EErr G C hid X) s₂) (EErr G C hid X) s
theorem EVX_meth {o : Expr} {x : Str} {apos pos : Pos} {args : List Expr} (h : EVX G C loc mh o X fun d m => MCX G C d x pos args loc m X Q)
    (he : ∀ env, ∃ pl, eval (.Call (.Attribute o x apos) args [] pos) env = (do
      let ov ← eval o env
      standAt apos.atName
      let (f, first) ← holding [ov] (getMethod ov x pl)
      callWith pos f first (backTo pos (starEach args env)) []) := by intro _; exact ⟨_, rfl⟩) : EVX G C loc mh (.Call (.Attribute o x apos) args [] pos) X Q := fun tmp hid s R => by
  obtain ⟨pl, he⟩ := he C.env
  refine x_meth (pl := pl) (h.go R (fun v s1 d m R1 h1 => wpX_mono (h1 _ hid s1 v pl R1 (.head _)) (fun fx s2 z => wpX_mono z (fun r s3 hq5 => by obtain ⟨d, m, R3, q⟩ := hq5; exact ⟨d, m, R3.sub_tmp (fun p hp => by rcases List.mem_cons.mp hp with rfl | hp; exact .head _; exact .tail _ (.tail _ hp)), q⟩) fun u₀ u₀ x => x) fun u₀ u₀ x => x)) he
theorem MCX_own {n : Nat} {a Cl dx f : Addr} {fd : FuncData} {fs : List (Str × D)} {x : Str} {pos : Pos} {e : Expr} {args : List Expr} {P : D → MH → Prop} (GO : G.Ok) (CN : Can G C n) (T : MethC G.K Cl x f) (hf : FnAt G f fd) (hm : (a, AO.inst Cl dx fs) ∈ mh) (hx : fs.lookup x = none)
    (h : EVsX G C loc mh (e :: args) X fun ds m => FNX G n (.ref f) (.ptr a :: ds) m (fun c m' => X c loc m') P) (hplain : ∀ env, starEach (e :: args) env = (false, eval e env) :: starEach args env := by intro _; rfl) : MCX G C (.ptr a) x pos (e :: args) loc mh X P := fun tmp hid s v pl R hv => by
  have V := R.tmp _ hv
  have := V.ptr_inv; dsimp only at this; subst this
  refine absP fun P₀ hP₀ => ?_
  obtain ⟨es, k, I, ed, E⟩ := R.inst hm
  refine hP₀ ?_; clear hP₀ P₀
  refine .of (method_fn (R.kin GO) I T.ga T.gt T.fn T.ty (by have := lookIn_none (n := k) E hx; unfold shadowIn; simp only [this]; rfl) ?_)
  obtain ⟨o, ho, hdt⟩ := hf.obj
  refine x_callWith (o := o) (fd := fd) (xp_args hplain h R fun vs s2 ds m a2 a3 a4 => ⟨⟨a2.base _ _ ho, hdt⟩, xp_callFN CN a4 a2 (.cons (.ptr _) a3)⟩)
theorem MCX_own0 {n : Nat} {a Cl dx f : Addr} {fd : FuncData} {fs : List (Str × D)} {x : Str} {pos : Pos} {P : D → MH → Prop} (GO : G.Ok) (CN : Can G C n) (T : MethC G.K Cl x f) (hf : FnAt G f fd) (hm : (a, AO.inst Cl dx fs) ∈ mh) (hx : fs.lookup x = none)
    (h : FNX G n (.ref f) [.ptr a] mh (fun c m' => X c loc m') P) : MCX G C (.ptr a) x pos [] loc mh X P := fun tmp hid s v pl R hv => by
  have V := R.tmp _ hv
  have := V.ptr_inv; dsimp only at this; subst this
  refine absP fun P₀ hP₀ => ?_
  obtain ⟨es, k, I, ed, E⟩ := R.inst hm
  refine hP₀ ?_; clear hP₀ P₀
  refine .of (method_fn (R.kin GO) I T.ga T.gt T.fn T.ty (by have := lookIn_none (n := k) E hx; unfold shadowIn; simp only [this]; rfl) ?_)
  obtain ⟨o, ho, hdt⟩ := hf.obj
  refine x_callWith (o := o) (fd := fd) (.of (PySem.evalArgs_none ⟨⟨R.base _ _ ho, hdt⟩, ?_⟩))
  exact xp_callFN CN h R (.cons (.ptr _) .nil)
theorem EVX_bin {l r : Expr} {op : Operator} {pos : Pos} (h : EVX G C loc mh l X fun d1 m1 => EVX G C loc m1 r X fun d2 m2 => OP G C op d1 d2 m2 fun d => Q d m2) : EVX G C loc mh (.BinOp l op r pos) X Q := fun tmp hid s R =>
  x_binop (h.go R (fun v1 s1 d1 m1 R1 h1 => h1.go R1 (fun v2 s2 d2 m2 R2 h2 =>
    .of (h2.go R2.pop.pop (R2.tmp _ (.tail _ (.head _))) R2.top (fun v s3 d R3 q => ⟨d, m2, R3, q⟩)))))
theorem TTX_cmp {l r : Expr} {op : CmpOp} {pos : Pos} {Q : Bool → MH → Prop} (h : EVX G C loc mh l X fun d1 m1 => EVX G C loc m1 r X fun d2 m2 => CMP G C op d1 d2 m2 fun b => Q b m2) (hm : behindInMarks op r = false := by with_unfolding_all rfl) : TTX G C loc mh (.Compare l [op] [r] pos) X Q := fun tmp hid s R =>
  x_cmp (h.go R (fun v1 s1 d1 m1 R1 h1 => h1.go R1 (fun v2 s2 d2 m2 R2 h2 =>
    .of (h2.go R2.pop.pop (R2.tmp _ (.tail _ (.head _))) R2.top (fun v s3 b e R3 q => by subst e; exact .of (wpAny_truthy_bool ⟨m2, R3, q⟩)))))) hm
theorem TTX_not {x : Expr} {pos : Pos} {Q : Bool → MH → Prop} (h : TTX G C loc mh x X fun b m => Q (!b) m) : TTX G C loc mh (.UnaryOp .Not x pos) X Q := fun tmp hid s R => x_not (h.go R fun u₀ u₀ m a b => ⟨m, a, b⟩)
theorem TTX_val {e : Expr} {Q : Bool → MH → Prop} (h : EVX G C loc mh e X fun d m => ∃ b, d = .bool b ∧ Q b m) (he : ∀ env whole, isTrue e env whole = (do let v ← whole; standAt e.pos; holding [v] (truthy v)) := by intro _ _; rfl) : TTX G C loc mh e X Q := fun tmp hid s R =>
  x_val (h.go R (fun v s1 d m R1 hq6 => by obtain ⟨b, e, q⟩ := hq6; subst e; have := R1.top.bool_inv; dsimp only at this; subst this; exact .of (wpAny_truthy_bool ⟨m, R1.pop, q⟩))) (he _ _)
noncomputable def ATX (G : Glb) (C : Cx) (loc : Loc) (mh : MH) (op : BoolOp) (es : List Expr) (X : Addr → Loc → MH → Prop) (Q : Bool → MH → Prop) : Prop :=
  ∀ tmp hid s, Rep G C loc tmp (mh ++ hid) s → wpX (Mo G) C.A (allTrue op es C.env) (TTq G C loc tmp hid Q) (EErr G C hid X) s
theorem AT.x {op : BoolOp} {es : List Expr} {Q : Bool → MH → Prop} (h : AT G C loc mh op es X Q) : ATX G C loc mh op es X Q := fun tmp hid s R => .of (h tmp hid s R)
theorem ATX_or {x : Expr} {r : List Expr} {Q : Bool → MH → Prop} (h : TTX G C loc mh x X fun b m => (b = true → Q true m) ∧ (b = false → ATX G C loc m .Or r X Q)) : ATX G C loc mh .Or (x :: r) X Q := fun tmp hid s R =>
  x_or (h.go R (fun b s1 m R1 hq8 => by
    obtain ⟨h1, h2⟩ := hq8
    cases b with
    | true => exact ⟨m, R1, h1 rfl⟩
    | false => exact h2 rfl tmp hid s1 R1))
theorem TTX_bool {op : BoolOp} {es : List Expr} {pos : Pos} {Q : Bool → MH → Prop} (h : ATX G C loc mh op es X Q) : TTX G C loc mh (.BoolOp op es pos) X Q := fun tmp hid s R => by rw [arm_isTrue_BoolOp]; exact h tmp hid s R
theorem EVX_and {e₁ e₂ : Expr} {rest : List Expr} {pos : Pos} (h : EVX G C loc mh e₁ X fun d m => ∃ b, d = .bool b ∧ (b = true → EVX G C loc m (.BoolOp .And (e₂ :: rest) pos) X Q) ∧ (b = false → Q (.bool false) m)) : EVX G C loc mh (.BoolOp .And (e₁ :: e₂ :: rest) pos) X Q := fun tmp hid s R =>
  x_andv (h.go R (fun v s1 d m R1 ⟨b, e, h1, h2⟩ => by
    subst e; have := R1.top.bool_inv; dsimp only at this; subst this
    refine .of (wpAny_truthy_bool ?_)
    cases b with
    | true => exact h1 rfl tmp hid s1 R1.pop
    | false => exact ⟨_, m, R1, h2 rfl⟩))
theorem EVX_bool_one {op : BoolOp} {e : Expr} {pos : Pos} (h : EVX G C loc mh e X Q) : EVX G C loc mh (.BoolOp op [e] pos) X Q := fun tmp hid s R => h tmp hid s R

theorem SXX_while {n : Nat} {sc : Scope} {σ : Type} {test : Expr} {body : List Stmt} {pos : Pos} (CN : Can G C n) (I : Is C sc) (μ : σ → Nat) (J : σ → Loc → MH → Prop) (a : σ) (h0 : J a loc mh)
    (turn : ∀ a loc m, J a loc m → TTX G C loc m test X fun b m1 => (b = true → EXX G C loc m1 body X Rt fun l' m' => ∃ a', μ a' < μ a ∧ J a' l' m') ∧ (b = false → N loc m1)) :
    SXX G C loc mh (.While test body [] pos) X Rt N := fun tmp hid s R => by
  have back : ∀ e s', EErr G C hid X e s' → notedBy (Mo G) C.A C.env (cameBackBy (Mo G) C.A C.env (EErr G C hid X)) e s' := fun e s' x =>
    err_noted CN I x fun e c t l m s' R hx => wp_cameBack R fun s2 R2 => ⟨e, c, some t, l, m, rfl, R2, hx⟩
  refine x_while (fun k s => ∃ a loc m, μ a = k ∧ J a loc m ∧ Rep G C loc tmp (m ++ hid) s) (fun k s hq10 => ?_) (μ a) ⟨a, loc, mh, rfl, h0, R⟩
  refine absP fun P₀ hP₀ => ?_
  obtain ⟨a, loc, m, ek, hJ, R1⟩ := hq10
  refine hP₀ ?_; clear hP₀ P₀
  refine wpX_mono (turn a loc m hJ tmp hid s R1) (fun b s2 hq11 => ?_) back
  refine absP fun P₀ hP₀ => ?_
  obtain ⟨m2, R2, h1, h2⟩ := hq11
  refine hP₀ ?_; clear hP₀ P₀
  cases b with
  | false => exact ⟨loc, m2, R2, h2 rfl⟩
  | true =>
    refine wpX_mono (h1 rfl tmp hid s2 R2) (fun f s3 q => ?_) back
    cases f with
    | next => obtain ⟨l3, m3, R3, a', ha, hJ'⟩ := q; exact ⟨μ a', ek ▸ ha, a', l3, m3, rfl, hJ', R3⟩
    | ret v => exact q
    | _ => exact q.elim

noncomputable def Yld2 (G : Glb) (C : Cx) (target : Expr) (it : Value) : List D → MH → Tmp → Prop
  | [], its, aux => ∀ loc tmp hid s E, (∀ p ∈ aux, p ∈ tmp) → Rep G C loc tmp (its ++ hid) s → wpAny (Mo G) C.A (pyNext it) (fun r s' => r = none ∧ ∃ its', Rep G C loc tmp (its' ++ hid) s') E s
  | d :: ds, its, aux => ∀ loc tmp hid s E, (∀ p ∈ aux, p ∈ tmp) → Rep G C loc tmp (its ++ hid) s → wpAny (Mo G) C.A (pyNext it) (fun r s' => ∃ v, r = some v ∧
      wpAny (Mo G) C.A (letOwnedTupleGo target it v) (fun u₀ s'' => ∃ its', Rep G C loc ((v, d) :: tmp) (its' ++ hid) s'' ∧ Yld2 G C target it ds its' aux) E s') E s
theorem Yld.to2 {target : Expr} {it : Value} (ht : ∀ v, letOwnedTupleGo target it v = pure ()) {aux : Tmp} : ∀ {ds : List D} {its : MH}, Yld G C it ds its aux → Yld2 G C target it ds its aux
  | [], _, h => h
  | d :: ds, _, h => fun loc tmp hid s E ha R => wpAny_mono (h loc tmp hid s E ha R) (fun r s' hq12 => by obtain ⟨v, its', e, R', Y⟩ := hq12; exact ⟨v, e, wpAny_of_eq (ht v) ⟨its', R', Y.to2 ht⟩⟩) fun u₀ u₀ x => x
noncomputable def ASG (G : Glb) (C : Cx) (target : Expr) (d : D) (loc loc' : Loc) : Prop := ∀ tmp mh s v E (Qu : Unit → Shared → Prop), Rep G C loc ((v, d) :: tmp) mh s → (∀ s', Rep G C loc' tmp mh s' → Qu () s') → wpAny (Mo G) C.A (assign target C.env v) Qu E s
theorem ASG_name {x : Str} {px : Pos} {d : D} (hx : Sto C x) : ASG G C (.Name x px) d loc ((x, d) :: loc) := fun tmp mh s v E Qu R h => wpAny_assign_Name (wp_store R.pop R.top hx h)
theorem ASG_pair {x y : Str} {p1 p2 pt : Pos} {k : Nat} {a b : PyData} (hh : C.A.handled = none) (hx : Sto C x) (hy : Sto C y) : ASG G C (.Tuple [.Name x p1, .Name y p2] k pt) (.dat (.tuple [a, b])) loc ((y, .dat b) :: (x, .dat a) :: loc) := fun tmp mh s v E Qu R h => by
  have V := R.top
  dsimp only at V
  obtain ⟨t, o, vs, n, ev, nt, et, ct, dt, ft⟩ := V.dat_inv.tuple_inv; cases ev
  have hz := ft.length; rw [Array.length_toList] at hz
  obtain ⟨v1, v2, hvs, F1, F2⟩ : ∃ v1 v2, vs.toList = [v1, v2] ∧ FV s.heap (MM C mh) v1 a ∧ FV s.heap (MM C mh) v2 b := by
    cases hl : vs.toList with
    | nil => rw [hl] at ft; cases ft
    | cons v1 r => rw [hl] at ft; cases ft with | cons x1 r1 => cases r1 with | cons x2 r2 => cases r2; exact ⟨v1, _, rfl, x1, x2⟩
  refine wpAny_assign_Tuple hh ⟨o, et, ct, n, dt⟩ (by rw [hz]; first | rfl | simp [assignEach]) (by first | rfl | simp [assignEach]) fun h' hx' => ?_
  have kk : ∀ b o, s.heap.get? b = some o → h'.get? b = some o := fun b o e => hx' b o (Nat.ne_of_lt (lt_of_get e)) e
  have mo : Mono s.heap h' (MM C mh) (MM C mh) := .of (fun b o u₀ e => kk b o e) fun u₀ h => .inl h
  have R4 : Rep G C loc ((v2, .dat b) :: tmp) mh { s with heap := h', toks := s.toks } := (R.pop.kept kk).push (.dat (F2.mono mo))
  rw [hvs]
  show wpAny _ _ (assignInOrder [assign (.Name x p1) C.env, assign (.Name y p2) C.env] [v1, v2]) _ _ _
  refine wpAny_assignInOrder_more (wpAny_assign_Name (wp_store R4 (.dat (F1.mono mo)) hx fun s5 R5 => ?_))
  exact wpAny_assignInOrder_more (wpAny_assign_Name (wp_store R5.pop R5.top hy fun s6 R6 => wpAny_assignInOrder_none (h s6 R6)))
theorem SXX_for {n : Nat} {sc : Scope} {target iter : Expr} {body : List Stmt} {pos : Pos} (CN : Can G C n) (I : Is C sc) (J : List D → Loc → MH → Prop)
    (h : EV G C loc mh iter X fun d m => ∀ tmp hid s v E, Rep G C loc tmp (m ++ hid) s → (v, d) ∈ tmp → wpAny (Mo G) C.A (pyIter v) (fun it s' => ∃ ds m' its, J ds loc m' ∧ Rep G C loc tmp (its ++ (m' ++ hid)) s' ∧ Yld2 G C target it ds its [(v, d)]) E s)
    (step : ∀ d ds loc m, J (d :: ds) loc m → ∃ loc', ASG G C target d loc loc' ∧ EXX G C loc' m body X Rt fun l' m' => J ds l' m') (fin : ∀ loc m, J [] loc m → N loc m)
    (hs : ∀ env v, foldedSetIterable iter env v = pure v := by intro _ _; rfl) : SXX G C loc mh (.For target iter body [] pos) X Rt N := fun tmp hid s R => by
  refine x_for (.of (h.go R (fun v s1 d m R1 B => .of (wpAny_mono (B _ hid s1 v _ R1 (.head _)) (fun it s2 hq13 => ?_) fun u₀ u₀ x => x)))) (hs _)
  refine absP fun P₀ hP₀ => ?_
  obtain ⟨ds, m', its, hJ, R2, Y⟩ := hq13
  refine hP₀ ?_; clear hP₀ P₀
  let Rr : Result → Shared → Prop := fun r s' => match r with | .ok f => FPost G C ((v, d) :: tmp) hid N Rt f s' | .error e => cameBackBy (Mo G) C.A C.env (EErr G C hid X) e s'
  have back : ∀ its e s', EErr G C (its ++ hid) X e s' → notedBy (Mo G) C.A C.env (fun e s' => Rr (.error e) s') e s' := fun its e s' x =>
    err_noted CN I x fun e c t l m s' R hx => wp_cameBack R fun s2 R2 => ⟨e, c, some t, l, m, rfl, Rep.dropAll (l := its) (R2.perm (shuf (a := (e, AO.exc c (some t)) :: m) (b := its) (c := hid))), hx⟩
  have main : codeX (Mo G) C.A (.forLoop target it body [] C.env) Rr s2 := by
    refine x_forLoop (R := Rr) (fun k s => ∃ rem loc m its, rem.length = k ∧ Yld2 G C target it rem its [(v, d)] ∧ J rem loc m ∧ Rep G C loc ((v, d) :: tmp) (its ++ (m ++ hid)) s) (fun k s hq14 => ?_) ds.length ⟨ds, loc, m', its, rfl, Y, hJ, R2⟩
    intro M₁ E₁ J₁
    refine absP fun P₀ hP₀ => ?_
    obtain ⟨rem, loc, m, its, ek, Y, hJ, R1⟩ := hq14
    refine hP₀ ?_; clear hP₀ P₀
    cases rem with
    | nil =>
      refine .of (wpAny_mono (Y loc _ (m ++ hid) s _ (fun p hp => by rw [List.mem_singleton.mp hp]; exact .head _) R1) (fun r s2 hq15 => ?_) fun u₀ u₀ x => x)
      obtain ⟨er, its', R2⟩ := hq15
      subst er
      exact ⟨loc, m, R2.dropAll, fin _ _ hJ⟩
    | cons d' rem =>
      refine .of (wpAny_mono (Y loc _ (m ++ hid) s _ (fun p hp => by rw [List.mem_singleton.mp hp]; exact .head _) R1) (fun r s2 hq16 => ?_) fun u₀ u₀ x => x)
      obtain ⟨v', er, h2⟩ := hq16
      subst er
      refine .of (wpAny_mono h2 (fun u₀ s3 hq17 => ?_) fun u₀ u₀ x => x)
      obtain ⟨its', R3, Y3⟩ := hq17
      obtain ⟨loc', hA, hB⟩ := step d' rem loc m hJ
      refine .of (hA _ _ s3 v' _ _ R3 fun s4 R4 => ?_)
      refine wpX_mono (hB _ (its' ++ hid) s4 (R4.perm shuf)) (fun f s5 q => ?_) (back its')
      cases f with
      | next =>
        refine absP fun P₀ hP₀ => ?_
        obtain ⟨l4, m4, R4, hJ4⟩ := q
        refine hP₀ ?_; clear hP₀ P₀
        exact ⟨rem.length, by subst ek; simp, rem, l4, m4, its', rfl, Y3, hJ4, R4.perm shuf⟩
      | ret u =>
        refine absP fun P₀ hP₀ => ?_
        obtain ⟨d', l4, m4, R4, h4⟩ := q
        refine hP₀ ?_; clear hP₀ P₀
        exact ⟨d', l4, m4, Rep.dropAll (l := its') (R4.perm shuf), h4⟩
      | _ => exact q.elim
  refine codeX_mono main fun r s3 q => ?_
  cases r with
  | error e => exact q
  | ok f => cases f with
    | next => obtain ⟨l, m, R3, h3⟩ := q; exact ⟨l, m, R3.pop, h3⟩
    | ret u => obtain ⟨d, l, m, R3, h3⟩ := q; exact ⟨d, l, m, R3.sub_tmp (fun p hp => by rcases List.mem_cons.mp hp with rfl | hp; exact .head _; exact .tail _ (.tail _ hp)), h3⟩
    | _ => exact q

end

section
set_option tactic.hygienic false
open PySem PySem.W PyProof.Rows
variable {G : Glb} {C C' : Cx} {loc loc' : Loc} {tmp tmp' : Tmp} {mh hid l l' : MH} {s s' s₁ : Shared}
variable {X : Addr → Loc → MH → Prop} {Q : D → MH → Prop} {Rt : D → MH → Prop} {N : Loc → MH → Prop}

noncomputable def EXX0 (G : Glb) (C : Cx) (loc : Loc) (mh : MH) (ss : List Stmt) (X : Addr → Loc → MH → Prop) (Rt : D → MH → Prop) (N : Loc → MH → Prop) : Prop :=
  ∀ hid s, Rep G C loc [] (mh ++ hid) s → wpX (Mo G) C.A (execs ss C.env) (FPost G C [] hid N Rt) (EErr G C hid X) s
noncomputable def SXX0 (G : Glb) (C : Cx) (loc : Loc) (mh : MH) (st : Stmt) (X : Addr → Loc → MH → Prop) (Rt : D → MH → Prop) (N : Loc → MH → Prop) : Prop :=
  ∀ hid s, Rep G C loc [] (mh ++ hid) s → wpX (Mo G) C.A (exec st C.env) (FPost G C [] hid N Rt) (EErr G C hid X) s
theorem SXX.to0 {st : Stmt} (h : SXX G C loc mh st X Rt N) : SXX0 G C loc mh st X Rt N := fun hid s R => h [] hid s R
theorem EXX0_cons {st : Stmt} {rest : List Stmt} (h : SXX0 G C loc mh st X Rt fun loc' mh' => EXX0 G C loc' mh' rest X Rt N) : EXX0 G C loc mh (st :: rest) X Rt N := fun hid s R =>
  x_execs_cons (wpX_mono (h hid s R) (fun f s1 q => by
    cases f with
    | next => obtain ⟨l, m, R1, h1⟩ := q; exact h1 hid s1 R1
    | ret v => exact q
    | _ => exact q.elim) fun u₀ u₀ x => x)
noncomputable def SEXX (G : Glb) (n : Nat) (sc : Scope) (loc : Loc) (mh : MH) (body : List Stmt) (X : Addr → MH → Prop) (Q : D → MH → Prop) : Prop :=
  ∀ C, Is C sc → Can G C n → EXX0 G C loc mh body (fun c u₀ m => X c m) Q (fun u₀ m => Q .none m)
theorem FNX_of {n : Nat} {f : Addr} {fd : FuncData} {body : List Stmt} {ds es : List D} {ps : List Str} {X : Addr → MH → Prop} {Q : D → MH → Prop} {mh : MH}
    (GO : G.Ok) (F : FnAt G f fd) (hb : fd.body = .stmts body) (hco : fd.scope.isCoroutine = false) (hgen : fd.scope.isGenerator = false) (hk : fd.scope.kind = .function)
    (hcn : (cellNames fd.scope.names).Nodup) (hkind : ∀ x ∈ ps, fd.scope.names.lookup x = some .local ∨ fd.scope.names.lookup x = some .cell) (hnd : ps.Nodup) (hlen : ps.length = es.length)
    (hbind : ∀ (M : List Addr) (s : Shared) (vs : List Value), (∀ b o, G.h.get? b = some o → s.heap.get? b = some o) → VDs s.heap M vs ds → ∃ us, BindsTo s fd ⟨vs, []⟩ (ps.zip us) ∧ VDs s.heap M us es)
    (h : SEXX G n fd.scope (ps.zip es) mh body X Q) : FNX G (n + 1) (.ref f) ds mh X Q := fun C loc tmp hid s vs cn R V => by
  obtain ⟨o, ho, hd⟩ := F.obj
  obtain ⟨us, hB, U⟩ := hbind _ s vs R.base V
  have hul : ps.length = us.length := hlen.trans U.length.symm
  have base := R.base
  obtain ⟨r1, r2⟩ := cn.room
  let env := callEnvC fd s.heap.objs.size f
  have henv : env = callEnvC fd s.heap.objs.size f := rfl
  have hkd : ∀ x ∈ ps.zip us, fd.scope.names.lookup x.1 = some .local ∨ (fd.scope.names.lookup x.1 = some .cell ∧ ((cellsFrom (s.heap.objs.size + 1) fd.scope.names []).lookup x.1).isSome = true) := fun x hx => by
    have hm := (List.of_mem_zip hx).1
    exact (hkind _ hm).imp id fun q => ⟨q, cells_some q _⟩
  refine x_callFn (by show _ < 1000; lia) (base f o ho) hd hco hgen hb (F.code.keeps base) (.of (hB _ _ _ _ ?_))
  rw [F.closure]
  refine .of (wpAny_newFunctionEnv_cells hk hkd fun env' he s' I => ⟨(GO.nolimit.keeps base).keeps I.toInCall.keep, x_func ?_⟩)
  have he' : env' = env := he
  subst he'
  have hw : Under C (callee C (mh ++ hid) s env) (mh ++ hid) s := callee_under rfl (size_none I.toInCall.fresh)
  have R' : Rep G (callee C (mh ++ hid) s env) (ps.zip es) [] (mh ++ hid) s' := R.enter I rfl hk F.globals F.builtins (cells_nodup hcn _) fun x d q => by
    obtain ⟨i, a, b⟩ := zip_lookup q
    obtain ⟨v, c, e⟩ := U.get b
    have hm : x ∈ ps := List.mem_of_getElem? a
    refine ⟨v, ?_, e⟩
    rcases (bind_lookup (env := env) ps us (fun u₀ => none) (fun u₀ => none) hnd hul (fun y hy => hkind y hy) x).2 i v a c with z | ⟨z1, z2⟩
    · exact .inl z
    · exact .inr ⟨z1, cells_some z1 _, z2⟩
  have hI : Is (callee C (mh ++ hid) s env) fd.scope := ⟨rfl, fun x q => by
    obtain ⟨c, hc⟩ := Option.isSome_iff_exists.mp (cells_some q (s.heap.objs.size + 1))
    exact ⟨c, hc, .tail _ (List.mem_map.mpr ⟨_, mem_of_lookup hc, rfl⟩)⟩, ⟨_, rfl⟩, rfl⟩
  have hC : Can G (callee C (mh ++ hid) s env) n := ⟨⟨by show C.A.depth + 1 + _ ≤ _; lia, by show C.A.units + 3 + _ ≤ _; lia⟩, cn.hand, by show (C.A.frames.map _) = _; rw [cn.frames]; rfl⟩
  refine wpX_mono (h _ hI hC hid s' R') (fun fl s2 q => ?_) fun e s2 q => ?_
  · cases fl with
    | next =>
      refine absP fun P₀ hP₀ => ?_
      obtain ⟨l2, m2, R2, h2⟩ := q
      refine hP₀ ?_; clear hP₀ P₀
      exact ⟨.none, m2, (R.back hw R2).push (.dat .none), h2⟩
    | ret v =>
      refine absP fun P₀ hP₀ => ?_
      obtain ⟨d, l2, m2, R2, h2⟩ := q
      refine hP₀ ?_; clear hP₀ P₀
      exact ⟨d, m2, (R.back hw R2.pop).push (R2.top.mono (hw.mono' R R2)), h2⟩
    | _ => exact q.elim
  · obtain ⟨e, c, T, l2, m2, rfl, R2, h2⟩ := q
    exact wp_leaving hC.frames ⟨_, rfl⟩ rfl R2 fun t s3 R3 => ⟨e, c, some t, loc, m2, rfl, (R.back hw R3).sub_tmp (fun u₀ h => nomatch h), rfl, h2⟩
theorem FNX_intro {n : Nat} {f : Addr} {fd : FuncData} {body : List Stmt} {ds : List D} {ps : List Str} {X : Addr → MH → Prop} {Q : D → MH → Prop} {mh : MH}
    (GO : G.Ok) (F : FnAt G f fd) (hb : fd.body = .stmts body) (hco : fd.scope.isCoroutine = false) (hgen : fd.scope.isGenerator = false) (hk : fd.scope.kind = .function)
    (hcn : (cellNames fd.scope.names).Nodup) (hkind : ∀ x ∈ ps, fd.scope.names.lookup x = some .local ∨ fd.scope.names.lookup x = some .cell) (hnd : ps.Nodup) (hlen : ps.length = ds.length)
    (hbind : ∀ vs : List Value, vs.length = ps.length → bindArgs fd ⟨vs, []⟩ = pure (ps.zip vs))
    (h : SEXX G n fd.scope (ps.zip ds) mh body X Q) : FNX G (n + 1) (.ref f) ds mh X Q :=
  FNX_of GO F hb hco hgen hk hcn hkind hnd hlen (fun M s vs u₀ V => ⟨vs, .of_eq (hbind vs (V.length.trans hlen.symm)), V⟩) h
theorem wpX_attempt {M : Model} {A : Around} {E : Value → Shared → Prop} {α : Type} {m : Sem α} {Qa : Except Value α → Shared → Prop} (h : wpX M A m (fun a => Qa (.ok a)) (fun e => Qa (.error e)) s) : wpX M A m.attempt Qa E s := fun Γ p hΓ k1 k2 => by rw [Sem.wp_attempt]; exact h Γ p hΓ k1 k2
theorem x_Try_except {A : Around} {E : Value → Shared → Prop} {env : Env} {body : List Stmt} {h₀ : ExceptHandler} {hs : List ExceptHandler} {pos : Pos} {Qf : Flow → Shared → Prop}
    (h : wpX (Mo G) A (execs body env) Qf
      (fun e s₁ => wpAny (Mo G) A (noteFrame e env) (fun u₀ s₂ => wpAny (Mo G) A (setFlight e none) (fun u₀ s₃ => wpAny (Mo G) A (handleBy e env (h₀ :: hs)) Qf E s₃) E s₂) E s₁) s) :
    wpX (Mo G) A (exec (.Try body (h₀ :: hs) [] [] pos) env) Qf E s := by
  rw [arm_exec_Try]
  refine wpX_bind (wpX_standAt ?_)
  show wpX _ _ (tryStmt false (execs body env) (h₀ :: hs) (execs [] env) [] env) _ _ _
  unfold tryStmt
  simp only [List.isEmpty_nil, if_true, List.isEmpty_cons, Bool.false_and, Bool.false_eq_true, if_false]
  refine wpX_bind (wpX_attempt (wpX_mono h (fun f s₁ h₁ => ?_) fun e s₁ h₁ => ?_))
  · cases f with
    | next => exact .of (wpAny_execs_nil h₁)
    | _ => exact wpX_pure h₁
  · exact .of (wpAny_bind (wpAny_mono h₁ (fun u₀ u₀ h₂ => wpAny_bind h₂) fun u₀ u₀ x => x))
theorem SXX0_try {n : Nat} {sc : Scope} {body : List Stmt} {h0 : ExceptHandler} {hs : List ExceptHandler} {pos : Pos} (GO : G.Ok) (CN : Can G C n) (I : Is C sc) (h : EXX0 G C loc mh body (fun c l m => HND G C c l m Rt N (h0 :: hs)) Rt N) :
    SXX0 G C loc mh (.Try body (h0 :: hs) [] [] pos) X Rt N := fun hid s R => by
  refine x_Try_except (wpX_mono (h hid s R) (fun f s1 q => q) fun e s1 q => ?_)
  obtain ⟨e, c, T, l, m, rfl, R1, hX⟩ := q
  exact wp_noteFrame CN.frames I.fr I.fm R1 fun t s2 R2 => wp_setFlight R2 fun s3 R3 => wp_handle GO hX R3
theorem SXX_tuple {elts es : List Expr} {k k2 : Nat} {tpos vpos pos : Pos} {names : List Str} (hh : C.A.handled = none) (hn : ∀ n ∈ names, Sto C n) (h : EVsX G C loc mh es X fun ds m => ds.length ≤ sizeLine ∧ names.length = ds.length ∧ N (names.zip ds ++ loc) m)
    (hw : swappedStores [.Tuple elts k tpos] (.Tuple es k2 vpos) (blank C.env.scope) = pure (some names)) (hs : ∀ env, swapsWithSole [.Tuple elts k tpos] (.Tuple es k2 vpos) pos.line env = pure false := by intro _; rfl) :
    SXX G C loc mh (.Assign [.Tuple elts k tpos] (.Tuple es k2 vpos) pos) X Rt N := fun tmp hid s R => by
  rw [PyProof.Rows.exec_Assign]
  refine wpX_bind (wpX_standAt ?_)
  rw [hs]
  refine wpX_bind (wpX_pure ?_)
  rw [if_neg (by decide)]
  have hv : wpX (Mo G) C.A (eval (.Tuple es k2 vpos) C.env) (fun v s1 => wpAny (Mo G) C.A (unpackItems v names.length none) (fun items s₂ =>
      wpAny (Mo G) C.A (assignInOrder (names.reverse.map fun n => bindName C.env n) items.reverse) (fun u₀ s3 => FPost G C tmp hid N Rt .next s3) (EErr G C hid X) s₂) (EErr G C hid X) s1) (EErr G C hid X) s := by
    rw [arm_eval_Tuple]
    refine wpX_bind (wpX_standAt (wpX_bind (h.go R (fun vs s1 ds m R1 V ⟨hz, hl, hN⟩ => .of (wpAny_newTuple ?_ (V.length ▸ hz))))))
    have hk : names.length = vs.toArray.size := by rw [List.size_toArray, V.length]; exact hl
    rw [hk]
    have R2 := push_tuple (k := s1.toks) R1 V
    refine unpackItems_tuple hh ⟨_, Heap.get?_push_size _ rfl, rfl, _, rfl⟩ fun h' hx => ?_
    have kk : ∀ b o, s1.heap.get? b = some o → h'.get? b = some o := not_new hx
    have R3 : Rep G C loc tmp (m ++ hid) { s1 with heap := h', toks := s1.toks } := R1.kept kk
    have V3 : VDs h' (MM C (m ++ hid)) vs ds := V.mono (.of (fun b o u₀ e => kk b o e) fun u₀ h => .inl h)
    refine wp_binds (ns := names.reverse) (ds := ds.reverse) (by simpa using hl) (fun n hm => hn n (List.mem_reverse.mp hm)) R3 V3.rev fun s4 R4 => ⟨_, m, R4, ?_⟩
    have e : (names.reverse.zip ds.reverse).reverse = names.zip ds := by rw [List.zip_eq_zipWith, List.zip_eq_zipWith, ← List.reverse_zipWith hl, List.reverse_reverse]
    rw [e]; exact hN
  refine wpX_bind (wpX_mono hv (fun v s₁ h₁ => ?_) fun u₀ u₀ x => x)
  rw [(swapped_blank _ _ _).trans hw]
  refine wpX_bind (wpX_pure (.of ?_))
  exact wpAny_bind (wpAny_rule (wpAny_bind (wpAny_mono h₁ (fun items s₂ h₂ => wpAny_bind (wpAny_mono h₂ (fun u₀ u₀ q => wpAny_pure q) fun u₀ u₀ x => x)) fun u₀ u₀ x => x)))

end

section
set_option tactic.hygienic false
open PySem PySem.W PyProof.Rows
variable {G : Glb} {C C' : Cx} {loc loc' : Loc} {tmp tmp' : Tmp} {mh hid l l' : MH} {s s' s₁ : Shared}
variable {X : Addr → Loc → MH → Prop} {Q : D → MH → Prop} {Rt : D → MH → Prop} {N : Loc → MH → Prop}

theorem lk_int_bytes : typeLookup (.type "int") "__bytes__" = pure none := by rw [typeLookup_type, builtinLookup_eq_fast]; kernel_rfl
theorem lk_int_index : typeLookup (.type "int") "__index__" = pure (some (.builtin "int.__index__")) := by rw [typeLookup_type, builtinLookup_eq_fast]; kernel_rfl
theorem lk_bytes_bytes : typeLookup (.type "bytes") "__bytes__" = pure (some (.builtin "bytes.__bytes__")) := by rw [typeLookup_type, builtinLookup_eq_fast]; kernel_rfl
theorem lk_ba_bytes : typeLookup (.type "bytearray") "__bytes__" = pure none := by rw [typeLookup_type, builtinLookup_eq_fast]; kernel_rfl
theorem lk_ba_index : typeLookup (.type "bytearray") "__index__" = pure none := by rw [typeLookup_type, builtinLookup_eq_fast]; kernel_rfl
theorem lk_ba_buffer : typeLookup (.type "bytearray") "__buffer__" = pure (some (.builtin "bytearray.__buffer__")) := by rw [typeLookup_type, builtinLookup_eq_fast]; kernel_rfl
theorem lk_ba_release : typeLookup (.type "bytearray") "__release_buffer__" = pure (some (.builtin "bytearray.__release_buffer__")) := by rw [typeLookup_type, builtinLookup_eq_fast]; kernel_rfl
theorem sub_ba_ba : isSubtype (.type "bytearray") (.type "bytearray") = pure true := by rw [isSubtype_type]; kernel_rfl
section
variable {prog : Program} {w : World} {A : Around} {E : Value → Shared → Prop}
theorem bytes_call {x : Value} {Q : Value → Shared → Prop}
    (h : wpAny (model prog w) A.in1.in1 (Builtin.«bytes.__new__» ⟨[.type "bytes", x], []⟩) (fun f s' => match f with | .done (.ret v) => s'.TypeIs v "bytes" ∧ Q v s' | _ => False) E s) :
    wpAny (model prog w) A (call (.type "bytes") [x]) Q E s := by
  refine callType_codes (Q₁ := fun obj s₁ => s₁.TypeIs obj "bytes" ∧ Q obj s₁) F.bm_called (F.bm_typeCall _) F.entry_object_init ?_ fun obj s₁ h₁ => ?_
  · refine codeAny_of_tree ?_
    show wpAny _ A.in1.in1 (do checkBuiltinCall "bytes.__new__" ⟨[.type "bytes", x], []⟩; again (.builtin "bytes.__new__" ⟨[.type "bytes", x], []⟩)) _ _ s
    refine wpAny_bind (wpAny_of_eq (F.bm_newCall _) (wpAny_pure ⟨plainId_quiet F.bm_plain _, codeAny_builtin F.bm_entry ?_⟩))
    rw [Around.under_plainId F.bm_plain _]
    refine wpAny_mono h (fun f s' q => ?_) fun u₀ u₀ x => x
    cases f with
    | done f => cases f with
      | ret v => exact q
      | _ => exact q.elim
    | again c => exact q.elim
  · exact ⟨h₁.1, F.args_object_init_2 obj _, object_init_meets F.bm_called.init.lookup F.bm_called.made (by decide) prog w A.in1 _ s₁ ⟨h₁.1, rfl, h₁.2⟩⟩
theorem wp_bytes_int {n : Int} {t : Tok} {Q : Value → Shared → Prop} (h0 : 0 ≤ n) (hz : n ≤ 16777216) (h : ∀ t k, Q (.bytes (Array.replicate n.toNat 0) t) { s with toks := k }) :
    wpAny (model prog w) A (call (.type "bytes") [.int n t]) Q E s := by
  refine bytes_call ?_
  have hT : s.TypeIs (.int n t) "int" := typeIs_int _ _ _
  unfold Builtin.«bytes.__new__»
  refine wpAny_bind (wpAny_of_eq (a := true) rfl ?_)
  refine bm_if_false rfl ?_
  refine wpAny_bind (wpAny_of_eq F.bm_sub ?_)
  refine bm_if_false rfl ?_
  refine wpAny_bind (wpAny_of_eq (F.bm_bind _) ?_)
  refine wpAny_bind (wpAny_of_eq (a := ()) rfl ?_)
  refine wpAny_bind (wpAny_of_eq (a := ()) rfl ?_)
  refine bm_if_false rfl ?_
  refine wpAny_bind (wpAny_specialOf hT lk_int_bytes ?_)
  refine wpAny_bind (wpAny_bind (wpAny_of_eq (a := none) rfl ?_))
  refine wpAny_pure ?_
  refine bm_if_false rfl ?_
  refine wpAny_bind (wpAny_specialOf hT lk_int_index ?_)
  refine bm_if_false rfl ?_
  refine wpAny_bind (wpAny_attempt (wpAny_of_eq (rfl : asIndex (.int n t) = pure n) ?_))
  have f0 : Builtin.Bytes.fitsIndex n = true := by unfold Builtin.Bytes.fitsIndex; rw [Bool.and_eq_true]; exact ⟨decide_eq_true (by lia), decide_eq_true (by lia)⟩
  refine bm_if_false (by rw [f0]; rfl) ?_
  refine wpAny_ite ?_
  rw [if_neg (by lia)]
  refine wpAny_ite ?_
  rw [if_neg (by lia)]
  refine bm_if_false (by unfold Builtin.Bytes.tooLong; rw [sizeLine_eq]; exact decide_eq_false (by lia)) ?_
  refine wpAny_bind (wpAny_rule (wpAny_bind (wpAny_mkBytes ?_ (by rw [Array.size_replicate, sizeLine_eq]; lia))))
  show wpAny _ _ (if (Value.type "bytes" == Value.type "bytes") = true then _ else _) _ _ _
  refine bm_if_true (by decide) ?_
  exact wpAny_bind (wpAny_pure (wpAny_pure ⟨PySem.W.typeIs_bytes _ _ _, h _ _⟩))
theorem wp_bytes_bytes {b : Array UInt8} {t : Tok} {Q : Value → Shared → Prop} (h : Q (.bytes b t) s) :
    wpAny (model prog w) A (call (.type "bytes") [.bytes b t]) Q E s := by
  refine bytes_call ?_
  have hT : s.TypeIs (.bytes b t) "bytes" := PySem.W.typeIs_bytes _ _ _
  unfold Builtin.«bytes.__new__»
  refine wpAny_bind (wpAny_of_eq (a := true) rfl ?_)
  refine bm_if_false rfl ?_
  refine wpAny_bind (wpAny_of_eq F.bm_sub ?_)
  refine bm_if_false rfl ?_
  refine wpAny_bind (wpAny_of_eq (F.bm_bind _) ?_)
  refine wpAny_bind (wpAny_of_eq (a := ()) rfl ?_)
  refine wpAny_bind (wpAny_of_eq (a := ()) rfl ?_)
  refine bm_if_false rfl ?_
  refine wpAny_bind (wpAny_specialOf hT lk_bytes_bytes ?_)
  refine wpAny_bind (wpAny_rule (wpAny_bind (wpAny_typeOf hT ?_)))
  refine bm_if_true (by decide) ?_
  show wpAny _ _ (if (Value.type "bytes" == Value.type "bytes") = true then _ else _) _ _ _
  refine bm_if_true (by decide) ?_
  exact wpAny_bind (wpAny_pure (wpAny_pure ⟨hT, h⟩))
theorem wp_own_release_ba {a : Addr} {Q : Bool → Shared → Prop} (hT : s.TypeIs (.ref a) "bytearray") (h : Q true s) : wpAny (model prog w) A (Builtin.Bytes.slotIsOwn (.ref a) "__release_buffer__") Q E s := by
  unfold Builtin.Bytes.slotIsOwn
  refine wpAny_bind (wpAny_specialOf hT lk_ba_release ?_)
  refine bm_if_false (by decide +kernel) ?_
  have e : ("bytearray.__release_buffer__".dropRight ("__release_buffer__".length + 1)) = "bytearray" := by decide +kernel
  rw [e]
  exact wpAny_isInstance hT sub_ba_ba h
theorem wp_own_buffer_ba {a : Addr} {Q : Bool → Shared → Prop} (hT : s.TypeIs (.ref a) "bytearray") (h : Q true s) : wpAny (model prog w) A (Builtin.Bytes.slotIsOwn (.ref a) "__buffer__") Q E s := by
  unfold Builtin.Bytes.slotIsOwn
  refine wpAny_bind (wpAny_specialOf hT lk_ba_buffer ?_)
  refine bm_if_false (by decide +kernel) ?_
  have e : ("bytearray.__buffer__".dropRight ("__buffer__".length + 1)) = "bytearray" := by decide +kernel
  rw [e]
  exact wpAny_isInstance hT sub_ba_ba h
theorem wp_ownRelease_ba {a : Addr} {Q : Bool → Shared → Prop} (hT : s.TypeIs (.ref a) "bytearray") (h : Q false s) : wpAny (model prog w) A (Builtin.Bytes.ownRelease (.ref a)) Q E s := by
  unfold Builtin.Bytes.ownRelease
  exact wpAny_bind (wp_own_release_ba hT (wpAny_pure h))
theorem wp_payload_ba {a : Addr} {b : Array UInt8} {n : Nat} {Q : Array UInt8 → Shared → Prop} (e : s.heap.get? a = some { cls := .type "bytearray", data := .bytearray b n }) (h : Q b s) : wpAny (model prog w) A (Builtin.Bytes.payload (.ref a)) Q E s := by
  unfold Builtin.Bytes.payload Builtin.Bytes.payload?
  refine wpAny_bind (wpAny_bind (wpAny_load e ?_))
  exact wpAny_pure (wpAny_pure h)
theorem wp_buffer_ba {a : Addr} {b : Array UInt8} {n : Nat} {id : String} {f : Bool} {Q : Option (Array UInt8) → Shared → Prop} (e : s.heap.get? a = some { cls := .type "bytearray", data := .bytearray b n }) (h : Q (some b) s) : wpAny (model prog w) A (Builtin.Bytes.buffer? id (.ref a) f) Q E s := by
  have hT : s.TypeIs (.ref a) "bytearray" := ⟨_, e, rfl⟩
  unfold Builtin.Bytes.buffer?
  refine wpAny_bind (wpAny_specialOf hT lk_ba_buffer ?_)
  refine wpAny_bind (wp_own_buffer_ba hT ?_)
  refine bm_if_false rfl ?_
  refine wpAny_bind (wpAny_specialOf hT lk_ba_buffer ?_)
  refine wpAny_bind (wp_ownRelease_ba hT ?_)
  refine bm_if_false rfl ?_
  refine wpAny_bind (wp_payload_ba e ?_)
  exact wpAny_pure h
theorem wp_bytes_ba {a : Addr} {b : Array UInt8} {n : Nat} {Q : Value → Shared → Prop} (e : s.heap.get? a = some { cls := .type "bytearray", data := .bytearray b n }) (hz : b.size ≤ 16777216) (h : ∀ t k, Q (.bytes b t) { s with toks := k }) :
    wpAny (model prog w) A (call (.type "bytes") [.ref a]) Q E s := by
  refine bytes_call ?_
  have hT : s.TypeIs (.ref a) "bytearray" := ⟨_, e, rfl⟩
  unfold Builtin.«bytes.__new__»
  refine wpAny_bind (wpAny_of_eq (a := true) rfl ?_)
  refine bm_if_false rfl ?_
  refine wpAny_bind (wpAny_of_eq F.bm_sub ?_)
  refine bm_if_false rfl ?_
  refine wpAny_bind (wpAny_of_eq (F.bm_bind _) ?_)
  refine wpAny_bind (wpAny_of_eq (a := ()) rfl ?_)
  refine wpAny_bind (wpAny_of_eq (a := ()) rfl ?_)
  refine bm_if_false rfl ?_
  refine wpAny_bind (wpAny_specialOf hT lk_ba_bytes ?_)
  refine wpAny_bind (wpAny_bind ?_)
  show wpAny _ _ (load a >>= _) _ _ _
  refine wpAny_bind (wpAny_load e ?_)
  refine wpAny_pure (wpAny_pure ?_)
  refine bm_if_false rfl ?_
  refine wpAny_bind (wpAny_specialOf hT lk_ba_index ?_)
  refine bm_if_true rfl ?_
  show wpAny _ _ (Builtin.Bytes.buffer? "bytes.__new__" (.ref a) true >>= _) _ _ _
  refine wpAny_bind (wp_buffer_ba e ?_)
  refine wpAny_bind (wpAny_rule (wpAny_bind (wpAny_mkBytes ?_ (by rw [sizeLine_eq]; exact hz))))
  show wpAny _ _ (if (Value.type "bytes" == Value.type "bytes") = true then _ else _) _ _ _
  refine bm_if_true (by decide) ?_
  exact wpAny_bind (wpAny_pure (wpAny_pure ⟨PySem.W.typeIs_bytes _ _ _, h _ _⟩))
end

end

section
set_option tactic.hygienic false
open PySem PySem.W PyProof.Rows
variable {G : Glb} {C C' : Cx} {loc loc' : Loc} {tmp tmp' : Tmp} {mh hid l l' : MH} {s s' s₁ : Shared}
variable {X : Addr → Loc → MH → Prop} {Q : D → MH → Prop} {Rt : D → MH → Prop} {N : Loc → MH → Prop}

theorem ba_mro : mroOf (.type "bytearray") = pure [.type "bytearray", .type "object"] := by rw [mroOf_type]; kernel_rfl
theorem ba_lookup_new : typeLookup (.type "bytearray") "__new__" = pure (some (.builtin "bytearray.__new__")) := by rw [typeLookup_type, builtinLookup_eq_fast]; kernel_rfl
theorem ba_slot_init : Slot "bytearray" "__init__" "bytearray.__init__" :=
  .of (owner := "bytearray") (n := "__init__") (by rw [typeLookup_type, builtinLookup_eq_fast]; kernel_rfl) (by decide +kernel) (by decide +kernel) (by decide +kernel)
    (by first | exact .inl (by decide +kernel) | exact .inr (by decide +kernel)) (by rw [isSubtype_type]; kernel_rfl)
theorem ba_called : TypeCalled "bytearray" "bytearray.__new__" "bytearray.__init__" :=
  ⟨by decide +kernel, by decide +kernel, ⟨_, _, ba_mro⟩, madeBy_type ba_mro ba_lookup_new (by decide +kernel), by decide +kernel, by rw [isSubtype_type]; kernel_rfl, ba_slot_init⟩
theorem ba_typeCall0 : checkTypeCall "bytearray" ⟨[], []⟩ = pure () := by kernel_rfl
theorem ba_typeCall (a : Value) : checkTypeCall "bytearray" ⟨[a], []⟩ = pure () := by kernel_rfl
theorem ba_newCall0 : checkBuiltinCall "bytearray.__new__" ⟨[.type "bytearray"], []⟩ = pure () := by kernel_rfl
theorem ba_newCall (a : Value) : checkBuiltinCall "bytearray.__new__" ⟨[.type "bytearray", a], []⟩ = pure () := by kernel_rfl
theorem ba_entry_new : entryFor table "bytearray.__new__" = some Builtin.«list.__new__» := entryFor_alias (id' := "list.__new__") (by rw [fastTable_eq_tree]; kernel_rfl) (by decide +kernel) (by decide +kernel) (by rw [fastTable_eq_tree]; kernel_rfl)
theorem ba_entry_init : entryFor table "bytearray.__init__" = some Builtin.«bytearray.__init__» := entryFor_of_tree (by kernel_rfl)
theorem ba_plain_new : plainId "bytearray.__new__" = true := by decide +kernel
set_option maxRecDepth 1000000 in
set_option maxHeartbeats 4000000 in
theorem ba_owner : ("bytearray.__new__".splitOn ".__new__").headD "" = "bytearray" := by simp +decide [String.splitOn, String.splitOnAux]
section
variable {prog : Program} {w : World} {A : Around} {E : Value → Shared → Prop}
theorem code_ba_new {args : List Value} (hc : checkBuiltinCall "bytearray.__new__" ⟨.type "bytearray" :: args, []⟩ = pure ()) {Q₁ : Value → Shared → Prop}
    (h : Q₁ (.ref s.heap.objs.size) { s with heap := s.heap.push { cls := .type "bytearray", data := .bytearray #[] } }) :
    codeAny (model prog w) A (.call (.builtin "bytearray.__new__") ⟨.type "bytearray" :: args, []⟩) (wants Q₁ E) s := by
  refine codeAny_of_tree ?_
  show wpAny _ A.in1 (do checkBuiltinCall "bytearray.__new__" ⟨.type "bytearray" :: args, []⟩; again (.builtin "bytearray.__new__" ⟨.type "bytearray" :: args, []⟩)) _ _ s
  refine wpAny_bind (wpAny_of_eq hc (wpAny_pure ⟨plainId_quiet ba_plain_new _, codeAny_builtin_stack ba_entry_new rfl fun p st => ?_⟩))
  rw [Around.under_plainId ba_plain_new _]
  have hsub := sub_ba_ba
  have hown := ba_owner
  refine absP fun P₀ hP₀ => ?_
  obtain ⟨hp, g, d, tk, os⟩ := s
  refine hP₀ ?_; clear hP₀ P₀
  simp only [hown]
  wp_walk
  exact h
theorem codeX_builtin {id : String} {args : Args} {b : Builtin} {R : Result → Shared → Prop} (hc : clean (.builtin id args) = true) (hb : entryFor table id = some b)
    (h : wpX (model prog w) (A.under (.builtin id args)) (b args) (fun fin s' => match fin with | .done f => R (.ok f) s' | .again c' => c'.quiet = true ∧ codeX (model prog w) A c' R s') (fun e s' => R (.error e) s') s) :
    codeX (model prog w) A (.builtin id args) R s := by
  refine codeX_of_tree hc ?_
  show wpX _ _ (match entryFor table id with | some b => b args | none => unsupported ((withoutEnding? id "#data").getD id)) _ _ s
  rw [hb]; exact h
theorem codeX_callBuiltin {id : String} {args : Args} {b : Builtin} {R : Result → Shared → Prop} (hpl : plainId id = true) (hcl : clean (.builtin id args) = true) (hb : entryFor table id = some b)
    (h : wpAny (model prog w) A.in1 (checkBuiltinCall id args) (fun u₀ s₁ => wpX (model prog w) A.in1 (b args) (fun fin s' => match fin with | .done f => R (.ok f) s' | .again c' => c'.quiet = true ∧ codeX (model prog w) A c' R s') (fun e s' => R (.error e) s') s₁) (fun e s' => R (.error e) s') s) :
    codeX (model prog w) A (.call (.builtin id) args) R s := by
  refine codeX_of_tree rfl ?_
  show wpX _ A.in1 (do checkBuiltinCall id args; again (.builtin id args)) _ _ s
  refine wpX_bind (.of (wpAny_mono h (fun u₀ s₁ h₁ => wpX_pure ⟨plainId_quiet hpl _, codeX_builtin hcl hb ?_⟩) fun u₀ u₀ x => x))
  rw [Around.under_plainId hpl _]; exact h₁
theorem xif_false {α : Type} {M : Model} {c : Bool} {a b : Sem α} {Q : α → Shared → Prop} (hc : c = false) (h : wpX M A b Q E s) : wpX M A (if c = true then a else b) Q E s := by
  subst hc
  exact h
theorem xif_true {α : Type} {M : Model} {c : Bool} {a b : Sem α} {Q : α → Shared → Prop} (hc : c = true) (h : wpX M A a Q E s) : wpX M A (if c = true then a else b) Q E s := by
  subst hc
  exact h
theorem x_callType {T newId initId : String} {Bi : Builtin} {args : List Value} {Q Q₁ : Value → Shared → Prop} (ft : TypeCalled T newId initId)
    (hct : checkTypeCall T ⟨args, []⟩ = pure ()) (entryI : entryFor table initId = some Bi) (hcl : ∀ a, clean (.builtin initId a) = true)
    (hnew : codeAny (model prog w) A.in1 (.call (.builtin newId) ⟨.type T :: args, []⟩) (wants Q₁ E) s)
    (hnext : ∀ obj s₁, Q₁ obj s₁ → s₁.TypeIs obj T ∧ argsOk initId ⟨obj :: args, []⟩ ∧
      wpX (model prog w) A.in1.in1 (Bi ⟨obj :: args, []⟩)
        (fun fin s' => match fin with | .done f => wants (fun r s₂ => r = .none ∧ Q obj s₂) E (.ok f) s' | .again c' => c'.quiet = true ∧ codeX (model prog w) A.in1 c' (wants (fun r s₂ => r = .none ∧ Q obj s₂) E) s')
        (fun e s' => wants (fun r s₂ => r = .none ∧ Q obj s₂) E (.error e) s') s₁) :
    wpX (model prog w) A (call (.type T) args) Q E s := by
  obtain ⟨c, tl, hmro⟩ := ft.mro
  have hmade := ft.made
  have hsub := ft.sub
  refine wpX_call (codeX_of_tree rfl ?_)
  show wpX _ _ (callAny (.type T) _) _ _ _
  refine wpX_pure ⟨Code.quiet_builtin _ (by decide +kernel), codeX_builtin rfl F.entry_type_call ?_⟩
  rw [Around.under_plain (weight_type_call_type T args []) rfl]
  have h1 := ft.notType
  have h2 := ft.canCreate
  unfold Builtin.«type.__call__»
  refine xif_false h1 ?_
  refine xif_false h2 ?_
  rw [hct]
  refine wpX_bind (wpX_pure ?_)
  rw [hmro]
  refine wpX_bind (wpX_pure ?_)
  refine xif_false rfl ?_
  rw [hmade]
  refine wpX_bind (wpX_pure ?_)
  refine wpX_bind (wpX_pure ?_)
  refine wpX_bind (wpX_holding (.of (wpAny_call (codeAny_mono hnew fun r s₁ hr => ?_))))
  cases r with
  | error e => exact hr
  | ok fl =>
    cases fl with
    | ret obj =>
      obtain ⟨hT, hok, hsi⟩ := hnext _ _ hr
      refine wpX_bind (.of (wpAny_isInstance hT hsub ?_))
      refine xif_false rfl ?_
      refine wpX_bind (wpX_holding ?_)
      unfold callSpecial?
      refine wpX_bind (.of (wpAny_specialOf hT ft.init.lookup ?_))
      refine wpX_holding ?_
      rw [ft.init.bind obj]
      refine wpX_bind (wpX_pure (wpX_bind (wpX_call ?_)))
      refine codeX_mono (codeX_callBuiltin (R := wants (fun r s₂ => r = .none ∧ Q obj s₂) E) ft.init.plain (hcl _) entryI (ft.init.check _ _ _ _ _ _ _ _ hT hok hsi)) fun r₂ s₂ hr₂ => ?_
      cases r₂ with
      | error e => exact hr₂
      | ok fl₂ =>
        cases fl₂ with
        | ret r =>
          obtain ⟨rfl, hq⟩ := hr₂
          refine wpX_pure ?_
          refine xif_false rfl ?_
          exact wpX_pure hq
        | _ => exact hr₂.elim
    | _ => exact hr.elim
end

end

section
set_option tactic.hygienic false
open PySem PySem.W PyProof.Rows
variable {G : Glb} {C C' : Cx} {loc loc' : Loc} {tmp tmp' : Tmp} {mh hid l l' : MH} {s s' s₁ : Shared}
variable {X : Addr → Loc → MH → Prop} {Q : D → MH → Prop} {Rt : D → MH → Prop} {N : Loc → MH → Prop}
theorem ba_cl {a : Args} : clean (.builtin "bytearray.__init__" a) = true := by show (!badIds.contains "bytearray.__init__") = true; decide
theorem ba_args (a : Value) : argsOk "bytearray.__init__" ⟨[a], []⟩ := by kernel_rfl
theorem ba_args1 (a b : Value) : argsOk "bytearray.__init__" ⟨[a, b], []⟩ := by kernel_rfl
theorem ba_bind0 : Builtin.Bytes.bindOptional "bytearray.__init__" "bytearray" ["source", "encoding", "errors"] [] [] = pure [none, none, none] := by kernel_rfl
theorem ba_bind1 (v : Value) : Builtin.Bytes.bindOptional "bytearray.__init__" "bytearray" ["source", "encoding", "errors"] [v] [] = pure [some v, none, none] := by kernel_rfl
noncomputable def baObj (b : Array UInt8) : Obj := { cls := .type "bytearray", data := .bytearray b }
section
variable {prog : Program} {w : World} {A : Around} {E : Value → Shared → Prop}
theorem xite_no {α : Type} {M : Model} {c : Prop} [Decidable c] {a b : Sem α} {Q : α → Shared → Prop} (hc : ¬ c) (h : wpX M A b Q E s) : wpX M A (if c then a else b) Q E s := by rw [if_neg hc]; exact h
theorem xite_yes {α : Type} {M : Model} {c : Prop} [Decidable c] {a b : Sem α} {Q : α → Shared → Prop} (hc : c) (h : wpX M A a Q E s) : wpX M A (if c then a else b) Q E s := by rw [if_pos hc]; exact h
theorem wp_write_ba {a : Addr} {b : Array UInt8} {f : Array UInt8 → Array UInt8} {Q : Unit → Shared → Prop} (e : s.heap.get? a = some (baObj b)) (hz : (f b).size ≤ 16777216)
    (h : ∀ h', Heap.SameBut a s.heap h' → h'.get? a = some (baObj (f b)) → Q () { s with heap := h' }) : wpAny (model prog w) A (Builtin.Bytes.write (.ref a) f) Q E s := by
  show wpAny _ _ (updateBytearray a f) _ _ _
  unfold updateBytearray
  refine wpAny_bind (wpAny_load e ?_)
  show wpAny _ _ (update a (Obj.mapBytearray f) >>= fun u₀ => lookBehind a) _ _ _
  refine wpAny_bind (wpAny_update e ?_)
  have e2 : (s.heap.update a (Obj.mapBytearray f)).get? a = some (baObj (f b)) := Heap.get?_update_self (Obj.mapBytearray f) e rfl
  refine wpAny_lookBehind e2 ?_ (h _ (Heap.SameBut.update ..) e2)
  show (if (f b).size > sizeLine then some "bytearray:memory" else none) = none
  rw [if_neg]
  rw [sizeLine_eq]; lia
theorem wp_exportsOf {a : Addr} {b : Array UInt8} {Q : Nat → Shared → Prop} (e : s.heap.get? a = some (baObj b)) (h : Q 0 s) : wpAny (model prog w) A (Builtin.Bytes.exportsOf (.ref a)) Q E s := by
  show wpAny _ _ (load a >>= _) _ _ _
  exact wpAny_bind (wpAny_load e (wpAny_pure h))
theorem wpX_free {a : Addr} {b : Array UInt8} {Q : Bool → Shared → Prop} (e : s.heap.get? a = some (baObj b)) (h : Q false s) : wpX (model prog w) A (Builtin.Bytes.exported (.ref a) <||> (do return (← Builtin.Bytes.exportsOf (.ref a)) > 0)) Q E s := by
  show wpX _ _ (Builtin.Bytes.exported (.ref a) >>= fun b => match toBool b with | true => pure b | false => (Builtin.Bytes.exportsOf (.ref a) >>= fun n => pure (decide (n > 0)))) _ _ _
  refine wpX_bind (wpX_exported ?_)
  exact .of (wpAny_bind (wp_exportsOf e (wpAny_pure h)))
theorem wpX_checkResize {a : Addr} {b : Array UInt8} {Q : Unit → Shared → Prop} (e : s.heap.get? a = some (baObj b)) (h : Q () s) : wpX (model prog w) A (Builtin.Bytes.checkResize (.ref a)) Q E s := by
  unfold Builtin.Bytes.checkResize
  refine wpX_bind (wpX_free e ?_)
  exact xif_false rfl (wpX_pure h)
theorem x_bytearray0 {Q : Value → Shared → Prop} (h : ∀ h', Heap.SameBut s.heap.objs.size (s.heap.push (baObj #[])) h' → h'.get? s.heap.objs.size = some (baObj #[]) → Q (.ref s.heap.objs.size) { s with heap := h' }) :
    wpX (model prog w) A (call (.type "bytearray") []) Q E s := by
  refine x_callType (Q₁ := fun obj s₁ => obj = .ref s.heap.objs.size ∧ s₁ = { s with heap := s.heap.push (baObj #[]) }) ba_called ba_typeCall0 ba_entry_init (fun u₀ => ba_cl) (code_ba_new ba_newCall0 ⟨rfl, rfl⟩) fun obj s₁ hq1 => ?_
  obtain ⟨e1, e2⟩ := hq1
  subst e1; subst e2
  have e : (s.heap.push (baObj #[])).get? s.heap.objs.size = some (baObj #[]) := Heap.get?_push_size _ rfl
  refine ⟨⟨_, e, rfl⟩, ba_args _, ?_⟩
  unfold Builtin.«bytearray.__init__»
  refine wpX_bind (.of (wp_ownRelease_ba ⟨_, e, rfl⟩ ?_))
  refine xif_false rfl ?_
  rw [ba_bind0]
  refine wpX_bind (wpX_pure ?_)
  refine wpX_bind (wpX_of_eq (a := ()) rfl ?_)
  refine wpX_bind (wpX_of_eq (a := ()) rfl ?_)
  refine wpX_bind (wpX_free e ?_)
  refine xif_false rfl ?_
  refine wpX_bind (.of (wp_write_ba e (by simp) fun h' hs e' => ?_))
  refine wpX_bind (wpX_pure ?_)
  exact wpX_pure ⟨rfl, h h' hs e'⟩
theorem x_bytearray1 {n : Int} {t : Tok} {Q : Value → Shared → Prop} (h0 : 0 ≤ n) (hz : n ≤ 16777216) (h : ∀ h', Heap.SameBut s.heap.objs.size (s.heap.push (baObj #[])) h' → h'.get? s.heap.objs.size = some (baObj (Array.replicate n.toNat 0)) → Q (.ref s.heap.objs.size) { s with heap := h' }) :
    wpX (model prog w) A (call (.type "bytearray") [.int n t]) Q E s := by
  refine x_callType (Q₁ := fun obj s₁ => obj = .ref s.heap.objs.size ∧ s₁ = { s with heap := s.heap.push (baObj #[]) }) ba_called (ba_typeCall _) ba_entry_init (fun u₀ => ba_cl) (code_ba_new (ba_newCall _) ⟨rfl, rfl⟩) fun obj s₁ hq2 => ?_
  obtain ⟨e1, e2⟩ := hq2
  subst e1; subst e2
  have e : (s.heap.push (baObj #[])).get? s.heap.objs.size = some (baObj #[]) := Heap.get?_push_size _ rfl
  refine ⟨⟨_, e, rfl⟩, ba_args1 _ _, ?_⟩
  unfold Builtin.«bytearray.__init__»
  refine wpX_bind (.of (wp_ownRelease_ba ⟨_, e, rfl⟩ ?_))
  refine xif_false rfl ?_
  rw [ba_bind1]
  refine wpX_bind (wpX_pure ?_)
  refine wpX_bind (wpX_of_eq (a := ()) rfl ?_)
  refine wpX_bind (wpX_of_eq (a := ()) rfl ?_)
  refine wpX_bind (wpX_free e ?_)
  refine xif_false rfl ?_
  refine wpX_bind (.of (wp_write_ba e (by simp) fun h' hs e' => ?_))
  refine wpX_bind (wpX_of_eq (a := none) rfl ?_)
  refine xif_false rfl ?_
  refine wpX_bind (wpX_of_eq (a := ()) rfl ?_)
  have hT : Shared.TypeIs { s with heap := h' } (.int n t) "int" := typeIs_int _ _ _
  refine wpX_bind (.of (wpAny_specialOf hT lk_int_index ?_))
  refine xif_true rfl ?_
  refine wpX_bind (wpX_attempt (wpX_of_eq (rfl : asIndex (.int n t) = pure n) ?_))
  have f0 : Builtin.Bytes.fitsIndex n = true := by unfold Builtin.Bytes.fitsIndex; rw [Bool.and_eq_true]; exact ⟨decide_eq_true (by lia), decide_eq_true (by lia)⟩
  refine xif_false (by rw [f0]; rfl) ?_
  refine xite_no (by lia) ?_
  refine xif_false (beq_eq_false_iff_ne.mpr (by lia)) ?_
  refine xif_false (by unfold Builtin.Bytes.tooLong; rw [sizeLine_eq]; exact decide_eq_false (by lia)) ?_
  refine wpX_bind (.of (wpAny_rule ?_))
  by_cases hn : n > 0
  · refine xite_yes hn ?_
    refine wpX_bind (.of (wp_write_ba e' (by rw [Array.size_replicate]; lia) fun h2 hs2 e2 => ?_))
    refine wpX_bind (wpX_pure ?_)
    exact wpX_pure ⟨rfl, h h2 ⟨hs2.1.trans hs.1, fun b hb => (hs2.2 b hb).trans (hs.2 b hb)⟩ e2⟩
  · refine xite_no hn ?_
    refine wpX_bind (wpX_pure ?_)
    have : n.toNat = 0 := by lia
    exact wpX_pure ⟨rfl, h h' hs (by rw [this]; exact e')⟩
theorem wp_byteValue {n : Int} {t : Tok} {Q : UInt8 → Shared → Prop} (h0 : 0 ≤ n) (h1 : n < 256) (h : Q n.toNat.toUInt8 s) : wpAny (model prog w) A (Builtin.Bytes.byteValue (.int n t)) Q E s := by
  unfold Builtin.Bytes.byteValue
  refine wpAny_bind (wpAny_of_eq (rfl : asIndex (.int n t) = pure n) ?_)
  refine bm_if_false (by simp only [Bool.or_eq_false_iff, decide_eq_false_iff_not]; lia) ?_
  exact wpAny_pure h
theorem lk_ba_getattribute : typeLookup (.type "bytearray") "__getattribute__" = pure (some (.builtin "bytearray.__getattribute__")) := by rw [typeLookup_type, builtinLookup_eq_fast]; kernel_rfl
theorem lk_ba_getattr : typeLookup (.type "bytearray") "__getattr__" = pure none := by rw [typeLookup_type, builtinLookup_eq_fast]; kernel_rfl
theorem lk_ba_append : typeLookup (.type "bytearray") "append" = pure (some (.builtin "bytearray.append")) := by rw [typeLookup_type, builtinLookup_eq_fast]; kernel_rfl
theorem lk_ba_extend : typeLookup (.type "bytearray") "extend" = pure (some (.builtin "bytearray.extend")) := by rw [typeLookup_type, builtinLookup_eq_fast]; kernel_rfl
theorem ba_canon : Manifest.canonical "bytearray.__getattribute__" = "object.__getattribute__" := by decide +kernel
theorem getMethod_ba {a : Addr} {b : Array UInt8} {x : Str} {id : String} {pl : Sem Bool} {Q : Value × List Value → Shared → Prop} (e : s.heap.get? a = some (baObj b)) (hl : typeLookup (.type "bytearray") x = pure (some (.builtin id))) (ht : typeOf (.builtin id) = pure (.type "method_descriptor"))
    (h : Q (.builtin id, [.ref a]) s) : wpAny (model prog w) A (getMethod (.ref a) x pl) Q E s := by
  have hT : s.TypeIs (.ref a) "bytearray" := ⟨_, e, rfl⟩
  unfold getMethod
  refine wpAny_bind (wpAny_specialOf hT lk_ba_getattribute ?_)
  show wpAny _ A (if (Manifest.canonical "bytearray.__getattribute__" != "object.__getattribute__") = true then _ else _) Q E s
  rw [ba_canon]
  refine bm_if_false (by decide) ?_
  refine wpAny_bind (wpAny_specialOf hT lk_ba_getattr ?_)
  refine wpAny_bind (wpAny_specialOf hT hl ?_)
  refine wpAny_bind (wpAny_of_eq ht ?_)
  refine wpAny_bind (wpAny_load e ?_)
  exact wpAny_bind (wpAny_rule (wpAny_pure h))
theorem ba_entry_append : entryFor table "bytearray.append" = some Builtin.«bytearray.append» := entryFor_of_tree (by kernel_rfl)
theorem ba_entry_extend : entryFor table "bytearray.extend" = some Builtin.«bytearray.extend» := entryFor_of_tree (by kernel_rfl)
theorem ba_slot_append : Slot "bytearray" "append" "bytearray.append" :=
  .of (owner := "bytearray") (n := "append") lk_ba_append (by decide +kernel) (by decide +kernel) (by decide +kernel)
    (by first | exact .inl (by decide +kernel) | exact .inr (by decide +kernel)) (by rw [isSubtype_type]; kernel_rfl)
theorem ba_slot_extend : Slot "bytearray" "extend" "bytearray.extend" :=
  .of (owner := "bytearray") (n := "extend") lk_ba_extend (by decide +kernel) (by decide +kernel) (by decide +kernel)
    (by first | exact .inl (by decide +kernel) | exact .inr (by decide +kernel)) (by rw [isSubtype_type]; kernel_rfl)
theorem ba_args_append (a b : Value) : argsOk "bytearray.append" ⟨[a, b], []⟩ := by kernel_rfl
theorem ba_args_extend (a b : Value) : argsOk "bytearray.extend" ⟨[a, b], []⟩ := by kernel_rfl
theorem ba_cl_append {a : Args} : clean (.builtin "bytearray.append" a) = true := by show (!badIds.contains "bytearray.append") = true; decide
theorem ba_cl_extend {a : Args} : clean (.builtin "bytearray.extend" a) = true := by show (!badIds.contains "bytearray.extend") = true; decide
theorem x_ba_append {a : Addr} {b : Array UInt8} {n : Int} {t : Tok} {Q : Value → Shared → Prop} (e : s.heap.get? a = some (baObj b)) (h0 : 0 ≤ n) (h1 : n < 256) (hz : b.size < 16777216)
    (h : ∀ h', Heap.SameBut a s.heap h' → h'.get? a = some (baObj (b.push n.toNat.toUInt8)) → Q .none { s with heap := h' }) : wpX (model prog w) A (call (.builtin "bytearray.append") [.ref a, .int n t]) Q E s := by
  refine wpX_call (codeX_callBuiltin ba_slot_append.plain ba_cl_append ba_entry_append (ba_slot_append.check _ _ _ _ _ _ _ _ ⟨_, e, rfl⟩ (ba_args_append _ _) ?_))
  unfold Builtin.«bytearray.append»
  refine wpX_bind (wpX_of_eq (a := (.ref a, .int n t)) rfl ?_)
  refine wpX_bind (.of (wp_byteValue h0 h1 ?_))
  refine wpX_bind (wpX_checkResize e ?_)
  refine wpX_bind (.of (wp_write_ba e (by rw [Array.size_push]; lia) fun h' hs e' => ?_))
  exact wpX_pure (h h' hs e')
end

end

section
set_option tactic.hygienic false
open PySem PySem.W PyProof.Rows
variable {G : Glb} {C C' : Cx} {loc loc' : Loc} {tmp tmp' : Tmp} {mh hid l l' : MH} {s s' s₁ : Shared}
variable {X : Addr → Loc → MH → Prop} {Q : D → MH → Prop} {Rt : D → MH → Prop} {N : Loc → MH → Prop}
theorem lk_ba_getitem : typeLookup (.type "bytearray") "__getitem__" = pure (some (.builtin "bytearray.__getitem__")) := by rw [typeLookup_type, builtinLookup_eq_fast]; kernel_rfl
theorem ba_slot_getitem : Slot "bytearray" "__getitem__" "bytearray.__getitem__" :=
  .of (owner := "bytearray") (n := "__getitem__") lk_ba_getitem (by decide +kernel) (by decide +kernel) (by decide +kernel)
    (by first | exact .inl (by decide +kernel) | exact .inr (by decide +kernel)) (by rw [isSubtype_type]; kernel_rfl)
theorem ba_entry_getitem : entryFor table "bytearray.__getitem__" = some Builtin.«bytearray.__getitem__» := entryFor_of_tree (by kernel_rfl)
theorem ba_args_getitem (a b : Value) : argsOk "bytearray.__getitem__" ⟨[a, b], []⟩ := by kernel_rfl
section
variable {prog : Program} {w : World} {A : Around} {E : Value → Shared → Prop}
theorem wp_takeBytes {b : Array UInt8} {t : Tok} {id : String} {Q : Option (Array UInt8 × Option Value) → Shared → Prop} (h : Q (some (b, none)) s) : wpAny (model prog w) A (Builtin.Bytes.takeBufferQuiet? id (.bytes b t) 0) Q E s := by
  have hT : s.TypeIs (.bytes b t) "bytes" := PySem.W.typeIs_bytes _ _ _
  unfold Builtin.Bytes.takeBufferQuiet?
  refine wpAny_bind (wpAny_attempt ?_)
  unfold Builtin.Bytes.takeBuffer?
  refine wpAny_bind (wpAny_specialOf hT KBy.look_buffer ?_)
  refine wpAny_bind (wpAny_of_eq KBy.own_buffer ?_)
  refine bm_if_false rfl ?_
  refine wpAny_bind (wpAny_specialOf hT KBy.look_buffer ?_)
  refine wpAny_bind (wpAny_of_eq KBy.buffer_eq ?_)
  exact wpAny_pure (wpAny_pure h)
theorem x_ba_extend {a : Addr} {b c : Array UInt8} {t : Tok} {Q : Value → Shared → Prop} (e : s.heap.get? a = some (baObj b)) (hz : b.size + c.size ≤ 16777216)
    (h : ∀ h', Heap.SameBut a s.heap h' → h'.get? a = some (baObj (b ++ c)) → Q .none { s with heap := h' }) : wpX (model prog w) A (call (.builtin "bytearray.extend") [.ref a, .bytes c t]) Q E s := by
  refine wpX_call (codeX_callBuiltin ba_slot_extend.plain ba_cl_extend ba_entry_extend (ba_slot_extend.check _ _ _ _ _ _ _ _ ⟨_, e, rfl⟩ (ba_args_extend _ _) ?_))
  have hT : s.TypeIs (.bytes c t) "bytes" := PySem.W.typeIs_bytes _ _ _
  unfold Builtin.«bytearray.extend»
  refine wpX_bind (wpX_of_eq (a := (.ref a, .bytes c t)) rfl ?_)
  refine wpX_bind (.of (wpAny_specialOf hT KBy.look_buffer ?_))
  refine xif_true rfl ?_
  refine wpX_bind (.of (wpAny_rule ?_))
  refine wpX_bind (.of (wp_payload_ba e ?_))
  refine wpX_bind (.of (wp_takeBytes ?_))
  refine xif_true rfl ?_
  have fin : wpX (model prog w) A.in1 (Builtin.Bytes.write (.ref a) (· ++ c) >>= fun u₀ => ret Value.none) (fun fin s' => match fin with | .done f => (match Except.ok f with | .ok (.ret v) => Q v s' | .ok _ => False | .error e => E e s' : Prop) | .again c' => c'.quiet = true ∧ codeX (model prog w) A c' (fun r s' => match r with | .ok (.ret v) => Q v s' | .ok _ => False | .error e => E e s') s') (fun e s' => E e s') s := by
    refine wpX_bind (.of (wp_write_ba e (by rw [Array.size_append]; exact hz) fun h' hs e' => ?_))
    exact wpX_pure (h h' hs e')
  show wpX _ _ (if (!c.isEmpty) = true then _ else _) _ _ _
  cases hc : c.isEmpty with
  | true => exact xif_false rfl fin
  | false => exact xif_true rfl (wpX_bind (wpX_checkResize e fin))
theorem wp_ba_item {a : Addr} {b : Array UInt8} {k : Int} {t : Tok} {x : UInt8} {Q : Value → Shared → Prop} (e : s.heap.get? a = some (baObj b)) (h0 : 0 ≤ k) (hf : k < 2 ^ 63) (hx : b[k.toNat]? = some x)
    (h : ∀ t' k, Q (.int x.toNat t') { s with toks := k }) : wpAny (model prog w) A (getItem (.ref a) (.int k t)) Q E s := by
  have hT : s.TypeIs (.ref a) "bytearray" := ⟨_, e, rfl⟩
  refine wpAny_getItem_slot hT (by decide) ba_slot_getitem ?_
  refine wpAny_call (codeAny_call_builtin ba_slot_getitem.plain ba_entry_getitem (ba_slot_getitem.check _ _ _ _ _ _ _ _ hT (ba_args_getitem _ _) ?_))
  unfold Builtin.«bytearray.__getitem__»
  refine wpAny_bind (wpAny_of_eq (a := (.ref a, [.int k t])) rfl ?_)
  refine wpAny_bind ?_
  unfold Builtin.Bytes.subscript?
  refine wpAny_bind (wpAny_specialOf (typeIs_int _ _ _) lk_int_index ?_)
  refine bm_if_false rfl ?_
  refine wpAny_bind (wpAny_of_eq (rfl : asIndex (.int k t) = pure k) ?_)
  have f0 : Builtin.Bytes.fitsIndex k = true := by unfold Builtin.Bytes.fitsIndex; rw [Bool.and_eq_true]; exact ⟨decide_eq_true (by lia), decide_eq_true (by lia)⟩
  refine bm_if_false (by rw [f0]; rfl) ?_
  refine wpAny_pure ?_
  refine wpAny_bind (wp_payload_ba e ?_)
  have hk : k.toNat < b.size := (Array.getElem?_eq_some_iff.mp hx).1
  have e3 : (seqIndex? k b.size).bind (b[·]?) = some x := by
    have : seqIndex? k b.size = some k.toNat := by simp [seqIndex?, show ¬ k < 0 by lia, h0]; lia
    rw [this]; exact hx
  rw [e3]
  show wpAny _ _ ((retInt (x.toNat : Int)) >>= _) _ _ _
  unfold retInt
  refine wpAny_bind (wpAny_bind (wpAny_mkInt' ?_))
  exact wpAny_pure (wpAny_pure (h _ _))
theorem clip_nn (n : Nat) (k : Nat) : clipAt n (k : Int) = min k n := by
  unfold clipAt
  rw [if_neg (Int.not_lt.mpr (Int.natCast_nonneg k))]
  rcases Nat.le_total k n with h | h
  · rw [Int.min_eq_left (Int.ofNat_le.mpr h), Int.max_eq_right (Int.natCast_nonneg _), Int.toNat_natCast, Nat.min_eq_left h]
  · rw [Int.min_eq_right (Int.ofNat_le.mpr h), Int.max_eq_right (Int.natCast_nonneg _), Int.toNat_natCast, Nat.min_eq_right h]
theorem wp_ba_slice {a sl : Addr} {b : Array UInt8} {lo : Int} {t : Tok} {Q : Value → Shared → Prop} (e : s.heap.get? a = some (baObj b)) (hs : s.heap.IsSliceOf sl (.int lo t) .none .none) (h0 : 0 ≤ lo) (hz : b.size ≤ 16777216)
    (h : Q (.ref s.heap.objs.size) { s with heap := s.heap.push (baObj (b.toList.drop lo.toNat).toArray) }) : wpAny (model prog w) A (getItem (.ref a) (.ref sl)) Q E s := by
  have hT : s.TypeIs (.ref a) "bytearray" := ⟨_, e, rfl⟩
  refine wpAny_getItem_slot hT (by decide) ba_slot_getitem ?_
  refine wpAny_call (codeAny_call_builtin ba_slot_getitem.plain ba_entry_getitem (ba_slot_getitem.check _ _ _ _ _ _ _ _ hT (ba_args_getitem _ _) ?_))
  refine absP fun P₀ hP₀ => ?_
  obtain ⟨o, ho, hc, hd⟩ := hs
  refine hP₀ ?_; clear hP₀ P₀
  have hS : s.TypeIs (.ref sl) "slice" := ⟨o, ho, hc⟩
  unfold Builtin.«bytearray.__getitem__»
  refine wpAny_bind (wpAny_of_eq (a := (.ref a, [.ref sl])) rfl ?_)
  refine wpAny_bind ?_
  unfold Builtin.Bytes.subscript?
  refine wpAny_bind (wpAny_specialOf hS slice_no_index (wpAny_pure ?_))
  refine wpAny_bind (wpAny_typeOf hS ?_)
  refine bm_if_false (by decide) ?_
  refine wpAny_bind ?_
  unfold Builtin.Bytes.sliceParts
  refine wpAny_bind (wpAny_field (x := .none) ho hd rfl ?_)
  refine wpAny_bind (wpAny_of_eq (a := Value.none) rfl ?_)
  refine bm_if_false (by decide) ?_
  refine wpAny_bind (wpAny_field (x := .int lo t) ho hd rfl ?_)
  refine wpAny_bind (bm_if_false rfl ?_)
  refine wpAny_bind (wpAny_specialOf (typeIs_int _ _ _) lk_int_index ?_)
  refine bm_if_false rfl ?_
  refine wpAny_bind (wpAny_of_eq (rfl : asIndex (.int lo t) = pure lo) ?_)
  refine wpAny_pure ?_
  refine wpAny_bind (wpAny_field (x := .none) ho hd rfl ?_)
  refine wpAny_bind (wpAny_of_eq (a := Value.none) rfl ?_)
  refine wpAny_pure ?_
  refine wpAny_bind (wp_payload_ba e ?_)
  refine wpAny_bind (wpAny_of_eq (sliceIndices_raw (some lo) none none b.size (fun e => nomatch e)) ?_)
  have ep : Builtin.Bytes.sliced b (sliceBounds (some lo) none none b.size).1 (sliceBounds (some lo) none none b.size).2.1 (sliceBounds (some lo) none none b.size).2.2 = (b.toList.drop lo.toNat).toArray := by
    have := KBc.picked_eq b (some lo) none
    unfold KBy.picked at this
    rw [this]
    congr 1
    simp only [Option.elim]
    have ec : clipAt b.size lo = min lo.toNat b.size := by
      obtain ⟨k, rfl⟩ := Int.eq_ofNat_of_zero_le h0
      exact clip_nn _ k
    rw [ec]
    by_cases hk : lo.toNat ≤ b.size
    · rw [Nat.min_eq_left hk, List.take_of_length_le (by simp)]
    · rw [Nat.min_eq_right (by lia), List.drop_of_length_le (by simp), List.drop_of_length_le (by simp; lia)]; simp
  refine wpAny_bind ?_
  show wpAny _ _ (Builtin.Bytes.newBytearray (Builtin.Bytes.sliced b (sliceBounds (some lo) none none b.size).1 (sliceBounds (some lo) none none b.size).2.1 (sliceBounds (some lo) none none b.size).2.2)) _ _ _
  rw [ep]
  unfold Builtin.Bytes.newBytearray
  refine wpAny_newObj_type ?_ (by
    show Array.size _ ≤ sizeLine
    rw [sizeLine_eq, List.size_toArray, List.length_drop, Array.length_toList]; lia)
  exact wpAny_pure h
end
theorem BF_bytes_int {n : Int} {P : D → MH → Prop} (h0 : 0 ≤ n) (hz : n ≤ 16777216) (h : P (.bytes (List.replicate n.toNat 0)) mh) : BF G C (.type "bytes") [.int n] mh P := fun loc tmp hid s vs X R V => by
  obtain ⟨_, rfl, x⟩ := V.one
  obtain ⟨t, rfl⟩ := x.int_inv
  exact wp_bytes_int h0 hz fun t' k => ⟨.bytes (List.replicate n.toNat 0), mh, by
    have := (R.toks k).push (.bytes (List.replicate n.toNat 0) t'); rw [List.toArray_replicate] at this; exact this, h⟩
theorem BF_bytes_bytes {l : List UInt8} {P : D → MH → Prop} (h : P (.bytes l) mh) : BF G C (.type "bytes") [.bytes l] mh P := fun loc tmp hid s vs X R V => by
  obtain ⟨_, rfl, x⟩ := V.one
  obtain ⟨t, rfl⟩ := x.bytes_inv
  exact wp_bytes_bytes ⟨.bytes l, mh, R.push (.bytes l t), h⟩
theorem BF_bytes_ba {a : Addr} {l : List UInt8} {P : D → MH → Prop} (hm : (a, AO.ba l) ∈ mh) (hz : l.length ≤ 16777216) (h : P (.bytes l) mh) : BF G C (.type "bytes") [.ptr a] mh P := fun loc tmp hid s vs X R V => by
  obtain ⟨_, rfl, x⟩ := V.one
  have := x.ptr_inv; subst this
  have e := R.obs _ (List.mem_append_left hid hm)
  exact wp_bytes_ba e (by simpa using hz) fun t k => ⟨.bytes l, mh, (R.toks k).push (.bytes l t), h⟩
theorem ITM_ba {a : Addr} {l : List UInt8} {k : Int} {x : UInt8} {P : D → Prop} (hm : (a, AO.ba l) ∈ mh) (h0 : 0 ≤ k) (hf : k < 2 ^ 63) (hx : l[k.toNat]? = some x) (h : P (.int x.toNat)) : ITM G C (.ptr a) (.int k) mh P := fun loc tmp hid s v1 v2 X R x1 x2 => by
  obtain ⟨t, rfl⟩ := x2.int_inv
  have := x1.ptr_inv; subst this
  have e := R.obs _ (List.mem_append_left hid hm)
  exact ⟨"bytearray", _, lk_ba_getitem, ⟨_, e, rfl⟩, wp_ba_item e h0 hf (by simpa using hx) fun t' k => ⟨_, (R.toks k).push (.dat (.int _ t')), h⟩⟩

end

section
set_option tactic.hygienic false
open PySem PySem.W PyProof.Rows
variable {G : Glb} {C C' : Cx} {loc loc' : Loc} {tmp tmp' : Tmp} {mh hid l l' : MH} {s s' s₁ : Shared}
variable {X : Addr → Loc → MH → Prop} {Q : D → MH → Prop} {Rt : D → MH → Prop} {N : Loc → MH → Prop}
theorem x_callWithT {M : Model} {A : Around} {E : Value → Shared → Prop} {pos : Pos} {id : String} {first : List Value} {args : List (Bool × Sem Value)} {Q : Value → Shared → Prop} (hp : args.any (·.1) = false)
    (h : wpX M A (evalArgs (.type id) true args []) (fun a s₁ => wpX M A (call (.type id) (first ++ a.pos) a.kw) Q E s₁) E s) : wpX M A (callWith pos (.type id) first args []) Q E s := by
  unfold callWith
  refine wpX_bind (wpX_holding (wpX_mono h (fun a s₁ h₁ => wpX_bind (wpX_standAt ?_)) fun u₀ u₀ x => x))
  simp only [hp, List.any_nil, Bool.or_false]
  refine wpX_bind (wpX_pure ?_)
  exact wpX_bind (wpX_mono h₁ (fun r s₂ hr => wpX_bind (wpX_holding (wpX_point (wpX_pure hr)))) fun u₀ u₀ x => x)
theorem Rep.addO {a : Addr} {o : Obj} {ao : AO} {k : Nat} (R : Rep G C loc tmp mh s) (hf : foot (a, ao) = [a]) {h' : Heap} (hs : Heap.SameBut s.heap.objs.size (s.heap.push o) h') (ha : a = s.heap.objs.size) (hO : OD h' (MM C ((a, ao) :: mh)) a ao) :
    Rep G C loc tmp ((a, ao) :: mh) { s with heap := h', toks := k } := by
  have keep : ∀ b x, s.heap.get? b = some x → h'.get? b = some x := fun b x e => (hs.2 b (Nat.ne_of_lt (lt_of_get e))).trans (Heap.get?_push_of_some _ e)
  refine R.add keep rfl rfl (fun b hb => ?_) (by rw [hf]; simp) hO
  rw [hf] at hb; simp at hb; subst hb; exact size_none (Nat.le_of_eq ha.symm)
noncomputable def BFX (G : Glb) (C : Cx) (f : Value) (ds : List D) (mh : MH) (P : D → MH → Prop) : Prop :=
  ∀ loc tmp hid s vs X, Rep G C loc tmp (mh ++ hid) s → VDs s.heap (MM C (mh ++ hid)) vs ds → wpX (Mo G) C.A (call f vs []) (EVq G C loc tmp hid P) (EErr G C hid X) s
theorem EVX_callt {x : Str} {id : String} {px pos : Pos} {e : Expr} {args : List Expr} (GO : G.Ok) (hk : C.env.kindOf x = some .globalImplicit) (hg : G.mg x = none) (hb : bootBuiltins x = some (.type id)) (hn : x ≠ "__name__")
    (h : EVsX G C loc mh (e :: args) X fun ds m => BFX G C (.type id) ds m Q) (hd : (x == ("__debug__" : Str)) = false := by decide) (hplain : ∀ env, starEach (e :: args) env = (false, eval e env) :: starEach args env := by intro _; rfl)
    (hp : ∀ env, (backTo pos (starEach (e :: args) env)).any (·.1) = false := by intro _; rfl) :
    EVX G C loc mh (.Call (.Name x px) (e :: args) [] pos) X Q := fun tmp hid s R =>
  x_callName (.of (builtin_at GO hk hg hb hn hd R (x_callWithT (hp _) (xp_args hplain h R fun vs s2 ds m a2 a3 a4 => a4 loc tmp hid s2 _ X a2 a3))))
theorem EVX_callt0 {x : Str} {id : String} {px pos : Pos} (GO : G.Ok) (hk : C.env.kindOf x = some .globalImplicit) (hg : G.mg x = none) (hb : bootBuiltins x = some (.type id)) (hn : x ≠ "__name__")
    (h : BFX G C (.type id) [] mh Q) (hd : (x == ("__debug__" : Str)) = false := by decide) : EVX G C loc mh (.Call (.Name x px) [] [] pos) X Q := fun tmp hid s R =>
  x_callName (.of (builtin_at GO hk hg hb hn hd R (x_callWithT rfl (.of (PySem.evalArgs_none (h loc tmp hid s _ X R .nil))))))
theorem BFX_ba0 {P : D → MH → Prop} (h : ∀ a, P (.ptr a) ((a, .ba []) :: mh)) : BFX G C (.type "bytearray") [] mh P := fun loc tmp hid s vs X R V => by
  obtain rfl := V.unnil
  exact x_bytearray0 fun h' hs e => ⟨.ptr _, _, (R.addO (ao := .ba []) (k := s.toks) rfl hs rfl e).push (.ptr _), h _⟩
theorem BFX_ba1 {n : Int} {P : D → MH → Prop} (h0 : 0 ≤ n) (hz : n ≤ 16777216) (h : ∀ a, P (.ptr a) ((a, .ba (List.replicate n.toNat 0)) :: mh)) : BFX G C (.type "bytearray") [.int n] mh P := fun loc tmp hid s vs X R V => by
  obtain ⟨_, rfl, x⟩ := V.one
  obtain ⟨t, rfl⟩ := x.int_inv
  exact x_bytearray1 h0 hz fun h' hs e => ⟨.ptr _, _, (R.addO (ao := .ba (List.replicate n.toNat 0)) (k := s.toks) rfl hs rfl (by show _ = _; rw [List.toArray_replicate]; exact e)).push (.ptr _), h _⟩
theorem ba_turn {a : Addr} {x y : List UInt8} {mh' : MH} {h' : Heap} {k : Nat} (U : Upd a (.ba x) (.ba y) mh mh') (R : Rep G C loc tmp mh s) (hs : Heap.SameBut a s.heap h') (hO : h'.get? a = some (baObj y.toArray)) : Rep G C loc tmp mh' { s with heap := h', toks := k } := by
  have ftn : foot (a, AO.ba y) = [a] := rfl
  have fto : foot (a, AO.ba x) = [a] := rfl
  exact R.set U (fun b o nb q => (hs.2 b fun z => nb (by rw [z]; simp [foot])).trans q) rfl rfl (fun b hb => .inl (by rw [fto]; rwa [ftn] at hb)) (by rw [ftn]; simp) hO
theorem xit_one {A : Around} {E : Value → Shared → Prop} {f : Value} {e : Expr} {pos : Pos} {env : Env} {Qa : Args → Shared → Prop} (he : ∀ env, starEach [e] env = (false, eval e env) :: starEach [] env)
    (h : wpX (Mo G) A (eval e env) (fun v s' => Qa ⟨[v], []⟩ s') E s) : wpX (Mo G) A (evalArgs f true (backTo pos (starEach [e] env)) []) Qa E s := by
  have g : wpX (Mo G) A (spliced (backTo pos (starEach [e] env))) (fun vs s' => Qa ⟨vs, []⟩ s') E s := xspl_cons (he _) (wpX_mono h (fun v s1 q => xspl_nil q) fun u₀ u₀ x => x)
  rw [he] at g ⊢
  exact x_args g
theorem MCX_ba_append {a : Addr} {e : Expr} {pos : Pos} {P : D → MH → Prop} (h : ∃ x, (a, AO.ba x) ∈ mh) (h2 : EVX G C loc mh e X fun d m => ∃ x n m', d = .int n ∧ 0 ≤ n ∧ n < 256 ∧ x.length < 16777216 ∧ (∀ hid, Upd a (.ba x) (.ba (x ++ [n.toNat.toUInt8])) (m ++ hid) (m' ++ hid)) ∧ P .none m')
    (he : ∀ env, starEach [e] env = (false, eval e env) :: starEach [] env := by intro _; rfl) (hp : ∀ env, (backTo pos (starEach [e] env)).any (·.1) = false := by intro _; rfl) : MCX G C (.ptr a) "append" pos [e] loc mh X P := fun tmp hid s v pl R hv => by
  have V := R.tmp _ hv
  have := V.ptr_inv; dsimp only at this; subst this
  obtain ⟨x0, hm⟩ := h
  have e0 := R.obs _ (List.mem_append_left hid hm)
  refine .of (getMethod_ba (b := x0.toArray) e0 lk_ba_append (by show builtinType _ = _; rw [builtinType_eq_fast]; kernel_rfl) ?_)
  refine x_callWithB (hp _) (xit_one he (h2.go R (fun u s1 d m R1 hq1 => ?_)))
  refine absP fun P₀ hP₀ => ?_
  obtain ⟨x, n, m', ed, h0, h1, hz, U, q⟩ := hq1
  refine hP₀ ?_; clear hP₀ P₀
  subst ed
  obtain ⟨t, e⟩ := R1.top.int_inv; dsimp only at e; subst e
  have e1 := R1.obs _ (U hid).mem
  exact x_ba_append e1 h0 h1 (by simpa using hz) fun h' hs e' => ⟨.none, m', (ba_turn (k := s1.toks) (U hid) R1.pop hs (by rw [← List.push_toArray]; exact e')).push (.dat .none), q⟩
theorem MCX_ba_extend {a : Addr} {e : Expr} {pos : Pos} {P : D → MH → Prop} (h : ∃ x, (a, AO.ba x) ∈ mh) (h2 : EVX G C loc mh e X fun d m => ∃ x y m', d = .bytes y ∧ x.length + y.length ≤ 16777216 ∧ (∀ hid, Upd a (.ba x) (.ba (x ++ y)) (m ++ hid) (m' ++ hid)) ∧ P .none m')
    (he : ∀ env, starEach [e] env = (false, eval e env) :: starEach [] env := by intro _; rfl) (hp : ∀ env, (backTo pos (starEach [e] env)).any (·.1) = false := by intro _; rfl) : MCX G C (.ptr a) "extend" pos [e] loc mh X P := fun tmp hid s v pl R hv => by
  have V := R.tmp _ hv
  have := V.ptr_inv; dsimp only at this; subst this
  obtain ⟨x0, hm⟩ := h
  have e0 := R.obs _ (List.mem_append_left hid hm)
  refine .of (getMethod_ba (b := x0.toArray) e0 lk_ba_extend (by show builtinType _ = _; rw [builtinType_eq_fast]; kernel_rfl) ?_)
  refine x_callWithB (hp _) (xit_one he (h2.go R (fun u s1 d m R1 hq2 => ?_)))
  refine absP fun P₀ hP₀ => ?_
  obtain ⟨x, y, m', ed, hz, U, q⟩ := hq2
  refine hP₀ ?_; clear hP₀ P₀
  subst ed
  obtain ⟨t, e⟩ := R1.top.bytes_inv; dsimp only at e; subst e
  have e1 := R1.obs _ (U hid).mem
  exact x_ba_extend e1 (by simpa using hz) fun h' hs e' => ⟨.none, m', (ba_turn (k := s1.toks) (U hid) R1.pop hs (by rw [← List.append_toArray]; exact e')).push (.dat .none), q⟩

end

section
set_option tactic.hygienic false
open PySem PySem.W PyProof.Rows
variable {G : Glb} {C C' : Cx} {loc loc' : Loc} {tmp tmp' : Tmp} {mh hid l l' : MH} {s s' s₁ : Shared}
variable {X : Addr → Loc → MH → Prop} {Q : D → MH → Prop} {Rt : D → MH → Prop} {N : Loc → MH → Prop}
theorem wp_loadName {A : Around} {E : Value → Shared → Prop} {Qv : Value → Shared → Prop} {x : Str} {d : D} (R : Rep G C loc tmp mh s) (hv : loc.lookup x = some d) (hc : (x == ("__classdict__" : Str)) = false)
    (h : ∀ v, Rep G C loc ((v, d) :: tmp) mh s → Qv v s) : wpAny (Mo G) A (loadName C.env x) Qv E s := by
  obtain ⟨m, hm, hl⟩ := R.ns
  obtain ⟨v, e, q⟩ := hl x d hv
  unfold VarAt at e
  cases hk : C.env.kindOf x with
  | none => rw [hk] at e; exact e.elim
  | some k =>
    rw [hk] at e
    cases k with
    | «local» => exact wpAny_loadName_local R.ok.kind hk hm e (h _ (R.push q))
    | cell => obtain ⟨c, e1, e2⟩ := e; exact wpAny_loadName_cell R.ok.kind hk e1 e2 (h _ (R.push q))
    | free => obtain ⟨c, e1, e2⟩ := e; exact wpAny_loadName_free R.ok.kind hk e1 e2 (h _ (R.push q)) hc
    | _ => exact e.elim
noncomputable def IOP (G : Glb) (C : Cx) (op : Operator) (d1 d2 : D) (mh : MH) (P : D → Prop) : Prop :=
  ∀ loc tmp hid s v1 v2 X, Rep G C loc tmp (mh ++ hid) s → VD s.heap (MM C (mh ++ hid)) v1 d1 → VD s.heap (MM C (mh ++ hid)) v2 d2 →
    wpAny (Mo G) C.A (inplaceOp op v1 v2) (OPq G C loc tmp (mh ++ hid) P) (EErr G C hid X) s
theorem IOP.go {op : Operator} {d1 d2 : D} {P : D → Prop} {v1 v2 : Value} {Pq : Value → Shared → Prop} (h : IOP G C op d1 d2 mh P) (R : Rep G C loc tmp (mh ++ hid) s) (x : VD s.heap (MM C (mh ++ hid)) v1 d1) (y : VD s.heap (MM C (mh ++ hid)) v2 d2)
    (k : ∀ v s' d, Rep G C loc ((v, d) :: tmp) (mh ++ hid) s' → P d → Pq v s') : wpAny (Mo G) C.A (inplaceOp op v1 v2) Pq (EErr G C hid X) s :=
  wpAny_mono (h loc tmp hid s v1 v2 X R x y) (fun v s' q => by cases q with | mk d a b => exact k v s' d a b) fun u₀ u₀ x => x
theorem IOP_add {a b : Int} {P : D → Prop} (h : P (.int (a + b))) : IOP G C .Add (.int a) (.int b) mh P := fun loc tmp hid s v1 v2 X R x y => by
  obtain ⟨t, rfl⟩ := x.int_inv; obtain ⟨u, rfl⟩ := y.int_inv
  exact PyProof.Rows.iadd_int ⟨_, (R.toks _).push (.dat (.int _ _)), h⟩
theorem IOP_or {a b : Int} {P : D → Prop} (h : P (.int (Builtin.bitOr a b))) : IOP G C .BitOr (.int a) (.int b) mh P := fun loc tmp hid s v1 v2 X R x y => by
  obtain ⟨t, rfl⟩ := x.int_inv; obtain ⟨u, rfl⟩ := y.int_inv
  exact PyProof.Rows.ior_int ⟨_, (R.toks _).push (.dat (.int _ _)), h⟩
theorem IOP_rshift {a b : Int} {P : D → Prop} (hn : 0 ≤ b) (h : P (.int (a.fdiv (2 ^ b.toNat)))) : IOP G C .RShift (.int a) (.int b) mh P := fun loc tmp hid s v1 v2 X R x y => by
  obtain ⟨t, rfl⟩ := x.int_inv; obtain ⟨u, rfl⟩ := y.int_inv
  exact PyProof.Rows.irshift_int hn ⟨_, (R.toks _).push (.dat (.int _ _)), h⟩
theorem SX_augName {x : Str} {e : Expr} {px pos : Pos} {op : Operator} {d : D} (hk : Sto C x) (hv : loc.lookup x = some d) (h : EV G C loc mh e X fun d2 m => IOP G C op d d2 m fun r => N ((x, r) :: loc) m) (hc : (x == ("__classdict__" : Str)) = false := by decide) :
    SX G C loc mh (.AugAssign (.Name x px) op e pos) X Rt N := fun tmp hid s R => by
  refine wpAny_AugAssign_Name (wp_loadName R hv hc fun v R1 => h.go R1 (fun v2 s2 d2 m R2 h2 => ?_))
  refine h2.go R2.pop.pop (R2.tmp _ (.tail _ (.head _))) R2.top (fun r s3 d3 R3 h3 => ?_)
  exact wp_store R3.pop R3.top hk fun s4 R4 => ⟨_, m, R4, h3⟩
inductive AugAt (G : Glb) (C : Cx) (loc : Loc) (X : Addr → Loc → MH → Prop) (N : Loc → MH → Prop) (x : Str) (op : Operator) (e : Expr) (d d1 : D) (m : MH) : Prop
  | mk (a Cl dx : Addr) (fs : List (Str × D)) (e1 : d1 = .ptr a) (GO : G.Ok) (T : Reads1 G.K Cl) (T' : Stores1 G.K Cl) (hx : findIn G.K (.ref Cl) x = some none) (hx' : takerIn G.K Cl x = some none) (hm : (a, AO.inst Cl dx fs) ∈ m) (hf : fs.lookup x = some d) (hd : ∀ u, d ≠ .con u)
      (h : EV G C loc m e X fun d2 m2 => IOP G C op d d2 m2 fun r => ∃ fs' m3, (setF x r fs').length ≤ 1000 ∧ (∀ hid, Upd a (.inst Cl dx fs') (.inst Cl dx (setF x r fs')) (m2 ++ hid) (m3 ++ hid)) ∧ N loc m3)
theorem SX_augAttr {o e : Expr} {x : Str} {p1 pos : Pos} {op : Operator} {d : D} (h : EV G C loc mh o X (AugAt G C loc X N x op e d)) :
    SX G C loc mh (.AugAssign (.Attribute o x p1) op e pos) X Rt N := fun tmp hid s R => by
  refine wpAny_AugAssign_AttributeAny (h.go R (fun ov s1 d1 m R1 z => ?_))
  cases z with | mk a Cl dx fs e1 GO T T' hx hx' hm hf hd h1 =>
  subst e1
  have := R1.top.ptr_inv; dsimp only at this; subst this
  refine wpAny_mono (GA_field (P := fun d3 m3 => d3 = d ∧ m3 = m) GO T hx hm hf hd ⟨rfl, rfl⟩ loc _ hid s1 _ X R1 R1.top) (fun old s2 hq1 => ?_) fun u₀ u₀ x => x
  refine absP fun P₀ hP₀ => ?_
  obtain ⟨d3, m3, R2, e3, e4⟩ := hq1
  refine hP₀ ?_; clear hP₀ P₀
  subst e3; subst e4
  refine h1.go R2 (fun v s3 d2 m2 R3 h2 => ?_)
  refine h2.go R3.pop.pop (R3.tmp _ (.tail _ (.head _))) R3.top (fun new s4 r R4 hq2 => ?_)
  refine absP fun P₀ hP₀ => ?_
  obtain ⟨fs', m4, hz, U, hN⟩ := hq2
  refine hP₀ ?_; clear hP₀ P₀
  exact wp_setAttr GO T' hx' hz (U hid) (R4.sub_tmp (fun u₀ h => .tail _ (.tail _ h))) R4.top fun s5 R5 => ⟨_, m4, R5, hN⟩
noncomputable def SLM (G : Glb) (C : Cx) (d : D) (lo hi : Option Int) (mh : MH) (P : D → MH → Prop) : Prop :=
  ∀ loc tmp hid s v sl vl vu X, Rep G C loc tmp (mh ++ hid) s → VD s.heap (MM C (mh ++ hid)) v d → s.heap.IsSliceOf sl vl vu .none → IsPart vl lo → IsPart vu hi →
    ∃ (T id : String), typeLookup (.type T) "__getitem__" = pure (some (.builtin id)) ∧ s.TypeIs v T ∧ wpAny (Mo G) C.A (getItem v (.ref sl)) (EVq G C loc tmp hid P) (EErr G C hid X) s
theorem EV_sliceM {o : Expr} {lower upper : Option Expr} {p pos : Pos} (h : EV G C loc mh o X fun d m => EVp G C loc m lower X fun lo m1 => EVp G C loc m1 upper X fun hi m2 => SLM G C d lo hi m2 Q)
    (hs : ∀ v w, subscripted (.Slice lower upper none p) false v w = operate [w, v] (getItem v w) := by intro _ _; with_unfolding_all rfl) (ht : ∀ v r, letTemporaryGo o v r = pure () := by intro _ _; with_unfolding_all rfl) :
    EV G C loc mh (.Subscript o (.Slice lower upper none p) pos) X Q := fun tmp hid s R => by
  refine Subscript_ (h.go R (fun v1 s1 d1 m1 R1 h1 => wpAny_Slice (h1.go R1 (fun vl s2 lo m2 pl R2 h2 => h2.go R2 (fun vu s3 hi m3 pu R3 h3 => ?_)))))
  rw [evalPart_none]
  refine wpAny_pure ?_
  have R4 := R3.alloc { cls := .type "slice", data := .fields #[vl, vu, .none] } s3.toks
  refine absP fun P₀ hP₀ => ?_
  obtain ⟨T, id, a1, a2, a3⟩ := h3 loc tmp hid _ v1 _ vl vu X R4.pop R4.top (Heap.IsSliceOf.new _ _ _ _) pl pu
  refine hP₀ ?_; clear hP₀ P₀
  unfold subscriptTail
  refine wpAny_bind ?_
  rw [getitemInPython_of_ne a2.not_modules]
  refine wpAny_bind (wpAny_specialOf a2 a1 ?_)
  have fin : wpAny (Mo G) C.A (subscripted (.Slice lower upper none p) false v1 (.ref s3.heap.objs.size)) (fun r s₃ => wpAny (Mo G) C.A (letTemporaryGo o v1 r >>= fun u₀ => pure r) (EVq G C loc tmp hid Q) (EErr G C hid X) s₃) (EErr G C hid X) { s3 with heap := s3.heap.push { cls := .type "slice", data := .fields #[vl, vu, .none] } } := by
    rw [hs]
    exact wpAny_operating (wpAny_mono a3 (fun r s₃ q => wpAny_bind (wpAny_of_eq (ht v1 r) (wpAny_pure q))) fun u₀ u₀ x => x)
  first
    | exact wpAny_pure (wpAny_bind fin)
    | exact wpAny_bind (wpAny_pure (wpAny_bind fin))
    | exact wpAny_bind fin
theorem SLM_ba {a : Addr} {l : List UInt8} {lo : Int} {P : D → MH → Prop} (hm : (a, AO.ba l) ∈ mh) (h0 : 0 ≤ lo) (hz : l.length ≤ 16777216) (h : ∀ b, P (.ptr b) ((b, .ba (l.drop lo.toNat)) :: mh)) : SLM G C (.ptr a) (some lo) none mh P := fun loc tmp hid s v sl vl vu X R x hs pl pu => by
  have := x.ptr_inv; subst this
  have e := R.obs _ (List.mem_append_left hid hm)
  cases pl; cases pu
  refine ⟨"bytearray", _, lk_ba_getitem, ⟨_, e, rfl⟩, wp_ba_slice e hs h0 (by simpa using hz) ⟨.ptr _, _, (R.addO (ao := .ba (l.drop lo.toNat)) (k := s.toks) rfl ⟨rfl, fun u₀ u₀ => rfl⟩ rfl (Heap.get?_push_size _ rfl)).push (.ptr _), h _⟩⟩

end

section
open PySem PySem.W PyProof.Rows
variable {G : Glb} {C C' : Cx} {loc loc' : Loc} {tmp tmp' : Tmp} {mh hid l l' : MH} {s s' s₁ : Shared}
variable {X : Addr → Loc → MH → Prop} {Q : D → MH → Prop} {Rt : D → MH → Prop} {N : Loc → MH → Prop}
section
variable {prog : Program} {w : World} {A : Around} {E : Value → Shared → Prop} {b : Array UInt8} {t : Tok}
theorem nextB_item {it : Addr} {i : Nat} {c : UInt8} {Q : Value → Shared → Prop} (hit : KBw.IsBytesIter s.heap it b t i) (hx : b[i]? = some c)
    (hQ : ∀ h', KBw.IsBytesIter h' it b t (i + 1) → Heap.SameBut it s.heap h' → Q (.int (c.toNat : Int) s.toks) { s with heap := h', toks := s.toks + 1 }) : wpAny (model prog w) A (Builtin.SmallTypes.nextOf (.ref it)) Q E s := by
  refine absP fun P₀ hP₀ => ?_
  obtain ⟨o, ho, hc, hd⟩ := id hit
  refine hP₀ ?_; clear hP₀ P₀
  unfold Builtin.SmallTypes.nextOf
  refine wpAny_bind (wpAny_callSpecial?_slot (name := PySem.Str.ofString "__next__") (KBw.iter_typeIs hit) KBw.slot_next
    (wpAny_call_entry KBw.slot_next (KBw.iter_typeIs hit) KBw.entry_next ?_ (KBw.args_next _)))
  show wpAny _ _ (field (.ref it) 0 >>= _) _ _ s
  refine wpAny_bind (wpAny_field ho hd (x := .bytes b t) rfl ?_)
  show wpAny _ _ (if (Value.bytes b t == Value.none) = true then _ else _) _ _ s
  rw [if_neg (show ¬ ((Value.bytes b t == Value.none) = true) from Bool.false_ne_true)]
  show wpAny _ _ (field (.ref it) 1 >>= _) _ _ s
  refine wpAny_bind (wpAny_field ho hd (x := .int i 0) rfl ?_)
  refine wpAny_bind (wpAny_of_eq (a := b) rfl ?_)
  simp only [Int.toNat_natCast, hx]
  refine wpAny_bind (wpAny_setField ho hd (by simp) (wpAny_bind (wpAny_mkInt (wpAny_pure ⟨_, rfl, wpAny_pure (hQ _ ?_ (Heap.SameBut.update ..))⟩))))
  exact ⟨_, Heap.get?_update_self _ ho (Obj.isFreed_of_fields (Obj.data_mapFields hd _)), (Obj.cls_mapFields ..).trans hc, by
    rw [Obj.data_mapFields hd]; simp [rawInt]⟩
theorem nextB_end {it : Addr} {i : Nat} {Q : Value → Shared → Prop} (hh : A.handled = none) (hit : KBw.IsBytesIter s.heap it b t i) (hx : b[i]? = none)
    (hE : ∀ h' e, Heap.ExtBut it s.heap h' → (∃ o, h'.get? e = some o ∧ o.cls = .type "StopIteration") → E (.ref e) { s with heap := h' }) : wpAny (model prog w) A (Builtin.SmallTypes.nextOf (.ref it)) Q E s := by
  refine absP fun P₀ hP₀ => ?_
  obtain ⟨o, ho, hc, hd⟩ := id hit
  refine hP₀ ?_; clear hP₀ P₀
  unfold Builtin.SmallTypes.nextOf
  refine wpAny_bind (wpAny_callSpecial?_slot (name := PySem.Str.ofString "__next__") (KBw.iter_typeIs hit) KBw.slot_next
    (wpAny_call_entry KBw.slot_next (KBw.iter_typeIs hit) KBw.entry_next ?_ (KBw.args_next _)))
  show wpAny _ _ (field (.ref it) 0 >>= _) _ _ s
  refine wpAny_bind (wpAny_field ho hd (x := .bytes b t) rfl ?_)
  show wpAny _ _ (if (Value.bytes b t == Value.none) = true then _ else _) _ _ s
  rw [if_neg (show ¬ ((Value.bytes b t == Value.none) = true) from Bool.false_ne_true)]
  show wpAny _ _ (field (.ref it) 1 >>= _) _ _ s
  refine wpAny_bind (wpAny_field ho hd (x := .int i 0) rfl ?_)
  refine wpAny_bind (wpAny_of_eq (a := b) rfl ?_)
  simp only [Int.toNat_natCast, hx]
  refine wpAny_bind (wpAny_rule (wpAny_bind (wpAny_setField ho hd (by simp) ?_)))
  show wpAny _ _ (newExc (.type "StopIteration") [] >>= _) _ _ _
  refine wpAny_bind ?_
  simp only [newExc, newTuple]
  refine wpAny_bind (wpAny_newObj_type ?_ (by size_fits))
  refine wpAny_bind (m := firstArgMember _ _) (wpAny_of_eq (a := Value.none) (by first | rfl | (simp only [firstArgMember]; rfl)) ?_)
  refine wpAny_newObj_type ?_ (by size_fits)
  simp only [raiseNew]
  refine wpAny_bind (wpAny_handled ?_)
  first | rw [show A.in1.handled = none from hh] | rw [hh]
  refine wpAny_bind (wpAny_pure (wpAny_throw ?_))
  exact hE _ _ (((Heap.SameBut.update ..).extBut.push _).push _) ⟨_, Heap.get?_push_size _ rfl, rfl⟩
theorem drawsB (hh : A.handled = none) (it : Addr) (b : Array UInt8) (t : Tok) :
    Draws prog w A it [it] b.size (fun i v => ∃ c u, b[i]? = some c ∧ v = .int (c.toNat : Int) u) (fun i h => KBw.IsBytesIter h it b t i) where
  live := fun u₀ u₀ st => let ⟨o, ho, _⟩ := st; ⟨o, ho⟩
  frame := fun u₀ u₀ u₀ st hk => let ⟨o, ho, r⟩ := st; ⟨o, hk it (by simp) o ho, r⟩
  item := fun i s Q E hi st hQ => by
    refine nextB_item st (c := b[i]) (by simp [hi]) fun h' hit' hs' => ?_
    exact hQ _ h' (s.toks + 1) ⟨_, _, by simp [hi], rfl⟩ hit' hs'
  done := fun s Q E st hE => nextB_end hh st (by simp) hE
set_option maxHeartbeats 1000000 in
theorem meets_enumB (x : Array UInt8) (t : Tok) :
    Meets (Builtin.«enumerate.__new__» ⟨[.type "enumerate", .bytes x t], []⟩) (fun u₀ R s =>
      R (.ok (.ret (.ref (s.heap.push { cls := .type "bytes_iterator", data := .fields #[.bytes x t, .int 0 0] }).objs.size)))
        { s with heap := (s.heap.push { cls := .type "bytes_iterator", data := .fields #[.bytes x t, .int 0 0] }).push { cls := .type "enumerate", data := .fields #[.none, .bool false, .ref s.heap.objs.size, rawInt 0, .none, .none] } }) :=
  .of_wp fun prog w A R s h => by
    refine absP fun P₀ hP₀ => ?_
    obtain ⟨hp, g, d, tk, os⟩ := s
    refine hP₀ ?_; clear hP₀ P₀
    have hsub := sub_enumerate
    wp_walk
    refine wpAny_stack_any fun st => wpAny_pure ?_
    split
    · rename_i c _ _ _ _ _
      cases (c == Value.type "enumerate")
      · wp_walk using KBw.pyIter_bytes
        exact ⟨_, rfl, h⟩
      · wp_walk using KBw.pyIter_bytes
        exact ⟨_, rfl, h⟩
    · wp_walk using KBw.pyIter_bytes
      exact ⟨_, rfl, h⟩
end

end

section
set_option tactic.hygienic false
open PySem PySem.W PyProof.Rows
variable {G : Glb} {C C' : Cx} {loc loc' : Loc} {tmp tmp' : Tmp} {mh hid l l' : MH} {s s' s₁ : Shared}
variable {X : Addr → Loc → MH → Prop} {Q : D → MH → Prop} {Rt : D → MH → Prop} {N : Loc → MH → Prop}
theorem raw2_set {e it : Addr} {oe oi oe' oi' : Obj} (R : Rep G C loc tmp ((e, .raw oe) :: (it, .raw oi) :: mh) s) {h' : Heap} {k : Nat} (hs : ∀ b o, b ≠ e → b ≠ it → s.heap.get? b = some o → h'.get? b = some o) (he : h'.get? e = some oe') (hi : h'.get? it = some oi') :
    Rep G C loc tmp ((e, .raw oe') :: (it, .raw oi') :: mh) { s with heap := h', toks := k } := by
  have N := nd_of R
  have ad : addrs ((e, .raw oe) :: (it, .raw oi) :: mh) = e :: it :: addrs mh := rfl
  have ad' : addrs ((e, .raw oe') :: (it, .raw oi') :: mh) = e :: it :: addrs mh := rfl
  rw [ad] at N
  obtain ⟨n1, N⟩ := List.nodup_cons.mp N
  obtain ⟨n2, N⟩ := List.nodup_cons.mp N
  have mono : Mono s.heap h' (MM C ((e, .raw oe) :: (it, .raw oi) :: mh)) (MM C ((e, .raw oe') :: (it, .raw oi') :: mh)) := .of (fun b x hb q => hs b x (fun z => hb (by rw [z]; exact List.mem_append_right _ (by rw [ad]; simp))) (fun z => hb (by rw [z]; exact List.mem_append_right _ (by rw [ad]; simp))) q) fun b h => .inl (by
    rcases List.mem_append.mp h with q | q
    · exact List.mem_append_left _ q
    · exact List.mem_append_right _ q)
  refine R.step (S := [e, it]) (fun a ha => by rw [ad]; rcases List.mem_cons.mp ha with rfl | ha; simp; rw [List.mem_singleton.mp ha]; simp) (fun b x hb q => hs b x (fun z => hb (by simp [z])) (fun z => hb (by simp [z])) q) rfl rfl (fun p hp => ?_) (fun a h => .inl h) (by rw [ad']; exact List.nodup_cons.mpr ⟨n1, List.nodup_cons.mpr ⟨n2, N⟩⟩)
  rcases List.mem_cons.mp hp with rfl | hp
  · exact he
  rcases List.mem_cons.mp hp with rfl | hp
  · exact hi
  have hb : ∀ b ∈ foot p, b ≠ e ∧ b ≠ it := fun b hb => ⟨fun z => n1 (.tail _ (z ▸ mem_addrs hp hb)), fun z => n2 (z ▸ mem_addrs hp hb)⟩
  exact (R.obs p (.tail _ (.tail _ hp))).mono mono fun b h x q => hs b x (hb b h).1 (hb b h).2 q
noncomputable def D.pair (i : Nat) (c : UInt8) : D := .dat (.tuple [.int i, .int (c.toNat : Int)])
noncomputable def pairs : Nat → List UInt8 → List D
  | _, [] => []
  | i, c :: r => D.pair i c :: pairs (i + 1) r
theorem Yld2_enum {target : Expr} (hh : C.A.handled = none) (ht : ∃ elts x1 pos, target = .Tuple elts x1 pos) {e it : Addr} {b : List UInt8} {t : Tok} {aux : Tmp} (rem : List UInt8) : ∀ (i : Nat) (old : Value) (oi : Obj), b.drop i = rem → oi.cls = .type "bytes_iterator" → oi.data = .fields #[.bytes b.toArray t, .int i 0] →
    Yld2 G C target (.ref e) (pairs i rem) [(e, .raw { cls := .type "enumerate", dict := none, data := .fields #[.none, .bool false, .ref it, rawInt i, .none, old], slots := #[] }), (it, .raw oi)] aux := by
  induction rem with
  | nil =>
    exact fun i old oi hr hc hd => fun loc tmp hid s E ha R => by
      have hit : KBw.IsBytesIter s.heap it b.toArray t i := ⟨oi, R.obs _ (.tail _ (.head _)), hc, hd⟩
      have hlen : b.length ≤ i := List.drop_eq_nil_iff.mp hr
      have he := R.obs _ (.head _)
      refine wpAny_pyNext_enum_endD (P := fun i v => ∃ c u, b.toArray[i]? = some c ∧ v = .int (c.toNat : Int) u) (St := fun u₀ h => KBw.IsBytesIter h it b.toArray t i) (n := 0) (fp := [it]) ⟨fun u₀ u₀ st => let ⟨o, ho, _⟩ := st; ⟨o, ho⟩, fun u₀ u₀ u₀ st hk => let ⟨o, ho, r⟩ := st; ⟨o, hk it (by simp) o ho, r⟩, fun i s Q E hi => absurd hi (Nat.not_lt_zero _), fun s Q E st hE => nextB_end hh st (Array.getElem?_eq_none (by simpa using hlen)) hE⟩ he hit fun h' hs => ⟨rfl, [], ?_⟩
      exact (raw_drop (k := s.toks) (R.perm (List.Perm.swap _ _ _)) hs).drop
  | cons x rem ih =>
    exact fun i old oi hr hc hd => fun loc tmp hid s E ha R => by
      refine absP fun P₀ hP₀ => ?_
      obtain ⟨elts, x1, pos, ht'⟩ := id ht
      refine hP₀ ?_; clear hP₀ P₀
      have hit : KBw.IsBytesIter s.heap it b.toArray t i := ⟨oi, R.obs _ (.tail _ (.head _)), hc, hd⟩
      have hx : b[i]? = some x := by have := congrArg List.head? hr; simpa using this
      have hi : i < b.length := (List.getElem?_eq_some_iff.mp hx).1
      have he := R.obs _ (.head _)
      have hnd := nd_of R
      have ad : ∀ (o o' : Obj), addrs ([(e, AO.raw o), (it, AO.raw o')] ++ hid) = e :: it :: addrs hid := fun u₀ u₀ => rfl
      rw [ad] at hnd
      have hne : e ≠ it := fun q => (List.nodup_cons.mp hnd).1 (q ▸ .head _)
      refine wpAny_pyNext_enum_itemD (drawsB (prog := G.p) (w := G.w) (A := C.A.in1) hh it b.toArray t) he hit (by simpa using hi) hne (by simpa using hne) fun y h' tk hP ho hs' hT hsz hk => ?_
      obtain ⟨c, u, hc', rfl⟩ := hP
      have : c = x := by rw [List.getElem?_toArray, hx] at hc'; cases hc'; rfl
      subst this
      refine ⟨_, rfl, ?_⟩
      subst ht'
      refine wpAny_letOwnedTupleGo_enum ho fun h2 he2 hs2 => ?_
      refine absP fun P₀ hP₀ => ?_
      obtain ⟨oi', ei', ci', di'⟩ := hs'
      refine hP₀ ?_; clear hP₀ P₀
      have hTe : s.heap.objs.size ≠ e := fun q => Nat.lt_irrefl _ (q ▸ lt_of_get he)
      have keep : ∀ z o, z ≠ e → z ≠ it → s.heap.get? z = some o → h2.get? z = some o := fun z o n1 n2 q => (hs2.2 z n1).trans (hk z o n1 n2 q)
      have R2 := raw2_set (k := tk + 1) R keep he2 ((hs2.2 it (Ne.symm hne)).trans ei')
      have ee : ((i : Int) + 1) = ((i + 1 : Nat) : Int) := by lia
      refine ⟨[(e, .raw _), (it, .raw oi')], R2.push ?_, ?_⟩
      · refine .dat (.tuple (fun z => ?_) ((hs2.2 _ hTe).trans hT) rfl rfl (.cons (.int _ _) (.cons (.int _ _) .nil)))
        rcases List.mem_append.mp z with z | z
        · obtain ⟨o, e, _⟩ := R.there _ z; exact absurd (lt_of_get e) (Nat.lt_irrefl _)
        · exact absurd (R.lt (by rw [ad]; exact z)) (Nat.lt_irrefl _)
      · rw [ee]
        exact ih (i + 1) _ oi' (by rw [← List.drop_drop, hr]; rfl) ci' di'
noncomputable def enumO (it : Addr) (old : Value) (i : Int) : Obj := { cls := .type "enumerate", dict := none, data := .fields #[.none, .bool false, .ref it, rawInt i, .none, old], slots := #[] }
theorem BF_enum {b : List UInt8} {P : D → MH → Prop} (h : ∀ e it oi t, oi.cls = .type "bytes_iterator" → oi.data = .fields #[.bytes b.toArray t, .int 0 0] → P (.ptr e) ((e, .raw (enumO it .none 0)) :: (it, .raw oi) :: mh)) : BF G C (.type "enumerate") [.bytes b] mh P := fun loc tmp hid s vs X R V => by
  obtain ⟨_, rfl, x⟩ := V.one
  obtain ⟨t, rfl⟩ := x.bytes_inv
  refine callType_new F.called_enumerate (by decide) (F.typeCall_enumerate_1 _) (F.newCall_enumerate_1 _) (fun obj => F.args_object_init_2 obj _) F.entry_enumerate_new (meets_enumB b.toArray t) ?_
  have hz : (s.heap.push { cls := .type "bytes_iterator", data := .fields #[.bytes b.toArray t, .int 0 0] }).objs.size = s.heap.objs.size + 1 := Heap.size_push ..
  have R1 := raw_new (k := s.toks) R { cls := .type "bytes_iterator", data := .fields #[.bytes b.toArray t, .int 0 0] }
  have R2 := raw_new (k := s.toks) R1 (enumO s.heap.objs.size .none 0)
  refine ⟨⟨_, R2.obs _ (.head _), rfl⟩, ?_⟩
  exact ⟨.ptr _, _, R2.push (.ptr _), h _ _ _ t rfl rfl⟩

end

section
set_option tactic.hygienic false
open PySem PySem.W PyProof.Rows
theorem iteF {P Q : Prop} (h : Q) : if false = true then P else Q := by rw [if_neg Bool.false_ne_true]; exact h
theorem iteT {P Q : Prop} (h : P) : if true = true then P else Q := by rw [if_pos rfl]; exact h
variable {G : Glb} {C C' : Cx} {loc loc' : Loc} {tmp tmp' : Tmp} {mh hid l l' : MH} {s s' s₁ : Shared}
variable {X : Addr → Loc → MH → Prop} {Q : D → MH → Prop} {Rt : D → MH → Prop} {N : Loc → MH → Prop}

noncomputable def ITB2 (G : Glb) (C : Cx) (target : Expr) (d : D) (ds : List D) (mh mh' : MH) : Prop :=
  ∀ loc tmp hid s v (E : Value → Shared → Prop), Rep G C loc tmp (mh ++ hid) s → (v, d) ∈ tmp → wpAny (Mo G) C.A (pyIter v) (fun it s' => ∃ its, Rep G C loc tmp (its ++ (mh' ++ hid)) s' ∧ Yld2 G C target it ds its [(v, d)] ∧ SelfIt G C it its) E s
theorem ITB.to2 {target : Expr} (ht : ∀ it v, letOwnedTupleGo target it v = pure ()) {d : D} {ds : List D} {mh mh' : MH} (h : ITB G C d ds mh mh') : ITB2 G C target d ds mh mh' := fun loc tmp hid s v E R hv =>
  wpAny_mono (h loc tmp hid s v E R hv) (fun it s' hq1 => by obtain ⟨its, R', Y, S⟩ := hq1; exact ⟨its, R', Y.to2 (ht it), S⟩) fun u₀ u₀ x => x
theorem ITB2_enum {target : Expr} (hh : C.A.handled = none) (ht : ∃ elts x1 pos, target = .Tuple elts x1 pos) {b : List UInt8} {e it : Addr} {oi : Obj} {t : Tok} (hc : oi.cls = .type "bytes_iterator") (hd : oi.data = .fields #[.bytes b.toArray t, .int 0 0]) :
    ITB2 G C target (.ptr e) (pairs 0 b) ((e, .raw (enumO it .none 0)) :: (it, .raw oi) :: mh) mh := fun loc tmp hid s v E R hv => by
  have V := R.tmp _ hv
  have := V.ptr_inv; dsimp only at this; subst this
  exact wpAny_pyIter_enum (R.obs _ (.head _)) ⟨_, R, Yld2_enum hh ht b 0 .none oi (by simp) hc hd, fun loc tmp hid s' E Qv R' q => wpAny_pyIter_enum (R'.obs _ (.head _)) q⟩
theorem compLoop_own {prog : Program} {w : World} {A : Around} {R : Result → Shared → Prop} {elt target iter : Expr} {ifs : List Expr} {scope : Scope} {pos : Pos} {it acc : Value} {env : Env} (I : Nat → Shared → Prop)
    (turn : ∀ n s, I n s → let M := model prog w; let E : Value → Shared → Prop := notedBy M A env fun e s' => R (.error e) s'; let J : Shared → Prop := fun s => ∃ m, m < n ∧ I m s; wpAny M A (pyNext it) (fun r s₁ => match r with
      | none => R (.ok .next) s₁
      | some v => wpAny M A (letOwnedTupleGo target it v) (fun u₀ s₁' => wpAny M A (assign target env v) (fun u₀ s₂ =>
          wpAny M A (forIn ifs true fun c r => if r = true then do let ok ← isTrue c env (eval c env); pure (ForInStep.yield ok) else pure (ForInStep.yield r)) (fun ok s₃ =>
            if ok = true then wpAny M A (eval elt env) (fun x s₄ => wpAny M A (call (.builtin "list.append") [acc, x]) (fun u₀ s₅ => J s₅) E s₄) E s₃ else J s₃) E s₂) E s₁') E s₁) E s)
    (n : Nat) (h : I n s) :
    codeAny (model prog w) A (.compLoop (.ListComp elt [⟨target, iter, ifs, 0⟩] scope pos) 0 it acc env) R s := by
  refine codeAny_loop rfl I (fun n s hI => ?_) n h
  show wpAny _ A ((compTurn (.ListComp elt [⟨target, iter, ifs, 0⟩] scope pos) 0 it acc env).onRaise (fun x => do noteFrame x env; theTreesLotGoes x)) _ _ s
  refine wpAny_noted ?_
  rw [compTurn_list]
  refine wpAny_bind (wpAny_standAt (wpAny_bind (wpAny_mono (turn n s hI) (fun r s₁ h₁ => ?_) fun u₀ u₀ h' => h')))
  cases r with
  | none => exact wpAny_pure h₁
  | some v =>
    refine wpAny_bind (wpAny_mono h₁ (fun u₀ s₁' h₁' => ?_) fun u₀ u₀ h' => h')
    refine wpAny_bind (wpAny_mono h₁' (fun u₀ s₂ h₂ => wpAny_bind (wpAny_mono h₂ (fun ok s₃ h₃ => ?_) fun u₀ u₀ h' => h')) fun u₀ u₀ h' => h')
    cases ok with
    | false => exact wpAny_pure ⟨rfl, h₃⟩
    | true =>
      exact wpAny_bind (wpAny_bind (wpAny_mono h₃ (fun x s₄ h₄ => wpAny_bind (wpAny_mono h₄ (fun u₀ s₅ h₅ => wpAny_pure (wpAny_pure ⟨rfl, h₅⟩)) fun u₀ u₀ h' => h')) fun u₀ u₀ h' => h'))
theorem comp_loop2 {elt iter target : Expr} {pos : Pos} {ifs : List Expr} {sc : Scope} {ce : Env} {H a : Addr} {it : Value} {locF : Loc} {aux : Tmp} {PP : Result → Shared → Prop}
    (hL : ce.locals = H) (hsc : ce.scope = relabel sc C.env) (hk : sc.kind = .function)
    (hg : ce.globals = C.env.globals) (hb : ce.builtins = C.env.builtins) (hcl : ∀ y c, ce.cells.lookup y = some c → C.env.cells.lookup y = some c)
    (hcs : ∀ y, (y, NameKind.free) ∈ sc.names → (ce.cells.lookup y).isSome) (hF : ∀ y d, locF.lookup y = some d → loc.lookup y = some d ∧ C.env.kindOf y ≠ some .local ∧ (y, NameKind.free) ∈ sc.names ∧ (ce.kindOf y = some .cell ∨ ce.kindOf y = some .free))
    (J : List D → List PyData → MH → Prop) (ds : List D) (its : MH) (Y : Yld2 G C target it ds its aux) (h0 : J ds [] mh) (hz : ds.length ≤ 16777216)
    (step : ∀ C2, SubC C C2 sc → ∀ d rem acc m, J (d :: rem) acc m → ∃ loc2, ASG G C2 target d locF loc2 ∧ IFS G C2 loc2 m ifs fun b m1 => (b = true → EV G C2 loc2 m1 elt NoX fun dy m2 => ∃ y, dy = .dat y ∧ J rem (acc ++ [y]) m2) ∧ (b = false → J rem acc m1))
    (haux : ∀ p ∈ aux, p ∈ tmp) {o : Obj} {mm : Str → Option Value} (hns : s.heap.Ns H mm) (R : Rep G C loc tmp ((H, .raw o) :: (mh ++ ((a, .list []) :: (its ++ hid)))) s)
    (fin : ∀ o xs m s', (∃ mm, s'.heap.Ns H mm) → Rep G C loc ((.ref a, .dat (.list xs)) :: tmp) ((H, .raw o) :: (m ++ hid)) s' → J [] xs m → PP (.ok .next) s') :
    codeAny (Mo G) C.A (.compLoop (.ListComp elt [⟨target, iter, ifs, 0⟩] sc pos) 0 it (.ref a) ce) PP s := by
  refine compLoop_own (R := PP) (fun k s => ∃ rem acc m its o mm, rem.length = k ∧ acc.length + rem.length ≤ 16777216 ∧ Yld2 G C target it rem its aux ∧ J rem acc m ∧ s.heap.Ns H mm ∧ Rep G C loc tmp ((H, .raw o) :: (m ++ ((a, .list (acc.map .dat)) :: (its ++ hid)))) s) (fun k s hq2 => ?_) ds.length ⟨ds, [], mh, its, o, mm, rfl, by simpa using hz, Y, h0, hns, R⟩
  intro M₁ E₁ J₁
  refine absP fun P₀ hP₀ => ?_
  obtain ⟨rem, acc, m, its, o, mm, ek, hz, Y, hJ, hns, R1⟩ := hq2
  refine hP₀ ?_; clear hP₀ P₀
  have P1 : ((H, AO.raw o) :: (m ++ ((a, .list (acc.map .dat)) :: (its ++ hid)))).Perm (its ++ ((H, AO.raw o) :: (m ++ ((a, .list (acc.map .dat)) :: hid)))) := by
    refine List.Perm.trans ?_ List.perm_middle.symm
    refine List.Perm.cons _ ?_
    refine List.Perm.trans ?_ (shuf (a := m) (b := its))
    exact List.Perm.append_left _ List.perm_middle.symm
  have nsO : ∀ {s' : Shared} {o' : Obj}, s'.heap.get? H = some o → ∃ mm, s'.heap.Ns H mm := fun {s'} {o'} e => by
    refine absP fun P₀ hP₀ => ?_
    obtain ⟨o1, es, ep, e1, r⟩ := hns
    refine hP₀ ?_; clear hP₀ P₀
    have e2 : s.heap.get? H = some o := R1.obs _ (.head _)
    rw [e2] at e1; cases e1
    exact ⟨mm, o, es, ep, e, r⟩
  cases rem with
  | nil =>
    refine wpAny_mono (Y loc tmp _ s _ haux (R1.perm P1)) (fun r s2 hq3 => ?_) fun u₀ u₀ z => z
    obtain ⟨er, its', R2⟩ := hq3
    subst er
    have R3 := R2.dropAll
    have R4 : Rep G C loc tmp ((a, .list (acc.map .dat)) :: ((H, .raw o) :: (m ++ hid))) s2 := R3.perm (by
      refine List.Perm.trans (List.Perm.cons _ List.perm_middle) (List.Perm.swap _ _ _))
    have nd := nd_of R4
    rw [addrs_cons] at nd
    obtain ⟨R5, V⟩ := R4.freeze (a := a) (xs := acc) (.inl (.head _)) (mh' := (H, .raw o) :: (m ++ hid)) (fun p hp => .tail _ hp) (by rw [addrs_cons (a, _)]; exact List.sublist_append_right _ _) (fun q => (List.nodup_append.mp nd).2.2 a (by simp [foot]) a q rfl)
    exact fin o acc m s2 (nsO (o' := o) (R5.obs _ (.head _))) (R5.push V) hJ
  | cons d rem =>
    refine wpAny_mono (Y loc tmp _ s _ haux (R1.perm P1)) (fun r s2' hq4 => ?_) fun u₀ u₀ z => z
    obtain ⟨v, er, hgo⟩ := hq4
    subst er
    refine wpAny_mono hgo (fun u₀ s2 hq5 => ?_) fun u₀ u₀ z => z
    obtain ⟨its', R2, Y2⟩ := hq5
    have R3 : Rep G C loc ((v, d) :: tmp) ((H, .raw o) :: (m ++ ((a, .list (acc.map .dat)) :: (its' ++ hid)))) s2 := R2.perm (by
      refine List.Perm.trans List.perm_middle (List.Perm.cons _ ?_)
      refine List.Perm.trans (shuf (a := its') (b := m)) ?_
      exact List.Perm.append_left _ List.perm_middle)
    obtain ⟨mm2, hns2⟩ := nsO (o' := o) (s' := s2) (R3.obs _ (.head _))
    obtain ⟨R4, U⟩ := comp_in (ce := ce) (sc := sc) (locF := locF) R3 hns2 hL hsc hk hg hb hcl hcs hF
    have eA : (compCx C ce H (m ++ ((a, .list (acc.map .dat)) :: (its' ++ hid))) s2).env = ce := rfl
    have S : SubC C (compCx C ce H (m ++ ((a, .list (acc.map .dat)) :: (its' ++ hid))) s2) sc := ⟨by rw [eA, hsc]; exact relabel_blank _ _, rfl, rfl⟩
    have Vd : VD s2.heap (MM (compCx C ce H (m ++ ((a, .list (acc.map .dat)) :: (its' ++ hid))) s2) (m ++ ((a, .list (acc.map .dat)) :: (its' ++ hid)))) v d := by
      refine R3.top.mono (.of (fun u₀ u₀ u₀ e => e) fun b hb => .inl ?_)
      rcases List.mem_append.mp hb with q | q
      · rw [List.mem_singleton.mp q]; exact List.mem_append_right _ (by rw [addrs_cons]; simp [foot])
      · exact List.mem_append_right _ (by rw [addrs_cons]; exact List.mem_append_right _ q)
    obtain ⟨loc2, hA, hst⟩ := step _ S d rem acc m hJ
    refine hA [] _ s2 v _ _ (R4.push Vd) fun s3 R5 => ?_
    refine wpAny_mono (hst.go (hid := (a, .list (acc.map .dat)) :: (its' ++ hid)) R5) (fun b s4 hq6 => ?_) fun u₀ u₀ z => z
    refine absP fun P₀ hP₀ => ?_
    obtain ⟨m4, R6, h1, h2⟩ := hq6
    refine hP₀ ?_; clear hP₀ P₀
    have hlen : acc.length + (rem.length + 1) ≤ 16777216 := by simpa using hz
    cases b with
    | false =>
      refine iteF ?_
      refine absP fun P₀ hP₀ => ?_
      obtain ⟨o', ⟨mm', hns'⟩, R7, _⟩ := comp_out R3 hL U R6
      refine hP₀ ?_; clear hP₀ P₀
      exact ⟨rem.length, by subst ek; simp, rem, acc, m4, its', o', mm', rfl, by lia, Y2, h2 rfl, hns', R7.pop⟩
    | true =>
      refine iteT ?_
      refine wpAny_mono (h1 rfl [] _ s4 R6) (fun y s5 hq7 => ?_) fun u₀ u₀ z => NoErr z
      refine absP fun P₀ hP₀ => ?_
      obtain ⟨dy, m5, R7, yd, ey, hJ2⟩ := hq7
      refine hP₀ ?_; clear hP₀ P₀
      subst ey
      refine absP fun P₀ hP₀ => ?_
      obtain ⟨o', ⟨mm', hns'⟩, R8, mo⟩ := comp_out R3 hL U R7
      have R9 := R8.pop.push (R7.top.mono mo)
      obtain ⟨vs, hl, W⟩ := R9.obs (a, .list (acc.map .dat)) (.tail _ (List.mem_append_right _ (.head _)))
      refine hP₀ ?_; clear hP₀ P₀
      have hzz := W.length; rw [Array.length_toList, List.length_map] at hzz
      refine wpAny_list_append hl (fun h' hl' hs => ?_) (by rw [hzz, sizeLine_eq]; lia)
      have hU : Upd a (.list (acc.map .dat)) (.list ((acc ++ [yd]).map .dat)) ((H, .raw o') :: (m5 ++ ((a, .list (acc.map .dat)) :: (its' ++ hid)))) ((H, .raw o') :: (m5 ++ ((a, .list ((acc ++ [yd]).map .dat)) :: (its' ++ hid)))) := .tail (Upd.mid m5 _)
      have R10 := lst_turn (k := s5.toks) hU R9 hs rfl fun mono => ⟨_, hl', by
        have e : List.map D.dat (acc ++ [yd]) = List.map D.dat acc ++ [.dat yd] := by simp
        have t := (W.mono mono).append (.cons (R9.top.mono mono) .nil)
        dsimp only at t
        rw [← e] at t
        rw [Array.toList_push]; exact t⟩
      have hns10 : ∃ mm, ({ s5 with heap := h', toks := s5.toks } : Shared).heap.Ns H mm := by
        refine absP fun P₀ hP₀ => ?_
        obtain ⟨o1, es, ep, e1, r⟩ := hns'
        refine hP₀ ?_; clear hP₀ P₀
        have e2 : s5.heap.get? H = some o' := R9.obs _ (.head _)
        rw [e2] at e1; cases e1
        have e3 := R10.obs _ (.head _)
        exact ⟨mm', o', es, ep, e3, r⟩
      obtain ⟨mm10, hns10⟩ := hns10
      exact ⟨rem.length, by subst ek; simp, rem, acc ++ [yd], m5, its', o', mm10, rfl, by simp; lia, Y2, hJ2, hns10, R10.pop⟩

theorem comp_all2 {elt iter target : Expr} {x : Str} {pos : Pos} {ifs : List Expr} {sc : Scope} {locF : Loc} {use : Option (Value → Sem Unit)} {Qv : Value → Shared → Prop} {E : Value → Shared → Prop} (O : CompOk C sc x locF loc) (hh : C.A.handled = none) (hfr : C.env.scope.kind = .function)
    (J : List D → List PyData → MH → Prop) {d : D} {ds : List D} {m m' : MH} {v : Value} (B : ITB2 G C target d ds m m') (h0 : J ds [] m') (hz : ds.length ≤ 16777216)
    (step : ∀ C2, SubC C C2 sc → ∀ d rem acc m, J (d :: rem) acc m → ∃ loc2, ASG G C2 target d locF loc2 ∧ IFS G C2 loc2 m ifs fun b m1 => (b = true → EV G C2 loc2 m1 elt NoX fun dy m2 => ∃ y, dy = .dat y ∧ J rem (acc ++ [y]) m2) ∧ (b = false → J rem acc m1))
    (R : Rep G C loc ((v, d) :: tmp) (m ++ hid) s)
    (fin : ∀ H a o xs m s', (∃ mm, s'.heap.Ns H mm) → Rep G C loc ((.ref a, .dat (.list xs)) :: tmp) ((H, .raw o) :: (m ++ hid)) s' → J [] xs m → compPost (Mo G) C.A E use Qv (.ref a) H (.ok .next) s') :
    wpAny (Mo G) C.A (pyIter v) (fun it s₂ => wpAny (Mo G) C.A (newList []) (fun acc s₃ =>
      wpAny (Mo G) C.A (newFunctionEnv sc C.env.globals (Classical.choose (closure_ex (sc := sc) (env := C.env) fun y hy => (O.free y hy).2.2)) [] C.env.qual none .none (some C.env)) (fun cenv s₄ =>
        codeAny (Mo G) C.A (.compStart (.ListComp elt [⟨target, iter, ifs, 0⟩] sc pos) 0 it acc { cenv with scope := relabel sc C.env }) (compPost (Mo G) C.A E use Qv acc cenv.locals) s₄) E s₃) E s₂) E s := by
  have clo := Classical.choose_spec (closure_ex (sc := sc) (env := C.env) fun y hy => (O.free y hy).2.2)
  generalize Classical.choose (closure_ex (sc := sc) (env := C.env) fun y hy => (O.free y hy).2.2) = cl at clo ⊢
  obtain ⟨_, c2, c3⟩ := clo
  refine wpAny_mono (B loc _ hid s v E R (.head _)) (fun it s2 hq8 => ?_) fun u₀ u₀ z => z
  refine absP fun P₀ hP₀ => ?_
  obtain ⟨its, R2, Y, S⟩ := hq8
  refine hP₀ ?_; clear hP₀ P₀
  refine wpAny_newObj_type ?_
  have R3 : Rep G C loc ((v, d) :: tmp) ((s2.heap.objs.size, .list []) :: (its ++ (m' ++ hid))) { s2 with heap := s2.heap.push { cls := .type "list", data := .seq ([] : List Value).toArray } } :=
    R2.add (o := .list []) (fun b o e => Heap.get?_push_of_some _ e) rfl rfl (fun b hb => by simp [foot, AO.more] at hb; exact size_none (Nat.le_of_eq hb.symm)) (by simp [foot, AO.more]) ⟨_, ⟨_, Heap.get?_push_size _ rfl, rfl, _, rfl⟩, .nil⟩
  refine wpAny_newFunctionEnv O.nocell (by intro y hy; simp at hy) (fun h₁ hns hsb => ?_) O.kind
  have hkeep : ∀ b o, ({ s2 with heap := s2.heap.push { cls := .type "list", data := .seq ([] : List Value).toArray } } : Shared).heap.get? b = some o → h₁.get? b = some o := fun b o e => (hsb.2 b (Nat.ne_of_lt (lt_of_get e))).trans (Heap.get?_push_of_some _ e)
  refine absP fun P₀ hP₀ => ?_
  obtain ⟨oH, es, ep, eH, rH⟩ := id hns
  refine hP₀ ?_; clear hP₀ P₀
  have R4 : Rep G C loc ((v, d) :: tmp) (((s2.heap.push { cls := .type "list", data := .seq ([] : List Value).toArray }).objs.size, .raw oH) :: ((s2.heap.objs.size, .list []) :: (its ++ (m' ++ hid)))) { s2 with heap := h₁, toks := s2.toks + ([] : List (Str × Value)).length } :=
    R3.add (o := .raw oH) (s' := { s2 with heap := h₁, toks := s2.toks + ([] : List (Str × Value)).length }) hkeep rfl rfl (fun b hb => by simp only [foot, AO.more, List.mem_singleton] at hb; exact size_none (Nat.le_of_eq hb.symm)) (by simp [foot, AO.more]) eH
  have R5 : Rep G C loc ((v, d) :: tmp) (((s2.heap.push { cls := .type "list", data := .seq ([] : List Value).toArray }).objs.size, .raw oH) :: (m' ++ ((s2.heap.objs.size, .list []) :: (its ++ hid)))) { s2 with heap := h₁, toks := s2.toks + ([] : List (Str × Value)).length } := R4.perm (by
    refine List.Perm.cons _ ?_
    refine List.Perm.trans ?_ List.perm_middle.symm
    exact List.Perm.cons _ shuf)
  have lp := comp_loop2 (elt := elt) (iter := iter) (target := target) (pos := pos) (ifs := ifs) (sc := sc) (locF := locF) (ce := { (newEnv sc (s2.heap.push { cls := .type "list", data := .seq ([] : List Value).toArray }).objs.size C.env.globals cl C.env.qual none .none (some C.env) C.env.builtins) with scope := relabel sc C.env }) (H := (s2.heap.push { cls := .type "list", data := .seq ([] : List Value).toArray }).objs.size)
    (PP := compPost (Mo G) C.A E use Qv (.ref s2.heap.objs.size) (s2.heap.push { cls := .type "list", data := .seq ([] : List Value).toArray }).objs.size) rfl rfl O.kind rfl rfl c2 c3
    (fun y d e => ⟨(O.locF y d e).1, by rw [(O.free y (O.locF y d e).2).1]; decide, (O.locF y d e).2, .inl (lookup_relabel_free hfr (O.free y (O.locF y d e).2).1 (O.free y (O.locF y d e).2).2.1)⟩) J ds its Y h0 hz step (fun p hp => by rw [List.mem_singleton.mp hp]; exact .head _) hns R5
    fun o xs m s' hn R6 hJ => fin _ _ o xs m s' hn (R6.sub_tmp fun p hp => by
      rcases List.mem_cons.mp hp with rfl | hp
      · exact .head _
      · exact .tail _ (.tail _ hp)) hJ
  exact codeAny_compStart_list lp (S loc ((v, d) :: tmp) ((_, .raw oH) :: (m' ++ ((s2.heap.objs.size, .list []) :: hid))) _ _ _ (R4.perm (by
    refine List.Perm.trans ?_ List.perm_middle.symm
    refine List.Perm.cons _ ?_
    refine List.Perm.trans (List.Perm.cons _ shuf) ?_
    refine List.Perm.trans List.perm_middle.symm ?_
    refine List.Perm.trans (List.Perm.append_left _ List.perm_middle.symm) ?_
    exact (shuf (a := m') (b := its) (c := (s2.heap.objs.size, .list []) :: hid)))) lp)

theorem EV_comp2 {elt iter target : Expr} {x : Str} {pos : Pos} {ifs : List Expr} {sc : Scope} {locF : Loc} (O : CompOk C sc x locF loc) (hh : C.A.handled = none) (hfr : C.env.scope.kind = .function) (J : List D → List PyData → MH → Prop)
    (h : EV G C loc mh iter X fun d m => ∃ ds m', ITB2 G C target d ds m m' ∧ J ds [] m' ∧ ds.length ≤ 16777216)
    (step : ∀ C2, SubC C C2 sc → ∀ d rem acc m, J (d :: rem) acc m → ∃ loc2, ASG G C2 target d locF loc2 ∧ IFS G C2 loc2 m ifs fun b m1 => (b = true → EV G C2 loc2 m1 elt NoX fun dy m2 => ∃ y, dy = .dat y ∧ J rem (acc ++ [y]) m2) ∧ (b = false → J rem acc m1))
    (fin : ∀ xs m, J [] xs m → Q (.dat (.list xs)) m) (hs : ∀ env v, foldedSetIterable iter env v = pure v := by intro _ _; rfl) :
    EV G C loc mh (.ListComp elt [⟨target, iter, ifs, 0⟩] sc pos) X Q := fun tmp hid s R => by
  rw [eval_ListComp]
  refine wpAny_comprehension_free (use := none) rfl (hs _) (Classical.choose_spec (closure_ex (sc := sc) (env := C.env) fun y hy => (O.free y hy).2.2)).1 O.kind O.names (h.go R (fun v s1 d m R1 hq9 => ?_))
  refine absP fun P₀ hP₀ => ?_
  obtain ⟨ds, m', B, h0, hz⟩ := hq9
  refine hP₀ ?_; clear hP₀ P₀
  refine comp_all2 O hh hfr J B h0 hz step R1 fun H a o xs m s' hn R2 hJ => ?_
  obtain ⟨mm, hn⟩ := hn
  refine ⟨mm, hn, fun h' hs => ⟨.dat (.list xs), m, ?_, fin xs m hJ⟩⟩
  have R3 : Rep G C loc ((.ref a, .dat (.list xs)) :: tmp) ((H, .raw o) :: (m ++ hid)) s' := R2
  exact raw_drop (k := s'.toks) R3 hs.extBut
theorem EV_comp {elt iter : Expr} {x : Str} {px pos : Pos} {ifs : List Expr} {sc : Scope} {locF : Loc} (O : CompOk C sc x locF loc) (hh : C.A.handled = none) (hfr : C.env.scope.kind = .function) (J : List D → List PyData → MH → Prop)
    (h : EV G C loc mh iter X fun d m => ∃ ds m', ITB G C d ds m m' ∧ J ds [] m' ∧ ds.length ≤ 16777216)
    (step : ∀ C2, SubC C C2 sc → ∀ d rem acc m, J (d :: rem) acc m → IFS G C2 ((x, d) :: locF) m ifs fun b m1 => (b = true → EV G C2 ((x, d) :: locF) m1 elt NoX fun dy m2 => ∃ y, dy = .dat y ∧ J rem (acc ++ [y]) m2) ∧ (b = false → J rem acc m1))
    (fin : ∀ xs m, J [] xs m → Q (.dat (.list xs)) m) (hs : ∀ env v, foldedSetIterable iter env v = pure v := by intro _ _; rfl) :
    EV G C loc mh (.ListComp elt [⟨.Name x px, iter, ifs, 0⟩] sc pos) X Q :=
  EV_comp2 O hh hfr J (h.mono (fun d m hq10 => by obtain ⟨ds, m', B, r⟩ := hq10; exact ⟨ds, m', B.to2 (fun u₀ u₀ => rfl), r⟩) fun u₀ u₀ u₀ z => z) (fun C2 S d rem acc m hJ => ⟨_, ASG_name (.inl ((S.kindOf rfl x).trans (lookup_relabel_local O.x))), step C2 S d rem acc m hJ⟩) fin hs
theorem SX_assign_comp {t : Str} {pt : Pos} {elt iter : Expr} {x : Str} {px pos p2 : Pos} {ifs : List Expr} {sc : Scope} {locF : Loc} (O : CompOk C sc x locF loc) (hh : C.A.handled = none) (hfr : C.env.scope.kind = .function) (ht : Sto C t) (J : List D → List PyData → MH → Prop)
    (h : EV G C loc mh iter X fun d m => ∃ ds m', ITB G C d ds m m' ∧ J ds [] m' ∧ ds.length ≤ 16777216)
    (step : ∀ C2, SubC C C2 sc → ∀ d rem acc m, J (d :: rem) acc m → IFS G C2 ((x, d) :: locF) m ifs fun b m1 => (b = true → EV G C2 ((x, d) :: locF) m1 elt NoX fun dy m2 => ∃ y, dy = .dat y ∧ J rem (acc ++ [y]) m2) ∧ (b = false → J rem acc m1))
    (fin : ∀ xs m, J [] xs m → N ((t, .dat (.list xs)) :: loc) m)
    (hw : swapsWith (.ListComp elt [⟨.Name x px, iter, ifs, 0⟩] sc pos) (some (.Name t pt)) p2.line (blank C.env.scope) = pure true) (hs : ∀ env v, foldedSetIterable iter env v = pure v := by intro _ _; rfl) :
    SX G C loc mh (.Assign [.Name t pt] (.ListComp elt [⟨.Name x px, iter, ifs, 0⟩] sc pos) p2) X Rt N := fun tmp hid s R => by
  rw [exec_Assign]
  refine wpAny_bind (wpAny_standAt ?_)
  have hw' : swapsWithSole [.Name t pt] (.ListComp elt [⟨.Name x px, iter, ifs, 0⟩] sc pos) p2.line C.env = pure true := hw
  rw [hw']
  refine wpAny_bind (wpAny_pure ?_)
  rw [if_pos rfl]
  refine wpAny_bind ?_
  rw [arm_evalThenUse_ListComp]
  dsimp only
  refine wpAny_bind (wpAny_comprehension_free (use := some _) rfl (hs _) (Classical.choose_spec (closure_ex (sc := sc) (env := C.env) fun y hy => (O.free y hy).2.2)).1 O.kind O.names (h.go R (fun v s1 d m R1 hq11 => ?_)))
  refine absP fun P₀ hP₀ => ?_
  obtain ⟨ds, m', B, h0, hz⟩ := hq11
  refine hP₀ ?_; clear hP₀ P₀
  refine comp_all2 O hh hfr J (B.to2 (fun u₀ u₀ => rfl)) h0 hz (fun C2 S d rem acc m hJ => ⟨_, ASG_name (.inl ((S.kindOf rfl x).trans (lookup_relabel_local O.x))), step C2 S d rem acc m hJ⟩) R1 fun H a o xs m s' hn R2 hJ => ?_
  show wpAny _ _ (assign (.Name t pt) C.env (.ref a)) _ _ _
  refine wpAny_assign_Name (wp_store R2.pop R2.top ht fun s3 R3 => ?_)
  refine absP fun P₀ hP₀ => ?_
  obtain ⟨mm, o1, es, ep, e1, r⟩ := hn
  refine hP₀ ?_; clear hP₀ P₀
  have e2 : s'.heap.get? H = some o := R2.obs _ (.head _)
  rw [e2] at e1; cases e1
  refine ⟨mm, ⟨o, es, ep, R3.obs _ (.head _), r⟩, fun h' hs => wpAny_pure (wpAny_pure ⟨_, m, ?_, fin xs m hJ⟩)⟩
  exact raw_drop (k := s3.toks) R3 hs.extBut

end

section
set_option tactic.hygienic false
open PySem PySem.W PyProof.Rows
variable {G : Glb} {C C' : Cx} {loc loc' : Loc} {tmp tmp' : Tmp} {mh hid l l' : MH} {s s' s₁ : Shared}
variable {X : Addr → Loc → MH → Prop} {Q : D → MH → Prop} {Rt : D → MH → Prop} {N : Loc → MH → Prop}

structure Fun (G : Glb) (f : Addr) (d : Stmt) : Prop where
  ex : ∃ fd, FnAt G f fd ∧ fd.body = .stmts (bodyOf d) ∧ fd.scope = scopeOf d ∧ fd.params = argsOf d ∧ fd.defaults = .none
theorem Fun.of {n : Nat} {f : Addr} {d : Stmt} {ds : List D} {X : Addr → MH → Prop} {Q : D → MH → Prop} {mh : MH} (ps : List Str)
    (GO : G.Ok) (F : Fun G f d) (hco : (scopeOf d).isCoroutine = false) (hgen : (scopeOf d).isGenerator = false) (hk : (scopeOf d).kind = .function)
    (hcn : (cellNames (scopeOf d).names).Nodup) (hkind : ∀ x ∈ ps, (scopeOf d).names.lookup x = some .local ∨ (scopeOf d).names.lookup x = some .cell) (hnd : ps.Nodup) (hlen : ps.length = ds.length)
    (hbind : ∀ (fd : FuncData) (vs : List Value), fd.params = argsOf d → fd.defaults = .none → vs.length = ps.length → bindArgs fd ⟨vs, []⟩ = pure (ps.zip vs))
    (h : SEX G n (scopeOf d) (ps.zip ds) mh (bodyOf d) X Q) : FN G (n + 1) (.ref f) ds mh X Q := by
  refine absP fun P₀ hP₀ => ?_
  obtain ⟨fd, A, B, Cc, Dd, Ee⟩ := F.ex
  refine hP₀ ?_; clear hP₀ P₀
  exact FN_intro GO A B (by rw [Cc]; exact hco) (by rw [Cc]; exact hgen) (by rw [Cc]; exact hk) (by rw [Cc]; exact hcn) (fun x hx => by rw [Cc]; exact hkind x hx) hnd hlen (fun vs hv => hbind fd vs Dd Ee hv) (by rw [Cc]; exact h)
theorem len1 {vs : List Value} {α : Type} {x : α} (h : vs.length = [x].length) : ∃ a, vs = [a] := List.length_eq_one_iff.mp h
theorem len2 {vs : List Value} {α : Type} {x y : α} (h : vs.length = [x, y].length) : ∃ a b, vs = [a, b] := by
  cases vs with
  | nil => cases h
  | cons a t => obtain ⟨b, rfl⟩ := List.length_eq_one_iff.mp (Nat.succ.inj h); exact ⟨a, b, rfl⟩
theorem len3 {vs : List Value} {α : Type} {x y z : α} (h : vs.length = [x, y, z].length) : ∃ a b c, vs = [a, b, c] := by
  cases vs with
  | nil => cases h
  | cons a t => obtain ⟨b, c, rfl⟩ := len2 (x := x) (y := x) (Nat.succ.inj h); exact ⟨a, b, c, rfl⟩

end

section
set_option tactic.hygienic false
open PySem PySem.W PyProof.Rows
variable {G : Glb} {C C' : Cx} {loc loc' : Loc} {tmp tmp' : Tmp} {mh hid l l' : MH} {s s' s₁ : Shared}
variable {X : Addr → Loc → MH → Prop} {Q : D → MH → Prop} {Rt : D → MH → Prop} {N : Loc → MH → Prop}

structure FunD (G : Glb) (f : Addr) (d : Stmt) (T : Addr) : Prop where
  ex : ∃ fd, FnAt G f fd ∧ fd.body = .stmts (bodyOf d) ∧ fd.scope = scopeOf d ∧ fd.params = argsOf d ∧ fd.defaults = .ref T
structure PW (G : Glb) : Prop where
  ok : G.Ok
  fn : ∀ p ∈ fnTab, G.mg p.1 = some (.ref p.2.1) ∧ Fun G p.2.1 (st p.2.2)
  cls : ∀ p ∈ clsTab, G.mg p.1 = some (.ref p.2)
  nob : ∀ p ∈ typTab, G.mg p.1 = none
  con : ∀ p ∈ ([("DELTA", 3), ("LZMA2", 33), ("MOST_FILTERS", 4), ("MOST_DICTIONARY", 4294967295)] : List (Str × Int)), ∃ t, G.mg p.1 = some (.int p.2 t)
  exc : ∀ c ∈ excTab, ExcC G.K c 36
  ini : ∃ T oT v nT, FunD G 36 (meth 2 0) T ∧ G.h.get? T = some oT ∧ oT.data = .seq #[v] nT
  noVE : G.mg "ValueError" = none
  sub : ∀ c ∈ excTab, ∀ t ∈ excTab, isSub G.K c t = (c == t)
  mth : ∀ p ∈ methTab, MethC G.K p.1 p.2.1 p.2.2.1 ∧ Fun G p.2.2.1 (meth p.2.2.2.1 p.2.2.2.2)
  makes : MakesC G.K 303 244 ∧ MakesC G.K 206 161 ∧ MakesC G.K 178 161
  cin : Fun G 161 (meth 20 0)
  oin : ∃ T oT t nT, FunD G 244 (meth 26 0) T ∧ G.h.get? T = some oT ∧ oT.data = .seq #[.int 0 t, .none] nT
  rds : ∀ c ∈ ([303, 206, 178] : List Addr), Reads1 G.K c ∧ Stores1 G.K c
  fld : ∀ p ∈ fldTab, findIn G.K (.ref p.1) p.2 = some none ∧ takerIn G.K p.1 p.2 = some none

theorem typ_boot : ∀ p ∈ typTab, bootBuiltins p.1 = some p.2 := by
  intro p hp
  simp only [typTab, List.mem_cons, List.not_mem_nil, or_false] at hp
  rcases hp with rfl | rfl | rfl | rfl | rfl | rfl | rfl | rfl | rfl | rfl | rfl | rfl | rfl <;> kernel_rfl
theorem PW.mg (P : PW G) {x : Str} {a : Addr} {i : Nat} (h : (x, a, i) ∈ fnTab) : G.mg x = some (.ref a) := (P.fn _ h).1
theorem PW.fun (P : PW G) {x : Str} {a : Addr} {i : Nat} (h : (x, a, i) ∈ fnTab) : Fun G a (st i) := (P.fn _ h).2
structure Sc (C : Cx) (sc : Scope) : Prop where
  scope : C.env.scope = sc
theorem Sc.kindOf {sc : Scope} (I : Sc C sc) (x : Str) : C.env.kindOf x = sc.names.lookup x := by unfold Env.kindOf; rw [I.scope]
theorem Is.sc {sc : Scope} (I : Is C sc) : Sc C sc := ⟨I.scope⟩
theorem SubC.sc {C2 : Cx} {sc scO : Scope} (S : SubC C C2 sc) (I : Is C scO) : Sc C2 (relabel sc (blank scO)) := ⟨by rw [S.scope, I.scope]⟩
theorem EV_fn {n : Nat} {sc : Scope} {x : Str} {px pos : Pos} {e : Expr} {args : List Expr} {a : Addr} {i : Nat} (P : PW G) (I : Sc C sc) (CN : Can G C n) (hm : (x, a, i) ∈ fnTab) (hk : sc.names.lookup x = some .globalImplicit)
    (h : EVs G C loc mh (e :: args) X fun ds m => FN G n (.ref a) ds m (fun c m => X c loc m) Q) (hd : (x == ("__debug__" : Str)) = false := by decide) (hplain : ∀ env, starEach (e :: args) env = (false, eval e env) :: starEach args env := by intro _; rfl) :
    EV G C loc mh (.Call (.Name x px) (e :: args) [] pos) X Q := by
  obtain ⟨fd, A, _⟩ := (P.fun hm).ex
  exact EV_call P.ok CN ((I.kindOf x).trans hk) (P.mg hm) A h hd hplain
theorem EV_fn0 {n : Nat} {sc : Scope} {x : Str} {px pos : Pos} {a : Addr} {i : Nat} (P : PW G) (I : Sc C sc) (CN : Can G C n) (hm : (x, a, i) ∈ fnTab) (hk : sc.names.lookup x = some .globalImplicit)
    (h : FN G n (.ref a) [] mh (fun c m => X c loc m) Q) (hd : (x == ("__debug__" : Str)) = false := by decide) :
    EV G C loc mh (.Call (.Name x px) [] [] pos) X Q := by
  obtain ⟨fd, A, _⟩ := (P.fun hm).ex
  exact EV_call0 P.ok CN ((I.kindOf x).trans hk) (P.mg hm) A h hd
theorem EVX_fn {n : Nat} {sc : Scope} {x : Str} {px pos : Pos} {e : Expr} {args : List Expr} {a : Addr} {i : Nat} (P : PW G) (I : Sc C sc) (CN : Can G C n) (hm : (x, a, i) ∈ fnTab) (hk : sc.names.lookup x = some .globalImplicit)
    (h : EVsX G C loc mh (e :: args) X fun ds m => FNX G n (.ref a) ds m (fun c m => X c loc m) Q) (hd : (x == ("__debug__" : Str)) = false := by decide) (hplain : ∀ env, starEach (e :: args) env = (false, eval e env) :: starEach args env := by intro _; rfl) :
    EVX G C loc mh (.Call (.Name x px) (e :: args) [] pos) X Q := by
  obtain ⟨fd, A, _⟩ := (P.fun hm).ex
  exact EVX_call P.ok CN ((I.kindOf x).trans hk) (P.mg hm) A h hd hplain
theorem EV_bf {sc : Scope} {x : Str} {id : String} {px pos : Pos} {e : Expr} {args : List Expr} (P : PW G) (I : Sc C sc) (hm : (x, Value.builtin id) ∈ typTab) (hk : sc.names.lookup x = some .globalImplicit)
    (h : EVs G C loc mh (e :: args) X fun ds m => BF G C (.builtin id) ds m Q) (hn : x ≠ "__name__" := by decide) (hd : (x == ("__debug__" : Str)) = false := by decide) (hplain : ∀ env, starEach (e :: args) env = (false, eval e env) :: starEach args env := by intro _; rfl)
    (hp : ∀ env, (backTo pos (starEach (e :: args) env)).any (·.1) = false := by intro _; rfl) : EV G C loc mh (.Call (.Name x px) (e :: args) [] pos) X Q :=
  EV_callb P.ok ((I.kindOf x).trans hk) (P.nob _ hm) (typ_boot _ hm) hn h hd hplain hp
theorem EV_ty {sc : Scope} {x : Str} {id : String} {px pos : Pos} {e : Expr} {args : List Expr} (P : PW G) (I : Sc C sc) (hm : (x, Value.type id) ∈ typTab) (hk : sc.names.lookup x = some .globalImplicit)
    (h : EVs G C loc mh (e :: args) X fun ds m => BF G C (.type id) ds m Q) (hn : x ≠ "__name__" := by decide) (hd : (x == ("__debug__" : Str)) = false := by decide) (hplain : ∀ env, starEach (e :: args) env = (false, eval e env) :: starEach args env := by intro _; rfl)
    (hp : ∀ env, (backTo pos (starEach (e :: args) env)).any (·.1) = false := by intro _; rfl) : EV G C loc mh (.Call (.Name x px) (e :: args) [] pos) X Q :=
  EV_callt P.ok ((I.kindOf x).trans hk) (P.nob _ hm) (typ_boot _ hm) hn h hd hplain hp
theorem EV_tyname {sc : Scope} {x : Str} {v : Value} {px : Pos} (P : PW G) (I : Sc C sc) (hm : (x, v) ∈ typTab) (hk : sc.names.lookup x = some .globalImplicit) (h : Q (.con v) mh) (hn : x ≠ "__name__" := by decide) (hd : (x == ("__debug__" : Str)) = false := by decide) : EV G C loc mh (.Name x px) X Q :=
  EV_builtin P.ok ((I.kindOf x).trans hk) (P.nob _ hm) (typ_boot _ hm) hn h hd
theorem EV_con {sc : Scope} {x : Str} {k : Int} {px : Pos} (P : PW G) (I : Sc C sc) (hm : (x, k) ∈ ([("DELTA", 3), ("LZMA2", 33), ("MOST_FILTERS", 4), ("MOST_DICTIONARY", 4294967295)] : List (Str × Int))) (hk : sc.names.lookup x = some .globalImplicit) (h : Q (.int k) mh) (hd : (x == ("__debug__" : Str)) = false := by decide) : EV G C loc mh (.Name x px) X Q := by
  obtain ⟨t, e⟩ := P.con _ hm
  exact EV_glob P.ok ((I.kindOf x).trans hk) e (fun u₀ u₀ => .dat (.int _ _)) h hd
theorem HND_hit {sc : Scope} {c : Addr} (t : Addr) {x : Str} {p pos : Pos} {b : Stmt} {suite : List Stmt} {rest : List ExceptHandler} (P : PW G) (I : Sc C sc) (hk : sc.names.lookup x = some .globalImplicit) (hm : (x, t) ∈ clsTab) (hc : c ∈ excTab) (ht : t ∈ excTab) (e : (c == t) = true) (hd : (x == ("__debug__" : Str)) = false)
    (hx : ∀ A, EX0 G (C.at A) loc mh (b :: suite) NoX Rt N) : HND G C c loc mh Rt N (.ExceptHandler (some (.Name x p)) none (b :: suite) pos :: rest) := .hit ((I.kindOf x).trans hk) hd (P.cls (x, t) hm) (P.exc _ hc) (P.exc _ ht) ((P.sub _ hc _ ht).trans e) hx
theorem HND_miss {sc : Scope} {c : Addr} (t : Addr) {x : Str} {p pos : Pos} {b : Stmt} {suite : List Stmt} {rest : List ExceptHandler} (P : PW G) (I : Sc C sc) (hk : sc.names.lookup x = some .globalImplicit) (hm : (x, t) ∈ clsTab) (hc : c ∈ excTab) (ht : t ∈ excTab) (e : (c == t) = false) (hd : (x == ("__debug__" : Str)) = false)
    (hx : HND G C c loc mh Rt N rest) : HND G C c loc mh Rt N (.ExceptHandler (some (.Name x p)) none (b :: suite) pos :: rest) := .miss ((I.kindOf x).trans hk) hd (P.cls (x, t) hm) (P.exc _ hc) (P.exc _ ht) ((P.sub _ hc _ ht).trans e) hx
inductive Vw where
  | name (x : Str) (p : Pos)
  | con (c : Const) (k : Nat) (p : Pos)
  | bin (l : Expr) (op : Operator) (r : Expr) (p : Pos)
  | un (op : UnaryOp) (x : Expr) (p : Pos)
  | cmp (l : Expr) (ops : List CmpOp) (rs : List Expr) (p : Pos)
  | no
noncomputable def Vw.ex : Vw → Option Expr
  | .name x p => some (.Name x p)
  | .con c k p => some (.Constant c k p)
  | .bin l op r p => some (.BinOp l op r p)
  | .un op x p => some (.UnaryOp op x p)
  | .cmp l ops rs p => some (.Compare l ops rs p)
  | .no => none
noncomputable def view : Expr → Vw
  | .Name x p => .name x p
  | .Constant c k p => .con c k p
  | .BinOp l op r p => .bin l op r p
  | .UnaryOp op x p => .un op x p
  | .Compare l ops rs p => .cmp l ops rs p
  | _ => .no
theorem view_eq (e : Expr) : view e = .no ∨ (view e).ex = some e := by
  cases e with
  | Name => exact .inr rfl
  | Constant => exact .inr rfl
  | BinOp => exact .inr rfl
  | UnaryOp => exact .inr rfl
  | Compare => exact .inr rfl
  | _ => exact .inl rfl
noncomputable def pint : Option D → Option Int
  | some (.dat (.int a)) => some a
  | _ => none
theorem pint_eq {a : Option D} {x : Int} (h : pint a = some x) : a = some (.int x) := by
  unfold pint at h
  split at h
  · cases h; rfl
  · cases h
noncomputable def padd (a b : Option D) : Option D := match pint a, pint b with
  | some x, some y => some (.int (x + y))
  | _, _ => none
noncomputable def psub (a b : Option D) : Option D := match pint a, pint b with
  | some x, some y => some (.int (x - y))
  | _, _ => none
noncomputable def pand (a b : Option D) : Option D := match pint a, pint b with
  | some x, some y => some (.int (Builtin.bitAnd x y))
  | _, _ => none
noncomputable def por (a b : Option D) : Option D := match pint a, pint b with
  | some x, some y => some (.int (Builtin.bitOr x y))
  | _, _ => none
noncomputable def pneg (a : Option D) : Option D := match pint a with
  | some x => some (.int (-x))
  | none => none
theorem p2_eq {α : Type} {f : Int → Int → α} {a b : Option D} {d : α} (h : (match pint a, pint b with | some x, some y => some (f x y) | _, _ => none) = some d) : ∃ x y, a = some (.int x) ∧ b = some (.int y) ∧ d = f x y := by
  cases ha : pint a with
  | none => rw [ha] at h; cases h
  | some x =>
    cases hb : pint b with
    | none => rw [ha, hb] at h; cases h
    | some y => rw [ha, hb] at h; cases h; exact ⟨_, _, pint_eq ha, pint_eq hb, rfl⟩
theorem pneg_eq {a : Option D} {d : D} (h : pneg a = some d) : ∃ x, a = some (.int x) ∧ d = .int (-x) := by
  unfold pneg at h
  cases ha : pint a with
  | none => rw [ha] at h; cases h
  | some x => rw [ha] at h; cases h; exact ⟨_, pint_eq ha, rfl⟩
noncomputable def pname (loc : Loc) (x : Str) : Option D := if x == "__debug__" then none else if x == "__classdict__" then none else loc.lookup x
noncomputable def pconst : Const → Option D
  | .int i => some (.int i)
  | .str x => some (.str x)
  | .bool b => some (.bool b)
  | .none => some .none
  | .bytes l => some (.bytes l)
  | _ => none
noncomputable def pop (op : Operator) (a b : Option D) : Option D := match op with
  | .Add => padd a b
  | .Sub => psub a b
  | .BitAnd => pand a b
  | .BitOr => por a b
  | _ => none
noncomputable def pstep (f : Expr → Option D) (loc : Loc) : Vw → Option D
  | .name x _ => pname loc x
  | .con c _ _ => pconst c
  | .bin l op r _ => pop op (f l) (f r)
  | .un op x _ => (match op with
    | .USub => pneg (f x)
    | _ => none)
  | _ => none
noncomputable def pv (loc : Loc) : Nat → Expr → Option D
  | 0, _ => none
  | n + 1, e => pstep (pv loc n) loc (view e)
theorem pop_eq {op : Operator} {a b : Option D} {d : D} {P : D → Prop} (h : pop op a b = some d) (q : P d) : ∃ x y, a = some (.int x) ∧ b = some (.int y) ∧ OP G C op (.int x) (.int y) mh P := by
  cases op with
  | Add => obtain ⟨x, y, e1, e2, rfl⟩ := p2_eq h; exact ⟨x, y, e1, e2, OP_add q⟩
  | Sub => obtain ⟨x, y, e1, e2, rfl⟩ := p2_eq h; exact ⟨x, y, e1, e2, OP_sub q⟩
  | BitAnd => obtain ⟨x, y, e1, e2, rfl⟩ := p2_eq h; exact ⟨x, y, e1, e2, OP_and q⟩
  | BitOr => obtain ⟨x, y, e1, e2, rfl⟩ := p2_eq h; exact ⟨x, y, e1, e2, OP_or q⟩
  | _ => cases h
theorem pname_ok {x : Str} {p : Pos} {d : D} {X : Addr → Loc → MH → Prop} {Q : D → MH → Prop} (h : pname loc x = some d) (q : Q d mh) : EV G C loc mh (.Name x p) X Q := by
  unfold pname at h
  by_cases h1 : (x == ("__debug__" : Str)) = true
  · rw [if_pos h1] at h; cases h
  · rw [if_neg h1] at h
    by_cases h2 : (x == ("__classdict__" : Str)) = true
    · rw [if_pos h2] at h; cases h
    · rw [if_neg h2] at h
      exact EV_var h q (Bool.eq_false_iff.mpr h1) (Bool.eq_false_iff.mpr h2)
theorem pconst_ok {c : Const} {k : Nat} {p : Pos} {d : D} {X : Addr → Loc → MH → Prop} {Q : D → MH → Prop} (h : pconst c = some d) (q : Q d mh) : EV G C loc mh (.Constant c k p) X Q := by
  cases c with
  | int i => cases h; exact EV_int q
  | str i => cases h; exact EV_str q
  | bool i => cases h; exact EV_bool q
  | none => cases h; exact EV_none q
  | bytes i => cases h; exact EV_bytes q
  | _ => cases h
structure Plain (e : Expr) : Prop where
  star : ∀ es env, starEach (e :: es) env = (false, eval e env) :: starEach es env
  mark : ∀ op, behindInMarks op e = false
theorem pv_ok {X : Addr → Loc → MH → Prop} (n : Nat) : ∀ {e : Expr} {d : D}, pv loc n e = some d → Plain e ∧ ∀ {mh : MH} {Q : D → MH → Prop}, Q d mh → EV G C loc mh e X Q := by
  induction n with
  | zero => intro e d h; cases h
  | succ n ih =>
    intro e d h
    have h : pstep (pv loc n) loc (view e) = some d := h
    rcases view_eq e with hn | he
    · rw [hn] at h; cases h
    generalize view e = v at h he
    cases v with
    | name x p =>
      cases he
      exact ⟨⟨fun u₀ u₀ => rfl, fun u₀ => rfl⟩, fun q => pname_ok h q⟩
    | con c k p =>
      cases he
      exact ⟨⟨fun u₀ u₀ => rfl, fun u₀ => rfl⟩, fun q => pconst_ok h q⟩
    | bin l op r p =>
      cases he
      refine ⟨⟨fun u₀ u₀ => rfl, fun u₀ => rfl⟩, fun {mh Q} q => ?_⟩
      refine absP fun P₀ hP₀ => ?_
      obtain ⟨x, y, e1, e2, o⟩ := pop_eq (G := G) (C := C) (mh := mh) (P := fun d => Q d mh) h q
      refine hP₀ ?_; clear hP₀ P₀
      exact EV_bin ((ih e1).2 ((ih e2).2 o))
    | un op x p =>
      cases he
      refine ⟨⟨fun u₀ u₀ => rfl, fun u₀ => rfl⟩, fun q => ?_⟩
      cases op with
      | USub => obtain ⟨x, e1, rfl⟩ := pneg_eq h; exact EV_neg ((ih e1).2 ⟨_, rfl, q⟩)
      | _ => cases h
    | _ => cases h
noncomputable def pvs (loc : Loc) : List Expr → Option (List D)
  | [] => some []
  | e :: es => match pv loc 6 e with
    | some d => (match pvs loc es with
      | some ds => some (d :: ds)
      | none => none)
    | none => none
theorem EV_pure {e : Expr} {d : D} {X : Addr → Loc → MH → Prop} {Q : D → MH → Prop} (h : pv loc 6 e = some d) (q : Q d mh) : EV G C loc mh e X Q := (pv_ok 6 h).2 q
theorem EVs_pure {X : Addr → Loc → MH → Prop} {es : List Expr} {ds : List D} {Q : List D → MH → Prop} (h : pvs loc es = some ds) (q : Q ds mh) : EVs G C loc mh es X Q := by
  induction es generalizing ds Q with
  | nil => cases h; exact EVs_nil q
  | cons e es ih =>
    unfold pvs at h
    cases h1 : pv loc 6 e with
    | none => rw [h1] at h; cases h
    | some d =>
      rw [h1] at h
      cases h2 : pvs loc es with
      | none => rw [h2] at h; cases h
      | some ds =>
        rw [h2] at h; cases h
        exact EVs_cons (EV_pure h1 (ih h2 q)) ((pv_ok (G := G) (C := C) (X := X) 6 h1).1.star es)
noncomputable def plt (a b : Option D) : Option Bool := match pint a, pint b with
  | some x, some y => some (decide (x < y))
  | _, _ => none
noncomputable def ple (a b : Option D) : Option Bool := match pint a, pint b with
  | some x, some y => some (decide (x ≤ y))
  | _, _ => none
noncomputable def pgt (a b : Option D) : Option Bool := match pint a, pint b with
  | some x, some y => some (decide (y < x))
  | _, _ => none
noncomputable def pge (a b : Option D) : Option Bool := match pint a, pint b with
  | some x, some y => some (decide (y ≤ x))
  | _, _ => none
noncomputable def peq (a b : Option D) : Option Bool := match pint a, pint b with
  | some x, some y => some (x == y)
  | _, _ => none
noncomputable def pne (a b : Option D) : Option Bool := match pint a, pint b with
  | some x, some y => some (x != y)
  | _, _ => none
noncomputable def pcmp (op : CmpOp) (a b : Option D) : Option Bool := match op with
  | .Lt => plt a b
  | .LtE => ple a b
  | .Gt => pgt a b
  | .GtE => pge a b
  | .Eq => peq a b
  | .NotEq => pne a b
  | _ => none
noncomputable def pcm (loc : Loc) (l : Expr) (ops : List CmpOp) (rs : List Expr) : Option Bool := match ops with
  | op :: os => (match rs with
    | r :: t => if os.isEmpty && t.isEmpty then pcmp op (pv loc 6 l) (pv loc 6 r) else none
    | [] => none)
  | [] => none
noncomputable def ptv (loc : Loc) : Vw → Option Bool
  | .cmp l ops rs _ => pcm loc l ops rs
  | _ => none
noncomputable def ptt (loc : Loc) (e : Expr) : Option Bool := ptv loc (view e)
theorem pcmp_ok {op : CmpOp} {a b : Option D} {v : Bool} {Q : Bool → Prop} (h : pcmp op a b = some v) (q : Q v) : ∃ x y, a = some (.int x) ∧ b = some (.int y) ∧ CMP G C op (.int x) (.int y) mh Q := by
  cases op with
  | Lt => obtain ⟨x, y, e1, e2, rfl⟩ := p2_eq h; exact ⟨x, y, e1, e2, CMP_lt q⟩
  | LtE => obtain ⟨x, y, e1, e2, rfl⟩ := p2_eq h; exact ⟨x, y, e1, e2, CMP_le q⟩
  | Gt => obtain ⟨x, y, e1, e2, rfl⟩ := p2_eq h; exact ⟨x, y, e1, e2, CMP_gt q⟩
  | GtE => obtain ⟨x, y, e1, e2, rfl⟩ := p2_eq h; exact ⟨x, y, e1, e2, CMP_ge q⟩
  | Eq => obtain ⟨x, y, e1, e2, rfl⟩ := p2_eq h; exact ⟨x, y, e1, e2, CMP_eq q⟩
  | NotEq => obtain ⟨x, y, e1, e2, rfl⟩ := p2_eq h; exact ⟨x, y, e1, e2, CMP_ne q⟩
  | _ => cases h
theorem TT_pure {e : Expr} {v : Bool} {X : Addr → Loc → MH → Prop} {Q : Bool → MH → Prop} (h : ptt loc e = some v) (q : Q v mh) : TT G C loc mh e X Q := by
  unfold ptt at h
  rcases view_eq e with hn | he
  · rw [hn] at h; cases h
  generalize view e = w at h he
  cases w with
  | cmp l ops rs p =>
    cases he
    cases ops with
    | nil => cases h
    | cons op os => cases rs with
      | nil => cases h
      | cons r t => cases os with
        | cons => cases h
        | nil => cases t with
          | cons => cases h
          | nil =>
            refine absP fun P₀ hP₀ => ?_
            obtain ⟨x, y, e1, e2, h3⟩ := pcmp_ok (G := G) (C := C) (mh := mh) (Q := fun v => Q v mh) h q
            refine hP₀ ?_; clear hP₀ P₀
            exact TT_cmp ((pv_ok 6 e1).2 ((pv_ok 6 e2).2 h3)) ((pv_ok (G := G) (C := C) (X := X) 6 e2).1.mark op)
  | _ => cases h

end

section
set_option tactic.hygienic false
open PySem PySem.W PyProof.Rows
variable {G : Glb} {C C' : Cx} {loc loc' : Loc} {tmp tmp' : Tmp} {mh hid l l' : MH} {s s' s₁ : Shared}
variable {X : Addr → Loc → MH → Prop} {Q : D → MH → Prop} {Rt : D → MH → Prop} {N : Loc → MH → Prop}
theorem ve_cls : findCls [] (.type "ValueError") (.type "type") "__init__" = some (.val (.builtin "ValueError.__init__")) := by kernel_rfl
theorem ve_type : typeOf (.type "ValueError") = pure (.type "type") := by first | rfl | kernel_rfl
noncomputable def hp0 : Heap := {}
theorem ve_stub : Manifest.isStub "ValueError" = false := by decide +kernel
theorem hp0_none (b : Addr) : hp0.get? b = none := rfl
theorem ve_hand : handedIn (.builtin "ValueError.__init__") = true := by decide +kernel
theorem emptyK : (Frag.In [] hp0) := fun a o h => by cases h
theorem wp_veInit {A : Around} {E : Value → Shared → Prop} {Qv : Value × List Value → Shared → Prop} {pl : Sem Bool} (R : Rep G C loc tmp mh s) (h : Qv (.builtin "ValueError.__init__", []) { s with toks := s.toks + 1 }) : wpAny (Mo G) A (getMethod (.type "ValueError") "__init__" pl) Qv E s := by
  obtain ⟨m, hm, _⟩ := R.ns
  have F : Fr hp0 C.env.locals s.heap m := ⟨hm, fun b o e => (by rw [hp0_none] at e; cases e), Nat.zero_le _⟩
  exact method_type (prog := G.p) (w := G.w) (A := A) (E := E) (s := s) (L := C.env.locals) (m := m) (name := "__init__") (T := "ValueError") (pl := pl) (Q := Qv) (K := []) (h₀ := hp0) (v := .builtin "ValueError.__init__") F emptyK ve_type ve_stub ve_cls ve_hand h
theorem MC_veInit {Cl fI e t0 : Addr} {e1 e2 : Expr} {pos : Pos} {P : D → MH → Prop} (GO : G.Ok) (EC : ExcC G.K Cl fI)
    (h : EVs G C loc ((e, .raw (excO Cl t0)) :: mh) [e1, e2] X fun ds m => ∃ d2, ds = [.ptr e, d2] ∧ m = (e, .raw (excO Cl t0)) :: mh ∧ ∀ t, P .none ((e, .raw (excO Cl t)) :: mh)) (hplain : ∀ env, starEach (e1 :: [e2]) env = (false, eval e1 env) :: starEach [e2] env := by intro _; with_unfolding_all rfl)
    (hp : ∀ env, (backTo pos (starEach [e1, e2] env)).any (·.1) = false := by intro _; with_unfolding_all rfl) : MC G C (.con (.type "ValueError")) "__init__" pos [e1, e2] loc ((e, .raw (excO Cl t0)) :: mh) X P := fun tmp hid s v pl R hv => by
  have V := R.tmp _ hv
  have := V.con_inv; dsimp only at this; subst this
  refine wp_veInit R ?_
  refine Calls.callWith_builtin (hp _) (wp_args hplain h (R.toks (s.toks + 1)) fun vs s2 ds m R2 V2 hq1 => ?_)
  refine absP fun P₀ hP₀ => ?_
  obtain ⟨d2, e1, e2, q⟩ := hq1
  refine hP₀ ?_; clear hP₀ P₀
  subst e1; subst e2
  cases V2 with | @cons v1 _ _ _ V1 V2 => cases V2 with | @cons v2 _ _ _ V2 V3 => cases V3 with | nil =>
  have := V1.ptr_inv; subst this
  refine absP fun P₀ hP₀ => ?_
  obtain ⟨nm, q', N, bs, bm, sn, sub, ab, col, dd, k0, k1, k2, k3, k5, hK, b1, b2, b3, b4, b5, b6⟩ := EC.obj
  have hC := (R2.kin GO) _ _ hK
  have he := R2.obs _ (.head _)
  obtain ⟨hp', g, d, tk, os⟩ := s2
  refine hP₀ ?_; clear hP₀ P₀
  refine exc_init (C := Cl) (t0 := t0) PySem.F.excBase_ValueError b1 hC he (by rw [sizeLine_eq]; simp) fun h' e' hk => ⟨.none, _, ?_, q hp'.objs.size⟩
  exact (raw_set (k := tk) R2 (o' := excO Cl hp'.objs.size) (fun b o hb hh => hk b o hb hh) e').push (.dat .none)
theorem SX_excAttr {Cl fI e t0 : Addr} {o ex : Expr} {p1 pos : Pos} (GO : G.Ok) (EC : ExcC G.K Cl fI) (h : EV G C loc ((e, .raw (excO Cl t0)) :: mh) ex X fun d m => m = (e, .raw (excO Cl t0)) :: mh ∧ EV G C loc m o X fun d1 m1 => d1 = .ptr e ∧ m1 = m ∧ ∀ dx, N loc ((e, .raw (excD Cl t0 dx)) :: mh))
    (hs : ∀ env, swapsWith ex (some (.Attribute o "reason" p1)) pos.line env = pure false := by intro _; with_unfolding_all rfl) : SX G C loc ((e, .raw (excO Cl t0)) :: mh) (.Assign [.Attribute o "reason" p1] ex pos) X Rt N := fun tmp hid s R =>
  plainObj_wpAny_Assign_Attribute (h.go R (fun v s1 d m R1 ⟨em, h1⟩ => h1.go R1 (fun ov s2 d1 m1 R2 ⟨e1, e2, hN⟩ => by
    subst em; subst e1; subst e2
    have := R2.top.ptr_inv; dsimp only at this; subst this
    refine absP fun P₀ hP₀ => ?_
    obtain ⟨nm, q', N', bs, bm, sn, sub, ab, col, dd, k0, k1, k2, k3, k5, hK, b1, b2, b3, b4, b5, b6⟩ := EC.obj
    have hC := (R2.kin GO) _ _ hK
    have he := R2.obs _ (.head _)
    have Xk := R2.kin GO
    obtain ⟨hp', g, d, tk, os⟩ := s2
    refine hP₀ ?_; clear hP₀ P₀
    refine exc_setattr (K := G.K) Xk hC hK he EC.sa EC.taker (b6 _) b5 fun h' tk' dx e' hk => ⟨loc, _, ?_, hN dx⟩
    exact raw_set (k := tk') R2.pop.pop (o' := excD Cl t0 dx) (fun b o hb hh => hk b o hb hh) e'))) (hs _)
theorem init_ok (GO : G.Ok) {T : Addr} {oT : Obj} {v : Value} {nT : Nat} (F : FunD G 36 (meth 2 0) T) (hT : G.h.get? T = some oT) (hT2 : oT.data = .seq #[v] nT) (hve : G.mg "ValueError" = none) (n : Nat) : InitFN G (n + 1) 36 := fun Cl e t0 x mh EC => by
  refine absP fun P₀ hP₀ => ?_
  obtain ⟨fd, A, B, Cc, Dd, Ee⟩ := F.ex
  refine hP₀ ?_; clear hP₀ P₀
  refine FN_of (ps := ["self", "reason"]) (es := [.ptr e, .str x]) GO A B (by rw [Cc]; rfl) (by rw [Cc]; rfl) (by rw [Cc]; rfl) (by rw [Cc]; decide) (by rw [Cc]; decide) (by decide) rfl (fun M s vs base V => ⟨vs, ?_, V⟩) ?_
  · obtain ⟨v1, v2, rfl⟩ := len2 V.length
    have h₁ : ∃ k : Option (Array Value) → Sem (List (Str × Value)), bindArgs fd ⟨[v1, v2], []⟩ = seqItems? fd.defaults >>= k ∧ k (some #[v]) = pure ([("self" : Str), "reason"].zip [v1, v2]) := by
      unfold bindArgs
      rw [Dd]
      exact ⟨_, rfl, by kernel_rfl⟩
    obtain ⟨k, h1, h2⟩ := h₁
    exact BindsTo.of_defaults Ee (base _ _ hT) hT2 h1 h2
  · rw [Cc]
    intro C I CN
    have hb : bootBuiltins "ValueError" = some (.type "ValueError") := by kernel_rfl
    refine EX0_cons (SX.to0 (SX_expr (EV_meth (EV_builtin GO ((I.kindOf _).trans (by rfl)) hve hb (by decide) ?_) (by intro _; exact ⟨_, rfl⟩)) (by intro _; with_unfolding_all rfl) (I.inter (by rfl))))
    refine MC_veInit GO EC ?_
    refine EVs_cons (EV_var (by rfl) (EVs_cons (EV_var (by rfl) (EVs_nil ⟨_, rfl, rfl, fun t => ⟨rfl, ?_⟩⟩))))
    refine EX0_cons (SX.to0 (SX_excAttr GO EC (EV_var (by rfl) ⟨rfl, EV_var (by rfl) ⟨rfl, rfl, fun dx => ?_⟩⟩)))
    refine EX0_nil ?_
    exact ⟨rfl, t, dx, rfl⟩
theorem PW.init (P : PW G) (n : Nat) : InitFN G (n + 1) 36 := by
  refine absP fun P₀ hP₀ => ?_
  obtain ⟨T, oT, v, nT, F, h1, h2⟩ := P.ini
  refine hP₀ ?_; clear hP₀ P₀
  exact init_ok P.ok F h1 h2 P.noVE n
theorem SX_rs {n : Nat} {sc : Scope} {cn : Str} {Cl : Addr} {x : Str} {k : Nat} {p1 p2 p3 pos : Pos} (P : PW G) (I : Is C sc) (CN : Can G C (n + 2)) (hm : (cn, Cl) ∈ clsTab) (he : Cl ∈ excTab) (hk : sc.names.lookup cn = some .globalImplicit) (h : X Cl loc mh) (hd : (cn == ("__debug__" : Str)) = false := by decide) :
    SX G C loc mh (.Raise (some (.Call (.Name cn p1) [.Constant (.str x) k p2] [] p3)) none pos) X Rt N :=
  SX_raise P.ok CN ((I.kindOf cn).trans hk) (P.cls _ hm) (P.exc _ he) (P.init n) h hd

end

section
set_option tactic.hygienic false
open PySem PySem.W PyProof.Rows
variable {G : Glb} {C C' : Cx} {loc loc' : Loc} {tmp tmp' : Tmp} {mh hid l l' : MH} {s s' s₁ : Shared}
variable {X : Addr → Loc → MH → Prop} {Q : D → MH → Prop} {Rt : D → MH → Prop} {N : Loc → MH → Prop}
theorem EV_itemT {o i : Expr} {pos : Pos} (h : EV G C loc mh o X fun d1 m1 => EV G C loc m1 i X fun d2 m2 => ITM G C d1 d2 m2 fun d => Q d m2)
    (hs : ∀ v w, subscripted i false v w = operate [v, w] (getItem v w) := by intro _ _; with_unfolding_all rfl) : EV G C loc mh (.Subscript o i pos) X Q := fun tmp hid s R =>
  Subscript_ (h.go R (fun v1 s1 d1 m1 R1 h1 => h1.go R1 (fun v2 s2 d2 m2 R2 h2 => by
    obtain ⟨T, id, a1, a2, a3⟩ := h2 loc tmp hid s2 v1 v2 X R2.pop.pop (R2.tmp _ (.tail _ (.head _))) R2.top
    unfold subscriptTail
    refine wpAny_bind ?_
    rw [getitemInPython_of_ne a2.not_modules]
    refine wpAny_bind (wpAny_specialOf a2 a1 ?_)
    have fin : wpAny (Mo G) C.A (subscripted i false v1 v2) (fun r s₃ => wpAny (Mo G) C.A (letTemporaryGo o v1 r >>= fun u₀ => pure r) (EVq G C loc tmp hid Q) (EErr G C hid X) s₃) (EErr G C hid X) s2 := by
      rw [hs]
      exact wpAny_operating (wpAny_mono a3 (fun r s₃ q => wpAny_bind (wpAny_letTemporaryGo (wpAny_pure q.ev))) fun u₀ u₀ x => x)
    first
      | exact wpAny_pure (wpAny_bind fin)
      | exact wpAny_bind (wpAny_pure (wpAny_bind fin))
      | exact wpAny_bind fin)))
theorem EV_sliceT {o : Expr} {lower upper : Option Expr} {p pos : Pos} (h : EV G C loc mh o X fun d m => EVp G C loc m lower X fun lo m1 => EVp G C loc m1 upper X fun hi m2 => SLC G C d lo hi m2 fun d' => Q d' m2)
    (hs : ∀ v w, subscripted (.Slice lower upper none p) false v w = operate [w, v] (getItem v w) := by intro _ _; with_unfolding_all rfl) :
    EV G C loc mh (.Subscript o (.Slice lower upper none p) pos) X Q := fun tmp hid s R => by
  refine Subscript_ (h.go R (fun v1 s1 d1 m1 R1 h1 => wpAny_Slice (h1.go R1 (fun vl s2 lo m2 pl R2 h2 => h2.go R2 (fun vu s3 hi m3 pu R3 h3 => ?_)))))
  rw [evalPart_none]
  refine wpAny_pure ?_
  have R4 := R3.alloc { cls := .type "slice", data := .fields #[vl, vu, .none] } s3.toks
  obtain ⟨T, id, a1, a2, a3⟩ := h3 loc tmp hid _ v1 _ vl vu X R4.pop R4.top (Heap.IsSliceOf.new _ _ _ _) pl pu
  unfold subscriptTail
  refine wpAny_bind ?_
  rw [getitemInPython_of_ne a2.not_modules]
  refine wpAny_bind (wpAny_specialOf a2 a1 ?_)
  have fin : wpAny (Mo G) C.A (subscripted (.Slice lower upper none p) false v1 (.ref s3.heap.objs.size)) (fun r s₃ => wpAny (Mo G) C.A (letTemporaryGo o v1 r >>= fun u₀ => pure r) (EVq G C loc tmp hid Q) (EErr G C hid X) s₃) (EErr G C hid X) { s3 with heap := s3.heap.push { cls := .type "slice", data := .fields #[vl, vu, .none] } } := by
    rw [hs]
    exact wpAny_operating (wpAny_mono a3 (fun r s₃ q => wpAny_bind (wpAny_letTemporaryGo (wpAny_pure q.ev))) fun u₀ u₀ x => x)
  first
    | exact wpAny_pure (wpAny_bind fin)
    | exact wpAny_bind (wpAny_pure (wpAny_bind fin))
    | exact wpAny_bind fin


end

section
set_option tactic.hygienic false
open PySem PySem.W PyProof.Rows
variable {G : Glb} {C C' : Cx} {loc loc' : Loc} {tmp tmp' : Tmp} {mh hid l l' : MH} {s s' s₁ : Shared}
section guards
theorem tm_isinstance : (("isinstance" : Str), Value.builtin "isinstance") ∈ typTab := by decide +kernel
theorem tm_len : (("len" : Str), Value.builtin "len") ∈ typTab := by decide +kernel
theorem tm_min : (("min" : Str), Value.builtin "min") ∈ typTab := by decide +kernel
theorem tm_abs : (("abs" : Str), Value.builtin "abs") ∈ typTab := by decide +kernel
theorem tm_sum : (("sum" : Str), Value.builtin "sum") ∈ typTab := by decide +kernel
theorem tm_int : (("int" : Str), Value.type "int") ∈ typTab := by decide +kernel
theorem tm_bytes : (("bytes" : Str), Value.type "bytes") ∈ typTab := by decide +kernel
theorem tm_range : (("range" : Str), Value.type "range") ∈ typTab := by decide +kernel
theorem tm_enumerate : (("enumerate" : Str), Value.type "enumerate") ∈ typTab := by decide +kernel
theorem tm_list : (("list" : Str), Value.type "list") ∈ typTab := by decide +kernel
theorem tm_bool : (("bool" : Str), Value.type "bool") ∈ typTab := by decide +kernel
theorem tm_str : (("str" : Str), Value.type "str") ∈ typTab := by decide +kernel
theorem cm_DELTA : (("DELTA" : Str), (3 : Int)) ∈ ([("DELTA", 3), ("LZMA2", 33), ("MOST_FILTERS", 4), ("MOST_DICTIONARY", 4294967295)] : List (Str × Int)) := by decide +kernel
theorem cm_LZMA2 : (("LZMA2" : Str), (33 : Int)) ∈ ([("DELTA", 3), ("LZMA2", 33), ("MOST_FILTERS", 4), ("MOST_DICTIONARY", 4294967295)] : List (Str × Int)) := by decide +kernel
theorem cm_MOST_FILTERS : (("MOST_FILTERS" : Str), (4 : Int)) ∈ ([("DELTA", 3), ("LZMA2", 33), ("MOST_FILTERS", 4), ("MOST_DICTIONARY", 4294967295)] : List (Str × Int)) := by decide +kernel
theorem cm_MOST_DICTIONARY : (("MOST_DICTIONARY" : Str), (4294967295 : Int)) ∈ ([("DELTA", 3), ("LZMA2", 33), ("MOST_FILTERS", 4), ("MOST_DICTIONARY", 4294967295)] : List (Str × Int)) := by decide +kernel
theorem rm_CutShort : (("CutShort" : Str), (52 : Addr)) ∈ clsTab := by decide +kernel
theorem rm_BadHeader : (("BadHeader" : Str), (64 : Addr)) ∈ clsTab := by decide +kernel
theorem rm_BadNumber : (("BadNumber" : Str), (76 : Addr)) ∈ clsTab := by decide +kernel
theorem rm_Unsupported : (("Unsupported" : Str), (88 : Addr)) ∈ clsTab := by decide +kernel
theorem rm_BadArgument : (("BadArgument" : Str), (100 : Addr)) ∈ clsTab := by decide +kernel
theorem fm_number : (("number" : Str), (109 : Addr), (13 : Nat)) ∈ fnTab := by decide +kernel
theorem fm_read_number : (("read_number" : Str), (116 : Addr), (14 : Nat)) ∈ fnTab := by decide +kernel
theorem fm_need_distance : (("need_distance" : Str), (123 : Addr), (15 : Nat)) ∈ fnTab := by decide +kernel
theorem fm_delta_packed : (("delta_packed" : Str), (128 : Addr), (16 : Nat)) ∈ fnTab := by decide +kernel
theorem fm_delta_unpacked : (("delta_unpacked" : Str), (135 : Addr), (17 : Nat)) ∈ fnTab := by decide +kernel
theorem fm_dictionary_size : (("dictionary_size" : Str), (142 : Addr), (18 : Nat)) ∈ fnTab := by decide +kernel
theorem fm_dictionary_octet : (("dictionary_octet" : Str), (147 : Addr), (19 : Nat)) ∈ fnTab := by decide +kernel
theorem fm_read_chain : (("read_chain" : Str), (215 : Addr), (22 : Nat)) ∈ fnTab := by decide +kernel
theorem fm_need_count : (("need_count" : Str), (222 : Addr), (24 : Nat)) ∈ fnTab := by decide +kernel
theorem fm_end_of : (("end_of" : Str), (229 : Addr), (25 : Nat)) ∈ fnTab := by decide +kernel
theorem fm__law_pool : (("_law_pool" : Str), (314 : Addr), (28 : Nat)) ∈ fnTab := by decide +kernel
theorem fm__law_take : (("_law_take" : Str), (321 : Addr), (29 : Nat)) ∈ fnTab := by decide +kernel
theorem fm__law_value : (("_law_value" : Str), (328 : Addr), (30 : Nat)) ∈ fnTab := by decide +kernel
theorem fm__law_digits : (("_law_digits" : Str), (333 : Addr), (31 : Nat)) ∈ fnTab := by decide +kernel
theorem fm__law_written : (("_law_written" : Str), (340 : Addr), (32 : Nat)) ∈ fnTab := by decide +kernel
theorem fm__law_one : (("_law_one" : Str), (345 : Addr), (33 : Nat)) ∈ fnTab := by decide +kernel
theorem fm__law_all : (("_law_all" : Str), (352 : Addr), (34 : Nat)) ∈ fnTab := by decide +kernel
theorem fm__law_told : (("_law_told" : Str), (359 : Addr), (35 : Nat)) ∈ fnTab := by decide +kernel
theorem fm__law_stream : (("_law_stream" : Str), (364 : Addr), (36 : Nat)) ∈ fnTab := by decide +kernel
theorem fm__law_numbers_right : (("_law_numbers_right" : Str), (371 : Addr), (37 : Nat)) ∈ fnTab := by decide +kernel
theorem fm__law_text : (("_law_text" : Str), (376 : Addr), (38 : Nat)) ∈ fnTab := by decide +kernel
theorem fm__law_gap : (("_law_gap" : Str), (383 : Addr), (39 : Nat)) ∈ fnTab := by decide +kernel
theorem fm__law_apart : (("_law_apart" : Str), (390 : Addr), (40 : Nat)) ∈ fnTab := by decide +kernel
theorem fm__law_refused : (("_law_refused" : Str), (397 : Addr), (41 : Nat)) ∈ fnTab := by decide +kernel
theorem fm__law_deltas_right : (("_law_deltas_right" : Str), (402 : Addr), (42 : Nat)) ∈ fnTab := by decide +kernel
theorem fm__law_least : (("_law_least" : Str), (414 : Addr), (44 : Nat)) ∈ fnTab := by decide +kernel
theorem fm__law_octet : (("_law_octet" : Str), (421 : Addr), (45 : Nat)) ∈ fnTab := by decide +kernel
theorem fm__law_size : (("_law_size" : Str), (428 : Addr), (46 : Nat)) ∈ fnTab := by decide +kernel
theorem fm__law_dictionaries_right : (("_law_dictionaries_right" : Str), (433 : Addr), (47 : Nat)) ∈ fnTab := by decide +kernel
theorem fm__law_filters : (("_law_filters" : Str), (440 : Addr), (48 : Nat)) ∈ fnTab := by decide +kernel
theorem fm__law_read : (("_law_read" : Str), (447 : Addr), (49 : Nat)) ∈ fnTab := by decide +kernel
theorem fm__law_filters_right : (("_law_filters_right" : Str), (452 : Addr), (50 : Nat)) ∈ fnTab := by decide +kernel
structure Nx (K K' : Loc → MH → Prop) : Prop where
  go : ∀ l m, K l m → K' l m
theorem EX_consA {st : Stmt} {rest : List Stmt} {X : Addr → Loc → MH → Prop} {Rt : D → MH → Prop} {N : Loc → MH → Prop} (h : ∀ K', Nx (fun l m => EX G C l m rest X Rt N) K' → SX G C loc mh st X Rt K') : EX G C loc mh (st :: rest) X Rt N := EX_cons (h _ ⟨fun u₀ u₀ x => x⟩)
theorem EX0_consA {st : Stmt} {rest : List Stmt} {X : Addr → Loc → MH → Prop} {Rt : D → MH → Prop} {N : Loc → MH → Prop} (h : ∀ K', Nx (fun l m => EX0 G C l m rest X Rt N) K' → SX0 G C loc mh st X Rt K') : EX0 G C loc mh (st :: rest) X Rt N := EX0_cons (h _ ⟨fun u₀ u₀ x => x⟩)
theorem EXX_consA {st : Stmt} {rest : List Stmt} {X : Addr → Loc → MH → Prop} {Rt : D → MH → Prop} {N : Loc → MH → Prop} (h : ∀ K', Nx (fun l m => EXX G C l m rest X Rt N) K' → SXX G C loc mh st X Rt K') : EXX G C loc mh (st :: rest) X Rt N := EXX_cons (h _ ⟨fun u₀ u₀ x => x⟩)
theorem EXX0_consA {st : Stmt} {rest : List Stmt} {X : Addr → Loc → MH → Prop} {Rt : D → MH → Prop} {N : Loc → MH → Prop} (h : ∀ K', Nx (fun l m => EXX0 G C l m rest X Rt N) K' → SXX0 G C loc mh st X Rt K') : EXX0 G C loc mh (st :: rest) X Rt N := EXX0_cons (h _ ⟨fun u₀ u₀ x => x⟩)
theorem EX.letL {ss : List Stmt} {X : Addr → Loc → MH → Prop} {Rt : D → MH → Prop} {N : Loc → MH → Prop} (h : let L := loc; EX G C L mh ss X Rt N) : EX G C loc mh ss X Rt N := h
theorem EX0.letL {ss : List Stmt} {X : Addr → Loc → MH → Prop} {Rt : D → MH → Prop} {N : Loc → MH → Prop} (h : let L := loc; EX0 G C L mh ss X Rt N) : EX0 G C loc mh ss X Rt N := h
theorem EXX.letL {ss : List Stmt} {X : Addr → Loc → MH → Prop} {Rt : D → MH → Prop} {N : Loc → MH → Prop} (h : let L := loc; EXX G C L mh ss X Rt N) : EXX G C loc mh ss X Rt N := h
theorem EXX0.letL {ss : List Stmt} {X : Addr → Loc → MH → Prop} {Rt : D → MH → Prop} {N : Loc → MH → Prop} (h : let L := loc; EXX0 G C L mh ss X Rt N) : EXX0 G C loc mh ss X Rt N := h
theorem EX0.letR {ss : List Stmt} {X : Addr → Loc → MH → Prop} {Rt : D → MH → Prop} {N : Loc → MH → Prop} (h : let X' := X; let R' := Rt; let N' := N; EX0 G C loc mh ss X' R' N') : EX0 G C loc mh ss X Rt N := h
theorem EXX0.letR {ss : List Stmt} {X : Addr → Loc → MH → Prop} {Rt : D → MH → Prop} {N : Loc → MH → Prop} (h : let X' := X; let R' := Rt; let N' := N; EXX0 G C loc mh ss X' R' N') : EXX0 G C loc mh ss X Rt N := h
theorem EX.letN {ss : List Stmt} {X : Addr → Loc → MH → Prop} {Rt : D → MH → Prop} {N : Loc → MH → Prop} (h : let N' := N; EX G C loc mh ss X Rt N') : EX G C loc mh ss X Rt N := h
theorem EXX.letN {ss : List Stmt} {X : Addr → Loc → MH → Prop} {Rt : D → MH → Prop} {N : Loc → MH → Prop} (h : let N' := N; EXX G C loc mh ss X Rt N') : EXX G C loc mh ss X Rt N := h
theorem TT.letQ {e : Expr} {X : Addr → Loc → MH → Prop} {Q : Bool → MH → Prop} (h : let Q' := Q; TT G C loc mh e X Q') : TT G C loc mh e X Q := h
theorem wF {p q A B : Prop} (d : ¬ p) (h : B) : (p → A) ∧ (q → B) := ⟨fun x => absurd x d, fun u₀ => h⟩
theorem wT {p q A B : Prop} (d : ¬ q) (h : A) : (p → A) ∧ (q → B) := ⟨fun u₀ => h, fun x => absurd x d⟩
theorem FN.pure {n k : Nat} {f : Value} {ds : List D} {V : D} {mh2 : MH} {X : Addr → MH → Prop} {Q : D → MH → Prop} (hk : k ≤ n) (h : ∀ X, FN G k f ds mh X (fun d m => d = V ∧ m = mh2)) (q : Q V mh2) : FN G n f ds mh X Q :=
  FN.more hk ((h X).mono (fun d m e => by rw [e.1, e.2]; exact q) fun u₀ u₀ z => z)
theorem FNX.pure {n k : Nat} {f : Value} {ds : List D} {V : D} {mh2 : MH} {X : Addr → MH → Prop} {Q : D → MH → Prop} (hk : k ≤ n) (h : ∀ X, FNX G k f ds mh X (fun d m => d = V ∧ m = mh2)) (q : Q V mh2) : FNX G n f ds mh X Q := fun C loc tmp hid s vs c R W =>
  codeX_mono (h (fun u₀ u₀ => False) C loc tmp hid s vs (c.less hk) R W) fun r s' q' => by
    cases r with
    | ok f => cases f with
      | ret v =>
        obtain ⟨d, m, R', e⟩ := q'
        exact ⟨d, m, R', by rw [e.1, e.2]; exact q⟩
      | _ => exact q'
    | error v => exact EErr.mono (fun c l m z => z.2.elim) q'
end guards
end

section macs
open Lean
def mFirst (l : List (TSyntax `tactic)) : MacroM (TSyntax `tactic) := match l.reverse with
  | [] => `(tactic| fail)
  | t :: ts => ts.foldlM (fun r t => `(tactic| first | $t:tactic | $r:tactic)) t
def mBy (t : TSyntax `tactic) : MacroM Term := `(by $t:tactic)
def mExact (t : Term) : MacroM (TSyntax `tactic) := `(tactic| exact $t)
def mUn : MacroM (TSyntax `tactic) := `(tactic| with_unfolding_all rfl)
def mAs : MacroM (TSyntax `tactic) := `(tactic| assumption)
def mHole : MacroM Term := `(?_)
def mId (s : String) : Term := mkIdent s.toName
def mApp (n : String) (l : List Term) : Term := Syntax.mkApp (mId n) l.toArray
def mAlts (p : String) (l : String) : MacroM Term := do
  let ts ← (l.splitOn " ").mapM fun n => mExact (mId (p ++ n))
  mBy (← mFirst ts)
def mLam (t : Term) : MacroM Term := `(fun $(mkIdent `kN) $(mkIdent `hN) => $t)
def mIntro (t : TSyntax `tactic) : MacroM Term := `(by intro _; $t:tactic)
def mIntro2 (t : TSyntax `tactic) : MacroM Term := `(by intro _ _; $t:tactic)
def mDec : MacroM Term := `(by decide)
def mLam3 (t : Term) : MacroM Term := `(fun $(mkIdent `kN) $(mkIdent `hN) $(mkIdent `hN) => $t)
def mAny : MacroM Term := `(_)
def mArg (s : String) : MacroM Term := do
  let a ← mBy (← mAs)
  let u ← mUn
  let r ← mBy u
  let h ← mHole
  if s == "?" then pure h
  else if s == "A" then pure a
  else if s == "R" then pure r
  else if s == "J" then mIntro u
  else if s == "I" then mBy (← mFirst [← mAs, ← mExact (mApp "Is.sc" [a])])
  else if s == "D" then mDec
  else if s == "_" then mAny
  else if s == "K" then mIntro2 u
  else if s == "L" then mLam h
  else if s == "L0" then mLam (mApp "SX.to0" [h])
  else if s == "LX" then mLam (mApp "SXX.to0" [h])
  else if s == "S" then pure (mApp "Is.sto" [a, ← mBy (← mFirst [← mExact (mApp "Or.inl" [r]), ← mExact (mApp "Or.inr" [r])])])
  else if s == "N" then pure (mApp "Is.inter" [a, r])
  else if s == "M" then mAlts "tm_" "isinstance len min abs sum"
  else if s == "T" then mAlts "tm_" "int bytes range enumerate list bool str"
  else if s == "C" then mAlts "cm_" "DELTA LZMA2 MOST_FILTERS MOST_DICTIONARY"
  else if s == "E" then mAlts "rm_" "CutShort BadHeader BadNumber Unsupported BadArgument"
  else if s == "F" then mAlts "fm_" "_law_take number read_number need_distance delta_packed delta_unpacked dictionary_size dictionary_octet read_chain need_count end_of _law_pool _law_value _law_digits _law_written _law_one _law_all _law_told _law_stream _law_numbers_right _law_text _law_gap _law_apart _law_refused _law_deltas_right _law_least _law_octet _law_size _law_dictionaries_right _law_filters _law_read _law_filters_right"
  else if s == "G" then mAlts "fm_" "number delta_unpacked _law_written _law_numbers_right _law_refused _law_deltas_right _law_dictionaries_right _law_filters_right"
  else mLam3 (mId s)
def mTerm (ws : List String) : MacroM Term := match ws with
  | [] => Macro.throwUnsupported
  | n :: as => do
    let as ← as.mapM mArg
    pure (Syntax.mkApp (mkIdent n.toName) as.toArray)
def mAlt (s : String) : MacroM (TSyntax `tactic) := do
  match s.splitOn "/" with
  | [o, i] =>
    let t ← mTerm (i.splitOn " ")
    `(tactic| refine $(mkIdent o.toName) $t)
  | _ =>
    let t ← mTerm (s.splitOn " ")
    `(tactic| refine $t)
def mSet (l : String) : MacroM (List (TSyntax `tactic)) := (l.splitOn "|").mapM mAlt
def mShow (h : Term) (l : List (TSyntax `tactic)) : MacroM (TSyntax `tactic) := do
  let t ← mFirst l
  `(tactic| (show $h; $t:tactic))
def mGrp (h : Term) (l : String) : MacroM (TSyntax `tactic) := do mShow h (← mSet l)
def mLet (a b : String) : MacroM (TSyntax `tactic) := do
  let x := mId a
  let y ← mAlt b
  `(tactic| (refine $x ?_; intro _; $y:tactic))
def mOf (h : String) (n : Nat) (l : String) : MacroM (TSyntax `tactic) := do mGrp (mApp h (List.replicate n (← mAny))) l
def mAt (h : String) (e : Term) (l : String) : MacroM (TSyntax `tactic) := do
  let a ← mAny
  mGrp (mApp h [a, a, a, a, e, a, a]) l
def mSets (l : List (String × Nat × String)) : MacroM (List (TSyntax `tactic)) := l.mapM fun p => mOf p.1 p.2.1 p.2.2
def mName : MacroM Term := do
  let a ← mAny
  pure (mApp "Expr.Name" [a, a])
def mCall : MacroM Term := do
  let a ← mAny
  pure (mApp "Expr.Call" [← mName, a, mId "List.nil", a])
def mLast : MacroM (List (TSyntax `tactic)) := do
  pure ([← `(tactic| refine ⟨_, rfl, ?_⟩)] ++ (← mSet "wF D ?|wT D ?"))
def mW : MacroM (List (TSyntax `tactic)) := do
  let nm ← mAt "EV" (← mName) "EV_tyname A I T R ?|EV_con A I C R ?"
  let cl ← mAt "EV" (← mCall) "EV_bf A I M R ? D D J J|EV_ty A I T R ? D D J J|EV_fn A I A F R ? D J"
  let ev ← mShow (mApp "EV" (List.replicate 7 (← mAny))) ((← mSet "EV_pure R ?") ++ [nm, cl] ++ (← mSet "EV_bin ?|EV_cmp ?|EV_itemT ?|EV_sliceT ?|EV_neg ?|EV_not ? J|EV_ifexp ?"))
  let g ← mSets [("EVs", 7, "EVs_pure R ?|EVs_cons ? J"), ("TT", 7, "TT_pure R ?|TT_bool ?|TT_not ?|TT_cmp ?|TT_chain ? R J|TT_val ? K"), ("OP", 7, "OP_add ?|OP_sub ?|OP_and ?|OP_or ?"),
    ("CMP", 7, "CMP_lt ?|CMP_le ?|CMP_gt ?|CMP_ge ?|CMP_eq ?|CMP_ne ?"), ("AT", 8, "AT_and_nil ?|AT_or_nil ?|AT_and ?|AT_or ?"), ("SX", 8, "SX_if ?|SX_ret ?|SX_assign S ? J|SX_expr ? J N|SX_rs A A A E D R ?"),
    ("BF", 6, "BF_isinst ii_int_int ?|BF_isinst ii_none_int ?|BF_isinst ii_str_int ?|BF_isinst ii_int_bool ?|BF_isinst ii_str_str ?|BF_abs ?|BF_int_bool ?")]
  pure ([ev] ++ g ++ [← mLet "EX0.letL" "EX0_consA L0", ← mLet "EX.letL" "EX_consA L"] ++ (← mSet "EX0_nil ?|EX_nil ?|EVp_none ?|EVp_some ?|TC_one ?|TC_link ?|Nx.go A _ _ ?") ++ (← mLast))
def mX : MacroM (List (TSyntax `tactic)) := do
  let nm ← mAt "EVX" (← mName) "EV.x ?"
  let cl ← mAt "EVX" (← mCall) "EV.x ?"
  let ev ← mShow (mApp "EVX" (List.replicate 7 (← mAny))) ((← mSet "EV.x/EV_pure R ?|EVX_fn A I A G R ? D J") ++ [nm, cl] ++ (← mSet "EVX_bin ?"))
  let g ← mSets [("EVsX", 7, "EVs.x/EVs_pure R ?|EVsX_cons ? J"), ("TTX", 7, "TT.x/TT_pure R ?|TTX_bool ?|TTX_not ?|TTX_cmp ?|TTX_val ? K"), ("ATX", 8, "ATX_and ?|ATX_or ?|AT.x/AT_and_nil ?|AT.x/AT_or_nil ?"),
    ("SXX", 8, "SXX_if ?|SXX_ret ?|SXX_assign S ? J|SXX_expr ? N J|SX.x/SX_rs A A A E D R ?")]
  pure ([ev] ++ g ++ [← mLet "EXX0.letL" "EXX0_consA LX", ← mLet "EXX.letL" "EXX_consA L"] ++ (← mSet "EXX0_nil ?|EXX_nil ?") ++ [← `(tactic| walk_at "w")])
end macs

open PySem PySem.W PyProof.Rows
local macro_rules | `(tactic| walk_at "w") => do
  let t ← mFirst (← mW)
  `(tactic| with_reducible $t:tactic)
local macro_rules | `(tactic| walk_at "n") => do
  let t ← mAlt "Nx.go A _ _ ?"
  `(tactic| try with_reducible $t:tactic)

section
set_option tactic.hygienic false
open PySem PySem.W PyProof.Rows
variable {G : Glb} {C C' : Cx} {loc loc' : Loc} {tmp tmp' : Tmp} {mh hid l l' : MH} {s s' s₁ : Shared}
variable {X : Addr → Loc → MH → Prop} {Q : D → MH → Prop} {Rt : D → MH → Prop} {N : Loc → MH → Prop}
theorem need_distance_ok (P : PW G) {k : Int} (h1 : 1 ≤ k) (h2 : k ≤ 256) {X : Addr → MH → Prop} : FN G 1 (.ref 123) [.int k] mh X fun d m => d = .none ∧ m = mh := by
  refine (P.fun (x := "need_distance") (a := 123) (i := 15) (by decide)).of (ps := ["distance"]) P.ok rfl rfl rfl (by decide) (by decide) (by decide) rfl (fun fd vs a b c => by obtain ⟨x, rfl⟩ := len1 c; unfold bindArgs; rw [a, b]; kernel_rfl) fun C I CN => ?_
  refine EX0.letR ?_; intro X₁ R₁ N₁
  refine EX0_consA fun K' hK => (SX.to0 ?_)
  repeat walk_at "w"
  refine ⟨fun h => ?_, fun h => ?_⟩
  · repeat walk_at "w"
    refine ⟨fun h => ?_, fun h => ?_⟩
    · simp at h; lia
    · repeat walk_at "w"
      exact ⟨rfl, rfl⟩
  · simp at h; lia

end

section
set_option tactic.hygienic false
open PySem PySem.W PyProof.Rows
variable {G : Glb} {C C' : Cx} {loc loc' : Loc} {tmp tmp' : Tmp} {mh hid l l' : MH} {s s' s₁ : Shared}
variable {X : Addr → Loc → MH → Prop} {Q : D → MH → Prop} {Rt : D → MH → Prop} {N : Loc → MH → Prop}
noncomputable def OddD (d : D) : Prop := (∃ k : Int, d = .int k ∧ (k < 1 ∨ 256 < k)) ∨ d = .none ∨ ∃ y, d = .str y
theorem need_distance_no (P : PW G) {d : D} (h : OddD d) : FN G 3 (.ref 123) [d] mh (fun c m => c = 100 ∧ m = mh) fun u₀ u₀ => False := by
  refine (P.fun (x := "need_distance") (a := 123) (i := 15) (by decide)).of (ps := ["distance"]) P.ok rfl rfl rfl (by decide) (by decide) (by decide) rfl (fun fd vs a b c => by obtain ⟨x, rfl⟩ := len1 c; unfold bindArgs; rw [a, b]; kernel_rfl) fun C I CN => ?_
  refine EX0.letR ?_; intro X₁ R₁ N₁
  refine EX0_consA fun K' hK => (SX.to0 ?_)
  rcases h with ⟨k, rfl, hk⟩ | rfl | ⟨y, rfl⟩
  · repeat walk_at "w"
    refine ⟨fun h1 => ?_, fun h => ?_⟩
    · repeat walk_at "w"
      refine ⟨fun h => ?_, fun h => ?_⟩
      · repeat walk_at "w"
        exact ⟨rfl, rfl⟩
      · simp at h h1; lia
    · repeat walk_at "w"
      exact ⟨rfl, rfl⟩
  · repeat walk_at "w"
    exact ⟨rfl, rfl⟩
  · repeat walk_at "w"
    exact ⟨rfl, rfl⟩
theorem need_count_ok (P : PW G) {k : Int} (h1 : 0 ≤ k) {X : Addr → MH → Prop} : FN G 1 (.ref 222) [.int k] mh X fun d m => d = .none ∧ m = mh := by
  refine (P.fun (x := "need_count") (a := 222) (i := 24) (by decide)).of (ps := ["count"]) P.ok rfl rfl rfl (by decide) (by decide) (by decide) rfl (fun fd vs a b c => by obtain ⟨x, rfl⟩ := len1 c; unfold bindArgs; rw [a, b]; kernel_rfl) fun C I CN => ?_
  refine EX0.letR ?_; intro X₁ R₁ N₁
  refine EX0_consA fun K' hK => (SX.to0 ?_)
  repeat walk_at "w"
  refine ⟨fun h => ?_, fun h => ?_⟩
  · simp at h; lia
  · repeat walk_at "w"
    exact ⟨rfl, rfl⟩
theorem end_of_ok (P : PW G) {l : List UInt8} (hz : l.length ≤ 1099511627776) {X : Addr → MH → Prop} : FN G 1 (.ref 229) [.bytes l, .int 0, .none] mh X fun d m => d = .int l.length ∧ m = mh := by
  refine (P.fun (x := "end_of") (a := 229) (i := 25) (by decide)).of (ps := ["octets", "start", "end"]) P.ok rfl rfl rfl (by decide) (by decide) (by decide) rfl (fun fd vs a b c => by obtain ⟨x, y, z, rfl⟩ := len3 c; unfold bindArgs; rw [a, b]; kernel_rfl) fun C I CN => ?_
  refine EX0.letR ?_; intro X₁ R₁ N₁
  refine EX0_consA fun K' hK => (SX.to0 ?_)
  repeat walk_at "w"
  refine CMP_is (c := true) (fun u₀ u₀ u₀ x => by rw [x.none_inv]; rfl) ?_
  repeat walk_at "w"
  refine BF_len_bytes hz ?_
  repeat walk_at "w"
  refine ⟨fun h => ?_, fun h => by simp at h⟩
  repeat walk_at "w"
  refine BF_len_bytes hz ?_
  repeat walk_at "w"
  refine ⟨fun h => by simp at h, fun h => ?_⟩
  repeat walk_at "w"
  exact ⟨rfl, rfl⟩
theorem dictionary_size_ok (P : PW G) {k : Int} (h0 : 0 ≤ k) (h1 : k ≤ 40) {X : Addr → MH → Prop} : FN G 1 (.ref 142) [.int k] mh X fun d m => d = .int (if k = 40 then 4294967295 else (Builtin.bitOr 2 (Builtin.bitAnd k 1)) * 2 ^ (k.fdiv 2 + 11).toNat) ∧ m = mh := by
  refine (P.fun (x := "dictionary_size") (a := 142) (i := 18) (by decide)).of (ps := ["octet"]) P.ok rfl rfl rfl (by decide) (by decide) (by decide) rfl (fun fd vs a b c => by obtain ⟨x, rfl⟩ := len1 c; unfold bindArgs; rw [a, b]; kernel_rfl) fun C I CN => ?_
  refine EX0.letR ?_; intro X₁ R₁ N₁
  refine EX0_consA fun K' hK => (SX.to0 ?_)
  repeat walk_at "w"
  refine ⟨fun h => ?_, fun h => ?_⟩
  · simp at h; lia
  · repeat walk_at "w"
    refine ⟨fun h => ?_, fun h => ?_⟩
    · repeat walk_at "w"
      simp at h
      exact ⟨by rw [if_pos h], rfl⟩
    · repeat walk_at "w"
      simp at h
      refine OP_floordiv (by decide) (by decide) ?_
      repeat walk_at "w"
      have e1 : k.fdiv 2 = k / 2 := Int.fdiv_eq_ediv_of_nonneg _ (by decide)
      refine OP_lshift (by lia) (by lia) ?_ ?_
      · rw [show Builtin.bitAnd k 1 = k % 2 from bitAnd_m1 k]
        rcases Int.emod_two_eq k with e | e <;> rw [e] <;> decide
      · exact ⟨by rw [if_neg h], rfl⟩
theorem dictionary_size_no (P : PW G) {k : Int} (h1 : 40 < k) : FN G 3 (.ref 142) [.int k] mh (fun c m => c = 64 ∧ m = mh) fun u₀ u₀ => False := by
  refine (P.fun (x := "dictionary_size") (a := 142) (i := 18) (by decide)).of (ps := ["octet"]) P.ok rfl rfl rfl (by decide) (by decide) (by decide) rfl (fun fd vs a b c => by obtain ⟨x, rfl⟩ := len1 c; unfold bindArgs; rw [a, b]; kernel_rfl) fun C I CN => ?_
  refine EX0.letR ?_; intro X₁ R₁ N₁
  refine EX0_consA fun K' hK => (SX.to0 ?_)
  repeat walk_at "w"
  refine ⟨fun h => ?_, fun h => by simp at h; lia⟩
  repeat walk_at "w"
  exact ⟨rfl, rfl⟩

end

section
set_option tactic.hygienic false
open PySem PySem.W PyProof.Rows
variable {G : Glb} {C C' : Cx} {loc loc' : Loc} {tmp tmp' : Tmp} {mh hid l l' : MH} {s s' s₁ : Shared}
variable {X : Addr → Loc → MH → Prop} {Q : D → MH → Prop} {Rt : D → MH → Prop} {N : Loc → MH → Prop}
noncomputable def IsPool (k : Nat) (d : Int) (o : AO) : Prop := ∃ A B c : Int, o = .list [.int A, .int B, .int c, .int d] ∧ 0 ≤ A ∧ A < 10 ^ 150 ∧ 0 ≤ B ∧ B ≤ k ∧ 0 ≤ c ∧ c < 1000003
theorem IsPool.up {k k' : Nat} {d : Int} {o : AO} (h : IsPool k d o) (hk : k ≤ k') : IsPool k' d o := by
  refine absP fun P₀ hP₀ => ?_
  obtain ⟨A, B, c, e, h1, h2, h3, h4, h5⟩ := h
  refine hP₀ ?_; clear hP₀ P₀
  exact ⟨A, B, c, e, h1, h2, h3, by lia, h5⟩
theorem law_take_ok (P : PW G) {p : Addr} {o : AO} {k : Nat} {d many : Int} (hp : IsPool k d o) (hk : k < 1000000000) (h1 : 1 ≤ many) (h2 : many < 2 ^ 64) {X : Addr → MH → Prop} :
    FN G 1 (.ref 321) [.ptr p, .int many] [(p, o)] X fun r m => ∃ v o', r = .int v ∧ 0 ≤ v ∧ v < many ∧ IsPool (k + 1) d o' ∧ m = [(p, o')] := by
  obtain ⟨A, B, c, rfl, hA, hA2, hB, hB2, hc, hc2⟩ := hp
  refine (P.fun (x := "_law_take") (a := 321) (i := 29) (by decide)).of (ps := ["pool", "many"]) P.ok rfl rfl rfl (by decide) (by decide) (by decide) rfl (fun fd vs a b c => by obtain ⟨x, y, rfl⟩ := len2 c; unfold bindArgs; rw [a, b]; kernel_rfl) fun C I CN => ?_
  refine EX0.letR ?_; intro X₁ R₁ N₁
  have hm : ∀ {a b c d : D} , LM [(p, AO.list [a, b, c, d])] p [a, b, c, d] := .inl (.head _)
  walk_at "n"
  refine EX0_consA fun K' hK => (SX.to0 ?_)
  repeat walk_at "w"
  refine ITM_list hm (by decide) (by decide) (x := .int A) rfl ?_
  repeat walk_at "w"
  have hlog : many.natAbs.log2 < 9000 := by
    have : many.natAbs.log2 < 64 := (Nat.log2_lt (by lia)).mpr (by lia)
    lia
  refine ⟨fun h => ?_, fun h => ?_⟩
  · repeat walk_at "w"
    refine ITM_list hm (by decide) (by decide) (x := .int A) rfl ?_
    repeat walk_at "w"
    refine OP_mod (by lia) ?_
    repeat walk_at "w"
    refine SX_setItem ?_ (by intro _; with_unfolding_all rfl)
    repeat walk_at "w"
    refine ITM_list hm (by decide) (by decide) (x := .int A) rfl ?_
    repeat walk_at "w"
    refine OP_floordiv (by lia) hlog ?_
    repeat walk_at "w"
    refine ⟨p, [.int A, .int B, .int c, .int d], 0, [(p, .list [.int (A.fdiv many), .int B, .int c, .int d])], rfl, rfl, by decide, by decide, by simp, fun hid => .head, ?_⟩
    repeat walk_at "w"
    have e1 : A.fmod many = A % many := Int.fmod_eq_emod_of_nonneg _ (by lia)
    have e2 : A.fdiv many = A / many := Int.fdiv_eq_ediv_of_nonneg _ (by lia)
    have h3 := Int.emod_nonneg A (show many ≠ 0 by lia)
    have h4 := Int.emod_lt_of_pos A (show 0 < many by lia)
    have h5 := Int.ediv_nonneg hA (show 0 ≤ many by lia)
    have h6 : A / many ≤ A := Int.ediv_le_self _ hA
    exact ⟨_, _, rfl, by rw [e1]; exact h3, by rw [e1]; exact h4, ⟨A.fdiv many, B, c, rfl, by rw [e2]; exact h5, by rw [e2]; lia, hB, by lia, hc, hc2⟩, rfl⟩
  · repeat walk_at "w"
    refine SX_setItem ?_ (by intro _; with_unfolding_all rfl)
    repeat walk_at "w"
    refine ITM_list hm (by decide) (by decide) (x := .int B) rfl ?_
    repeat walk_at "w"
    refine ⟨p, [.int A, .int B, .int c, .int d], 1, [(p, .list [.int A, .int (B + 1), .int c, .int d])], rfl, rfl, by decide, by decide, by simp, fun hid => .head, ?_⟩
    repeat walk_at "w"
    refine ITM_list hm (by decide) (by decide) (x := .int c) rfl ?_
    repeat walk_at "w"
    refine ITM_list hm (by decide) (by decide) (x := .int (B + 1)) rfl ?_
    refine OP_mul (.of_left (by decide)) ?_
    repeat walk_at "w"
    have hb : Builtin.Int.intBits (c + 7919 * (B + 1) + 13) ≤ 64 := intBits_le_64 (by lia) (by lia)
    refine OP_pow (by decide) (by lia) ?_
    repeat walk_at "w"
    refine OP_mod (by decide) ?_
    repeat walk_at "w"
    generalize hx : ((c + 7919 * (B + 1) + 13) ^ (3 : Int).toNat).fmod 2147483647 = x
    have hx0 : 0 ≤ x := by rw [← hx, Int.fmod_eq_emod_of_nonneg _ (by decide)]; exact Int.emod_nonneg _ (by decide)
    have hx1 : x < 2147483647 := by rw [← hx, Int.fmod_eq_emod_of_nonneg _ (by decide)]; exact Int.emod_lt_of_pos _ (by decide)
    refine OP_mul (.of_left (intBits_le_64 (by lia) (by lia))) ?_
    repeat walk_at "w"
    refine OP_mod (by decide) ?_
    repeat walk_at "w"
    refine OP_floordiv (by decide) (by decide) ?_
    repeat walk_at "w"
    refine OP_mod (by lia) ?_
    generalize ((x * x).fmod 2147483629).fdiv 8 = y
    have h3 := Int.emod_nonneg y (show many ≠ 0 by lia)
    have h4 := Int.emod_lt_of_pos y (show 0 < many by lia)
    have e1 : y.fmod many = y % many := Int.fmod_eq_emod_of_nonneg _ (by lia)
    exact ⟨_, _, rfl, by rw [e1]; exact h3, by rw [e1]; exact h4, ⟨A, B + 1, c, rfl, hA, hA2, by lia, by lia, hc, hc2⟩, rfl⟩

end

section
set_option tactic.hygienic false
open PySem PySem.W PyProof.Rows
variable {G : Glb} {C C' : Cx} {loc loc' : Loc} {tmp tmp' : Tmp} {mh hid l l' : MH} {s s' s₁ : Shared}
variable {X : Addr → Loc → MH → Prop} {Q : D → MH → Prop} {Rt : D → MH → Prop} {N : Loc → MH → Prop}
theorem FN.at {n : Nat} {f : Value} {ds : List D} {p : Addr} {o : AO} {mh1 mh2 : MH} {X0 X : Addr → MH → Prop} {R0 Q : D → MH → Prop} (h : FN G n f ds [(p, o)] X0 R0)
    (hq : ∀ r m, R0 r m → ∃ o', m = [(p, o')] ∧ Q r (mh1 ++ (p, o') :: mh2)) (hx : ∀ c m, X0 c m → ∃ o', m = [(p, o')] ∧ X c (mh1 ++ (p, o') :: mh2)) : FN G n f ds (mh1 ++ (p, o) :: mh2) X Q := by
  have P : (mh1 ++ (p, o) :: mh2).Perm ([(p, o)] ++ (mh1 ++ mh2)) := List.perm_middle
  have h2 := h.frame P (Q' := fun r m => ∃ o', m = (p, o') :: (mh1 ++ mh2) ∧ Q r (mh1 ++ (p, o') :: mh2)) (X' := fun c m => ∃ o', m = (p, o') :: (mh1 ++ mh2) ∧ X c (mh1 ++ (p, o') :: mh2))
    (fun r m z => by obtain ⟨o', rfl, q⟩ := hq r m z; exact ⟨o', rfl, q⟩) (fun c m z => by obtain ⟨o', rfl, q⟩ := hx c m z; exact ⟨o', rfl, q⟩)
  refine h2.loose (fun r m z => ?_) (fun c m z => ?_)
  · obtain ⟨o', rfl, q⟩ := z; exact ⟨[], _, List.perm_middle.symm, q⟩
  · obtain ⟨o', rfl, q⟩ := z; exact ⟨[], _, List.perm_middle.symm, q⟩
theorem take0 (P : PW G) {n : Nat} {p : Addr} {o : AO} {k : Nat} {d many : Int} {r : MH} {X : Addr → MH → Prop} {Q : D → MH → Prop} (hp : IsPool k d o) (hk : k < 1000000000) (h1 : 1 ≤ many) (h2 : many < 2 ^ 64)
    (h : ∀ v o', 0 ≤ v → v < many → IsPool (k + 1) d o' → Q (.int v) ((p, o') :: r)) : FN G (n + 1) (.ref 321) [.ptr p, .int many] ((p, o) :: r) X Q :=
  FN.at (mh1 := []) (((law_take_ok P hp hk h1 h2 (X := fun u₀ u₀ => False))).more (by lia)) (fun x m hq1 => by obtain ⟨v, o', e1, e2, e3, e4, e5⟩ := hq1; exact ⟨o', e5, e1 ▸ h v o' e2 e3 e4⟩) fun c m z => z.elim
theorem take1 (P : PW G) {n : Nat} {p : Addr} {o : AO} {q : Addr × AO} {k : Nat} {d many : Int} {r : MH} {X : Addr → MH → Prop} {Q : D → MH → Prop} (hp : IsPool k d o) (hk : k < 1000000000) (h1 : 1 ≤ many) (h2 : many < 2 ^ 64)
    (h : ∀ v o', 0 ≤ v → v < many → IsPool (k + 1) d o' → Q (.int v) (q :: (p, o') :: r)) : FN G (n + 1) (.ref 321) [.ptr p, .int many] (q :: (p, o) :: r) X Q :=
  FN.at (mh1 := [q]) (((law_take_ok P hp hk h1 h2 (X := fun u₀ u₀ => False))).more (by lia)) (fun x m hq2 => by obtain ⟨v, o', e1, e2, e3, e4, e5⟩ := hq2; exact ⟨o', e5, e1 ▸ h v o' e2 e3 e4⟩) fun c m z => z.elim
theorem law_gap_ok (P : PW G) {p : Addr} {o : AO} {k : Nat} {d : Int} (hp : IsPool k d o) (hk : k < 999999000) {X : Addr → MH → Prop} :
    FN G 2 (.ref 383) [.ptr p] [(p, o)] X fun r m => ∃ v o', r = .int v ∧ 1 ≤ v ∧ v ≤ 256 ∧ IsPool (k + 10) d o' ∧ m = [(p, o')] := by
  refine (P.fun (x := "_law_gap") (a := 383) (i := 39) (by decide)).of (ps := ["pool"]) P.ok rfl rfl rfl (by decide) (by decide) (by decide) rfl (fun fd vs a b c => by obtain ⟨x, rfl⟩ := len1 c; unfold bindArgs; rw [a, b]; kernel_rfl) fun C I CN => ?_
  refine EX0.letR ?_; intro X₁ R₁ N₁
  refine EX0_consA fun K' hK => (SX.to0 ?_)
  repeat walk_at "w"
  refine EV_list_dat ?_
  repeat walk_at "w"
  refine take0 P hp (by lia) (by decide) (by decide) fun v1 o1 a1 b1 p1 => ?_
  repeat walk_at "w"
  refine take0 P p1 (by lia) (by decide) (by decide) fun v2 o2 a2 b2 p2 => ?_
  repeat walk_at "w"
  refine EV_list_dat ?_
  repeat walk_at "w"
  refine ⟨by rw [sizeLine_eq]; decide, [.int 256, .int 255], rfl, ?_⟩
  repeat walk_at "w"
  refine take0 P p2 (by lia) (by decide) (by decide) fun v3 o3 a3 b3 p3 => ?_
  obtain ⟨x3, hx3, c3, d3⟩ : ∃ x : Int, ([PyData.int 256, .int 255] : List PyData)[v3.toNat]? = some (.int x) ∧ 1 ≤ x ∧ x ≤ 256 := by
    rcases (show v3 = 0 ∨ v3 = 1 by lia) with rfl | rfl
    · exact ⟨256, rfl, by decide, by decide⟩
    · exact ⟨255, rfl, by decide, by decide⟩
  refine ITM_list_dat a3 (by lia) hx3 ?_
  repeat walk_at "w"
  refine ⟨by rw [sizeLine_eq]; simp, [.int (1 + v1), .int (1 + v2), .int x3], rfl, ?_⟩
  repeat walk_at "w"
  refine take0 P p3 (by lia) (by decide) (by decide) fun v4 o4 a4 b4 p4 => ?_
  obtain ⟨x4, hx4, c4, d4⟩ : ∃ x : Int, ([PyData.int (1 + v1), .int (1 + v2), .int x3] : List PyData)[v4.toNat]? = some (.int x) ∧ 1 ≤ x ∧ x ≤ 256 := by
    rcases (show v4 = 0 ∨ v4 = 1 ∨ v4 = 2 by lia) with rfl | rfl | rfl
    · exact ⟨1 + v1, rfl, by lia, by lia⟩
    · exact ⟨1 + v2, rfl, by lia, by lia⟩
    · exact ⟨x3, rfl, c3, d3⟩
  refine ITM_list_dat a4 (by lia) hx4 ?_
  exact ⟨x4, o4, rfl, c4, d4, p4.up (by lia), rfl⟩
theorem law_value_ok (P : PW G) {p : Addr} {o : AO} {k : Nat} {d : Int} (hp : IsPool k d o) (hk : k < 999999000) {X : Addr → MH → Prop} :
    FN G 2 (.ref 328) [.ptr p] [(p, o)] X fun r m => ∃ v o', r = .int v ∧ -1 ≤ v ∧ v < 2 ^ 64 ∧ IsPool (k + 10) d o' ∧ m = [(p, o')] := by
  refine (P.fun (x := "_law_value") (a := 328) (i := 30) (by decide)).of (ps := ["pool"]) P.ok rfl rfl rfl (by decide) (by decide) (by decide) rfl (fun fd vs a b c => by obtain ⟨x, rfl⟩ := len1 c; unfold bindArgs; rw [a, b]; kernel_rfl) fun C I CN => ?_
  refine EX0.letR ?_; intro X₁ R₁ N₁
  refine EX0_consA fun K' hK => (SX.to0 ?_)
  repeat walk_at "w"
  refine take0 P hp (by lia) (by decide) (by decide) fun v1 o1 a1 b1 p1 => ?_
  repeat walk_at "w"
  refine ⟨fun h => ?_, fun h => ?_⟩
  · repeat walk_at "w"
    refine take0 P p1 (by lia) (by decide) (by decide) fun v2 o2 a2 b2 p2 => ?_
    repeat walk_at "w"
    exact ⟨_, _, rfl, by lia, by lia, p2.up (by lia), rfl⟩
  repeat walk_at "w"
  refine ⟨fun h => ?_, fun h => ?_⟩
  · repeat walk_at "w"
    refine take0 P p1 (by lia) (by decide) (by decide) fun v2 o2 a2 b2 p2 => ?_
    repeat walk_at "w"
    have hi : (Builtin.Int.intBits 128 : Int) = 8 := by decide
    refine OP_pow (by lia) (by rw [hi]; lia) ?_
    repeat walk_at "w"
    refine take0 P p2 (by lia) (by decide) (by decide) fun v3 o3 a3 b3 p3 => ?_
    repeat walk_at "w"
    have e : (1 : Int) ≤ 128 ^ (1 + v2).toNat ∧ (128 : Int) ^ (1 + v2).toNat ≤ 128 ^ 9 := by
      have : v2 = 0 ∨ v2 = 1 ∨ v2 = 2 ∨ v2 = 3 ∨ v2 = 4 ∨ v2 = 5 ∨ v2 = 6 ∨ v2 = 7 ∨ v2 = 8 := by lia
      rcases this with rfl | rfl | rfl | rfl | rfl | rfl | rfl | rfl | rfl <;> decide
    generalize (128 : Int) ^ (1 + v2).toNat = z at e
    exact ⟨_, _, rfl, by lia, by lia, p3.up (by lia), rfl⟩
  repeat walk_at "w"
  refine ⟨fun h => ?_, fun h => ?_⟩
  · repeat walk_at "w"
    refine take0 P p1 (by lia) (by decide) (by decide) fun v2 o2 a2 b2 p2 => ?_
    repeat walk_at "w"
    have hi : (Builtin.Int.intBits 2 : Int) = 2 := by decide
    refine OP_pow (by lia) (by rw [hi]; lia) ?_
    repeat walk_at "w"
    have e1 : (1 : Int) ≤ 2 ^ (1 + v2).toNat := Int.pow_pos (by decide)
    have e2 : (2 : Int) ^ (1 + v2).toNat ≤ 2 ^ 63 := by
      have : (1 + v2).toNat ≤ 63 := by lia
      have := Nat.pow_le_pow_right (show 0 < 2 by decide) this
      exact_mod_cast this
    generalize (2 : Int) ^ (1 + v2).toNat = z at e1 e2 ⊢
    refine take0 P p2 (by lia) (by lia) (by lia) fun v3 o3 a3 b3 p3 => ?_
    exact ⟨_, _, rfl, by lia, by lia, p3.up (by lia), rfl⟩
  · repeat walk_at "w"
    refine OP_pow (by decide) (by decide) ?_
    repeat walk_at "w"
    refine take0 P p1 (by lia) (by decide) (by decide) fun v2 o2 a2 b2 p2 => ?_
    repeat walk_at "w"
    have e : (2 : Int) ^ (63 : Int).toNat = 9223372036854775808 := by decide
    exact ⟨_, _, rfl, by rw [e]; lia, by rw [e]; lia, p2.up (by lia), rfl⟩
theorem gap_to (P : PW G) {n : Nat} (hn : 2 ≤ n) {p : Addr} {o : AO} {k : Nat} {d : Int} {X : Addr → MH → Prop} {Q : D → MH → Prop} (hp : IsPool k d o) (hk : k < 999999000) (h : ∀ v o', 1 ≤ v → v ≤ 256 → IsPool (k + 10) d o' → Q (.int v) [(p, o')]) : FN G n (.ref 383) [.ptr p] [(p, o)] X Q :=
  ((law_gap_ok P hp hk (X := fun u₀ u₀ => False)).more hn).mono (fun r m hq3 => by obtain ⟨v, o', e1, a, b, q, e2⟩ := hq3; rw [e1, e2]; exact h v o' a b q) fun c m z => z.elim
theorem value_to (P : PW G) {n : Nat} (hn : 2 ≤ n) {p : Addr} {o : AO} {k : Nat} {d : Int} {X : Addr → MH → Prop} {Q : D → MH → Prop} (hp : IsPool k d o) (hk : k < 999999000) (h : ∀ v o', -1 ≤ v → v < 2 ^ 64 → IsPool (k + 10) d o' → Q (.int v) [(p, o')]) : FN G n (.ref 328) [.ptr p] [(p, o)] X Q :=
  ((law_value_ok P hp hk (X := fun u₀ u₀ => False)).more hn).mono (fun r m hq4 => by obtain ⟨v, o', e1, a, b, q, e2⟩ := hq4; rw [e1, e2]; exact h v o' a b q) fun c m z => z.elim

end

section
set_option tactic.hygienic false
open PySem PySem.W PyProof.Rows
variable {G : Glb} {C C' : Cx} {loc loc' : Loc} {tmp tmp' : Tmp} {mh hid l l' : MH} {s s' s₁ : Shared}
variable {X : Addr → Loc → MH → Prop} {Q : D → MH → Prop} {Rt : D → MH → Prop} {N : Loc → MH → Prop}
noncomputable def dsz (k : Int) : Int := if k = 40 then 4294967295 else (Builtin.bitOr 2 (Builtin.bitAnd k 1)) * 2 ^ (k.fdiv 2 + 11).toNat
theorem law_size_ok (P : PW G) {k : Int} (h0 : 0 ≤ k) {X : Addr → MH → Prop} : FN G 4 (.ref 428) [.int k] mh X fun d m => d = (if k ≤ 40 then .int (dsz k) else .none) ∧ m = mh := by
  refine (P.fun (x := "_law_size") (a := 428) (i := 46) (by decide)).of (ps := ["octet"]) P.ok rfl rfl rfl (by decide) (by decide) (by decide) rfl (fun fd vs a b c => by obtain ⟨x, rfl⟩ := len1 c; unfold bindArgs; rw [a, b]; kernel_rfl) fun C I CN => ?_
  refine EX0.letR ?_; intro X₁ R₁ N₁
  refine EX0_consA fun K' hK => (SX0_try P.ok CN I ?_)
  walk_at "n"
  refine EX0_consA fun K' hK => (SX.to0 ?_)
  repeat walk_at "w"
  by_cases hk : k ≤ 40
  · refine ((dictionary_size_ok P h0 hk (X := fun u₀ u₀ => False)).more (by decide)).mono (fun d m hq1 => ?_) fun c m z => z.elim
    obtain ⟨e1, e2⟩ := hq1
    dsimp only [R₁]
    rw [if_pos hk]
    exact ⟨e1, e2⟩
  · refine ((dictionary_size_no P (show 40 < k by lia)).more (by decide)).mono (fun d m z => z.elim) fun c m ⟨e1, e2⟩ => ?_
    subst e1; subst e2
    refine HND_hit 64 P I.sc (by rfl) (by decide) (by decide) (by decide) rfl (by decide) fun A => ?_
    · refine EX0_cons (SX.to0 ?_)
      repeat walk_at "w"
      dsimp only [R₁]
      rw [if_neg hk]
      exact ⟨rfl, rfl⟩

end

section
set_option tactic.hygienic false
open PySem PySem.W PyProof.Rows
variable {G : Glb} {C C' : Cx} {loc loc' : Loc} {tmp tmp' : Tmp} {mh hid l l' : MH} {s s' s₁ : Shared}
variable {X : Addr → Loc → MH → Prop} {Q : D → MH → Prop} {Rt : D → MH → Prop} {N : Loc → MH → Prop}
theorem EV_compP {elt iter : Expr} {x : Str} {px pos : Pos} {ifs : List Expr} {sc : Scope} {locF : Loc} {ds : List D} (g : D → Option PyData) (O : CompOk C sc x locF loc) (hh : C.A.handled = none) (hfr : C.env.scope.kind = .function)
    (h : EV G C loc mh iter X fun d m => ITB G C d ds m mh) (hz : ds.length ≤ 16777216)
    (step : ∀ C2, SubC C C2 sc → ∀ d ∈ ds, IFS G C2 ((x, d) :: locF) mh ifs fun b m1 => (b = true → EV G C2 ((x, d) :: locF) m1 elt NoX fun dy m2 => ∃ y, dy = .dat y ∧ g d = some y ∧ m2 = mh) ∧ (b = false → g d = none ∧ m1 = mh))
    (fin : Q (.dat (.list (ds.filterMap g))) mh) (hs : ∀ env v, foldedSetIterable iter env v = pure v := by intro _ _; with_unfolding_all rfl) :
    EV G C loc mh (.ListComp elt [⟨.Name x px, iter, ifs, 0⟩] sc pos) X Q := by
  refine EV_comp O hh hfr (fun rem acc m => ∃ dn, ds = dn ++ rem ∧ acc = dn.filterMap g ∧ m = mh) ?_ ?_ ?_ hs
  · exact h.mono (fun d m B => ⟨ds, mh, B, ⟨[], rfl, rfl, rfl⟩, hz⟩) fun u₀ u₀ u₀ x => x
  · intro C2 S d rem acc m hq1
    refine absP fun P₀ hP₀ => ?_
    obtain ⟨dn, e1, e2, e3⟩ := hq1
    refine hP₀ ?_; clear hP₀ P₀
    subst e3
    have hd : d ∈ ds := by rw [e1]; simp
    have st := step C2 S d hd
    have key : ∀ b m1, ((b = true → EV G C2 ((x, d) :: locF) m1 elt NoX fun dy m2 => ∃ y, dy = .dat y ∧ g d = some y ∧ m2 = m) ∧ (b = false → g d = none ∧ m1 = m)) →
        ((b = true → EV G C2 ((x, d) :: locF) m1 elt NoX fun dy m2 => ∃ y, dy = .dat y ∧ ∃ dn, ds = dn ++ rem ∧ acc ++ [y] = dn.filterMap g ∧ m2 = m) ∧ (b = false → ∃ dn, ds = dn ++ rem ∧ acc = dn.filterMap g ∧ m1 = m)) := fun b m1 hq3 => by obtain ⟨q1, q2⟩ := hq3; exact 
      ⟨fun hb => (q1 hb).mono (fun dy m2 hq4 => by obtain ⟨y, a1, a2, a3⟩ := hq4; exact ⟨y, a1, dn ++ [d], by rw [e1]; simp, by rw [List.filterMap_append, e2]; simp [a2], a3⟩) fun u₀ u₀ u₀ x => x,
        fun hb => ⟨dn ++ [d], by rw [e1]; simp, by rw [List.filterMap_append, e2]; simp [(q2 hb).1], (q2 hb).2⟩⟩
    match ifs, st with
    | [], st => exact key _ _ st
    | [c], st => exact fun tmp hid s R => wpAny_mono (st tmp hid s R) (fun b s' hq5 => by obtain ⟨m1, R1, q⟩ := hq5; exact ⟨m1, R1, key b m1 q⟩) fun u₀ u₀ x => x
  · intro xs m hq2
    refine absP fun P₀ hP₀ => ?_
    obtain ⟨dn, e1, e2, e3⟩ := hq2
    refine hP₀ ?_; clear hP₀ P₀
    subst e3
    rw [List.append_nil] at e1
    subst e1; subst e2
    exact fin

end

section
set_option tactic.hygienic false
open PySem PySem.W PyProof.Rows
variable {G : Glb} {C C' : Cx} {loc loc' : Loc} {tmp tmp' : Tmp} {mh hid l l' : MH} {s s' s₁ : Shared}
variable {X : Addr → Loc → MH → Prop} {Q : D → MH → Prop} {Rt : D → MH → Prop} {N : Loc → MH → Prop}
theorem CompOk.of {sc scF : Scope} {x : Str} {locF loc : Loc} (I : Is C scF) (h1 : sc.kind = .function) (h2 : ∀ y ∈ sc.names, y.2 ≠ .cell) (h3 : ∀ y ∈ sc.names, y.2 = .local → sc.names.lookup y.1 = some .local) (h4 : sc.names.lookup x = some .local)
    (h5 : ∀ y ∈ sc.names, y.2 = .free → scF.names.lookup y.1 = some .cell ∧ sc.names.lookup y.1 = some .free) (h6 : ∀ p ∈ locF, loc.lookup p.1 = some p.2 ∧ (p.1, NameKind.free) ∈ sc.names) : CompOk C sc x locF loc :=
  ⟨h1, h2, h3, h4, fun y hy => ⟨(I.kindOf y).trans (h5 _ hy rfl).1, (h5 _ hy rfl).2, let ⟨c, a, _⟩ := I.cell y (h5 _ hy rfl).1; ⟨c, a⟩⟩, fun y d h => h6 _ (mem_of_lookup h)⟩
theorem dictionary_octet_no (P : PW G) {d : D} (h : (∃ k : Int, d = .int k ∧ (k < 0 ∨ 4294967295 < k)) ∨ d = .none) : FN G 3 (.ref 147) [d] mh (fun c m => c = 100 ∧ m = mh) fun u₀ u₀ => False := by
  refine (P.fun (x := "dictionary_octet") (a := 147) (i := 19) (by decide)).of (ps := ["size"]) P.ok rfl rfl rfl (by decide) (by decide) (by decide) rfl (fun fd vs a b c => by obtain ⟨x, rfl⟩ := len1 c; unfold bindArgs; rw [a, b]; kernel_rfl) fun C I CN => ?_
  refine EX0.letR ?_; intro X₁ R₁ N₁
  refine EX0_consA fun K' hK => (SX.to0 ?_)
  rcases h with ⟨k, rfl, hk⟩ | rfl
  · repeat walk_at "w"
    refine ⟨fun h1 => ?_, fun h => ?_⟩
    · repeat walk_at "w"
      refine ⟨fun h => ?_, fun h => ?_⟩
      · repeat walk_at "w"
        exact ⟨rfl, rfl⟩
      · simp at h h1; lia
    · repeat walk_at "w"
      exact ⟨rfl, rfl⟩
  · repeat walk_at "w"
    exact ⟨rfl, rfl⟩

end

section
set_option tactic.hygienic false
open PySem PySem.W PyProof.Rows
variable {G : Glb} {C C' : Cx} {loc loc' : Loc} {tmp tmp' : Tmp} {mh hid l l' : MH} {s s' s₁ : Shared}
variable {X : Addr → Loc → MH → Prop} {Q : D → MH → Prop} {Rt : D → MH → Prop} {N : Loc → MH → Prop}
noncomputable def gsel (p : Int → Bool) : D → Option PyData
  | .dat (.int i) => if p i then some (.int i) else none
  | _ => none
theorem gsel_map (p : Int → Bool) : ∀ l : List Int, (l.map D.int).filterMap (gsel p) = (l.filter p).map .int
  | [] => rfl
  | i :: l => by
    rw [List.map_cons, List.filterMap_cons, List.filter_cons]
    have e : gsel p (D.int i) = if p i then some (.int i) else none := rfl
    rw [e]
    cases h : p i <;> simp [gsel_map p l]
theorem rng_mem {a : Int} : ∀ {n : Nat} {i : Int}, i ∈ rng a 1 n → a ≤ i ∧ i < a + n
  | 0, i, h => by simp [rng] at h
  | n + 1, i, h => by
    rcases List.mem_cons.mp h with rfl | h
    · lia
    · have := rng_mem h; lia
theorem dictionary_octet_ok (P : PW G) {size j : Int} (h0 : 0 ≤ size) (h1 : size ≤ 4294967295) (hj : ((rng 0 1 41).filter fun i => decide (size ≤ dsz i)).head? = some j) {X : Addr → MH → Prop} : FN G 3 (.ref 147) [.int size] mh X fun d m => d = .int j ∧ m = mh := by
  refine (P.fun (x := "dictionary_octet") (a := 147) (i := 19) (by decide)).of (ps := ["size"]) P.ok rfl rfl rfl (by decide) (by decide) (by decide) rfl (fun fd vs a b c => by obtain ⟨x, rfl⟩ := len1 c; unfold bindArgs; rw [a, b]; kernel_rfl) fun C I CN => ?_
  refine EX0.letR ?_; intro X₁ R₁ N₁
  refine EX0_consA fun K' hK => (SX.to0 ?_)
  repeat walk_at "w"
  refine ⟨fun h1 => ?_, fun h => by simp at h; lia⟩
  repeat walk_at "w"
  refine ⟨fun h => by simp at h; lia, fun h => ?_⟩
  repeat walk_at "w"
  refine EV_compP (ds := (rng 0 1 41).map D.int) (gsel fun i => decide (size ≤ dsz i)) (CompOk.of (locF := [("size", .int size)]) I rfl (by decide) (by decide) (by decide) (by decide) (fun p hp => by rw [List.mem_singleton.mp hp]; exact ⟨rfl, .tail _ (.tail _ (.tail _ (.head _)))⟩)) CN.hand (by rw [I.scope]; rfl) ?_ (by decide) ?_ ?_
  · repeat walk_at "w"
    refine BF_range1 fun r t u v => ?_
    exact ITB_range CN.hand (by decide) (by decide)
  · intro C2 S d hd
    obtain ⟨i, hi, rfl⟩ := List.mem_map.mp hd
    have hr := rng_mem hi
    have I2 := S.sc I
    have CN2 := S.can CN
    refine TT_cmp ?_
    repeat walk_at "w"
    refine FN.pure (by decide) (fun X => dictionary_size_ok P hr.1 (by lia) (X := X)) ?_
    refine CMP_le ⟨fun h => ?_, fun h => ?_⟩
    · repeat walk_at "w"
      refine ⟨?_, rfl⟩
      show (if decide (size ≤ dsz i) = true then _ else _) = _
      exact if_pos h
    · refine ⟨?_, rfl⟩
      show (if decide (size ≤ dsz i) = true then _ else _) = _
      exact if_neg (by rw [show decide (size ≤ dsz i) = false from h]; decide)
  · rw [gsel_map]
    repeat walk_at "w"
    refine ITM_list_dat (x := .int j) (by decide) (by decide) ?_ ⟨rfl, rfl⟩
    rw [List.getElem?_map]
    show Option.map PyData.int (List.filter _ _)[0]? = _
    rw [← List.head?_eq_getElem?, hj]; rfl

end

section
set_option tactic.hygienic false
open PySem PySem.W PyProof.Rows
variable {G : Glb} {C C' : Cx} {loc loc' : Loc} {tmp tmp' : Tmp} {mh hid l l' : MH} {s s' s₁ : Shared}
variable {X : Addr → Loc → MH → Prop} {Q : D → MH → Prop} {Rt : D → MH → Prop} {N : Loc → MH → Prop}
theorem law_octet_no (P : PW G) {d : D} (h : (∃ k : Int, d = .int k ∧ (k < 0 ∨ 4294967295 < k)) ∨ d = .none) {X : Addr → MH → Prop} : FN G 4 (.ref 421) [d] mh X fun r m => r = .none ∧ m = mh := by
  refine (P.fun (x := "_law_octet") (a := 421) (i := 45) (by decide)).of (ps := ["size"]) P.ok rfl rfl rfl (by decide) (by decide) (by decide) rfl (fun fd vs a b c => by obtain ⟨x, rfl⟩ := len1 c; unfold bindArgs; rw [a, b]; kernel_rfl) fun C I CN => ?_
  refine EX0.letR ?_; intro X₁ R₁ N₁
  refine EX0_consA fun K' hK => (SX0_try P.ok CN I ?_)
  walk_at "n"
  refine EX0_consA fun K' hK => (SX.to0 ?_)
  repeat walk_at "w"
  refine (dictionary_octet_no P h).mono (fun d m z => z.elim) fun c m hq1 => ?_
  obtain ⟨e1, e2⟩ := hq1
  subst e1; subst e2
  refine HND_hit 100 P I.sc (by rfl) (by decide) (by decide) (by decide) rfl (by decide) fun A => ?_
  · refine EX0_cons (SX.to0 ?_)
    repeat walk_at "w"
    exact ⟨rfl, rfl⟩
theorem law_octet_ok (P : PW G) {size j : Int} (h0 : 0 ≤ size) (h1 : size ≤ 4294967295) (hj : ((rng 0 1 41).filter fun i => decide (size ≤ dsz i)).head? = some j) {X : Addr → MH → Prop} : FN G 4 (.ref 421) [.int size] mh X fun d m => d = .int j ∧ m = mh := by
  refine (P.fun (x := "_law_octet") (a := 421) (i := 45) (by decide)).of (ps := ["size"]) P.ok rfl rfl rfl (by decide) (by decide) (by decide) rfl (fun fd vs a b c => by obtain ⟨x, rfl⟩ := len1 c; unfold bindArgs; rw [a, b]; kernel_rfl) fun C I CN => ?_
  refine EX0.letR ?_; intro X₁ R₁ N₁
  refine EX0_consA fun K' hK => (SX0_try P.ok CN I ?_)
  walk_at "n"
  refine EX0_consA fun K' hK => (SX.to0 ?_)
  repeat walk_at "w"
  exact (dictionary_octet_ok P h0 h1 hj (X := fun u₀ u₀ => False)).mono (fun d m z => z) fun c m z => z.elim

end

section
set_option tactic.hygienic false
open PySem PySem.W PyProof.Rows
variable {G : Glb} {C C' : Cx} {loc loc' : Loc} {tmp tmp' : Tmp} {mh hid l l' : MH} {s s' s₁ : Shared}
variable {X : Addr → Loc → MH → Prop} {Q : D → MH → Prop} {Rt : D → MH → Prop} {N : Loc → MH → Prop}
theorem SX_compP {t : Str} {pt p2 : Pos} {elt iter : Expr} {x : Str} {px pos : Pos} {ifs : List Expr} {sc : Scope} {locF : Loc} {ds : List D} (g : D → Option PyData) (O : CompOk C sc x locF loc) (hh : C.A.handled = none) (hfr : C.env.scope.kind = .function) (ht : Sto C t)
    (h : EV G C loc mh iter X fun d m => ITB G C d ds m mh) (hz : ds.length ≤ 16777216)
    (step : ∀ C2, SubC C C2 sc → ∀ d ∈ ds, IFS G C2 ((x, d) :: locF) mh ifs fun b m1 => (b = true → EV G C2 ((x, d) :: locF) m1 elt NoX fun dy m2 => ∃ y, dy = .dat y ∧ g d = some y ∧ m2 = mh) ∧ (b = false → g d = none ∧ m1 = mh))
    (fin : N ((t, .dat (.list (ds.filterMap g))) :: loc) mh)
    (hw : swapsWith (.ListComp elt [⟨.Name x px, iter, ifs, 0⟩] sc pos) (some (.Name t pt)) p2.line (blank C.env.scope) = pure true) (hs : ∀ env v, foldedSetIterable iter env v = pure v := by intro _ _; with_unfolding_all rfl) :
    SX G C loc mh (.Assign [.Name t pt] (.ListComp elt [⟨.Name x px, iter, ifs, 0⟩] sc pos) p2) X Rt N := by
  refine SX_assign_comp O hh hfr ht (fun rem acc m => ∃ dn, ds = dn ++ rem ∧ acc = dn.filterMap g ∧ m = mh) ?_ ?_ ?_ hw hs
  · exact h.mono (fun d m B => ⟨ds, mh, B, ⟨[], rfl, rfl, rfl⟩, hz⟩) fun u₀ u₀ u₀ x => x
  · intro C2 S d rem acc m hq1
    refine absP fun P₀ hP₀ => ?_
    obtain ⟨dn, e1, e2, e3⟩ := hq1
    refine hP₀ ?_; clear hP₀ P₀
    subst e3
    have hd : d ∈ ds := by rw [e1]; simp
    have st := step C2 S d hd
    have key : ∀ b m1, ((b = true → EV G C2 ((x, d) :: locF) m1 elt NoX fun dy m2 => ∃ y, dy = .dat y ∧ g d = some y ∧ m2 = m) ∧ (b = false → g d = none ∧ m1 = m)) →
        ((b = true → EV G C2 ((x, d) :: locF) m1 elt NoX fun dy m2 => ∃ y, dy = .dat y ∧ ∃ dn, ds = dn ++ rem ∧ acc ++ [y] = dn.filterMap g ∧ m2 = m) ∧ (b = false → ∃ dn, ds = dn ++ rem ∧ acc = dn.filterMap g ∧ m1 = m)) := fun b m1 hq3 => by obtain ⟨q1, q2⟩ := hq3; exact 
      ⟨fun hb => (q1 hb).mono (fun dy m2 hq4 => by obtain ⟨y, a1, a2, a3⟩ := hq4; exact ⟨y, a1, dn ++ [d], by rw [e1]; simp, by rw [List.filterMap_append, e2]; simp [a2], a3⟩) fun u₀ u₀ u₀ x => x,
        fun hb => ⟨dn ++ [d], by rw [e1]; simp, by rw [List.filterMap_append, e2]; simp [(q2 hb).1], (q2 hb).2⟩⟩
    match ifs, st with
    | [], st => exact key _ _ st
    | [c], st => exact fun tmp hid s R => wpAny_mono (st tmp hid s R) (fun b s' hq5 => by obtain ⟨m1, R1, q⟩ := hq5; exact ⟨m1, R1, key b m1 q⟩) fun u₀ u₀ x => x
  · intro xs m hq2
    refine absP fun P₀ hP₀ => ?_
    obtain ⟨dn, e1, e2, e3⟩ := hq2
    refine hP₀ ?_; clear hP₀ P₀
    subst e3
    rw [List.append_nil] at e1
    subst e1; subst e2
    exact fin

end

section
set_option tactic.hygienic false
open PySem PySem.W PyProof.Rows
variable {G : Glb} {C C' : Cx} {loc loc' : Loc} {tmp tmp' : Tmp} {mh hid l l' : MH} {s s' s₁ : Shared}
variable {X : Addr → Loc → MH → Prop} {Q : D → MH → Prop} {Rt : D → MH → Prop} {N : Loc → MH → Prop}
theorem lay_ints : ∀ xs : List Int, PyData.canLayAll0 (xs.map .int) = true
  | [] => by simp [PyData.canLayAll0]
  | x :: xs => by rw [List.map_cons]; simp [PyData.canLayAll0, PyData.canLay0, lay_ints xs]
theorem eqv_ints : ∀ xs ys : List Int, PyData.eqvAll (xs.map .int) (ys.map .int) = decide (xs = ys)
  | [], [] => by simp [PyData.eqvAll]
  | [], y :: ys => by simp [PyData.eqvAll]
  | x :: xs, [] => by simp [PyData.eqvAll]
  | x :: xs, y :: ys => by
    rw [List.map_cons, List.map_cons]
    simp only [PyData.eqvAll, PyData.eqv, eqv_ints xs ys]
    by_cases h : x = y <;> by_cases h2 : xs = ys <;> simp [h, h2]
theorem lay_list {xs : List Int} : (PyData.list (xs.map .int)).canLay0 = true := by simp [PyData.canLay0, lay_ints]
theorem eqv_list {xs ys : List Int} : PyData.eqv (.list (xs.map .int)) (.list (ys.map .int)) = decide (xs = ys) := by simp [PyData.eqv, eqv_ints]
theorem lay_nil : (PyData.list []).canLay0 = true := lay_list (xs := [])
theorem eqv_nil {xs : List Int} : PyData.eqv (.list (xs.map .int)) (.list []) = decide (xs = []) := eqv_list (ys := [])
theorem law_least_ok (P : PW G) {size : Int} {ladder : List Int} (hl : ladder.length = 41) {X : Addr → MH → Prop} : FN G 2 (.ref 414) [.int size, .dat (.list (ladder.map .int))] mh X fun d m =>
    d = (if 0 ≤ size then (match ((rng 0 1 41).filter fun i => decide (size ≤ ladder.getD i.toNat 0)).head? with | some j => .int j | none => .none) else .none) ∧ m = mh := by
  refine (P.fun (x := "_law_least") (a := 414) (i := 44) (by decide)).of (ps := ["size", "ladder"]) P.ok rfl rfl rfl (by decide) (by decide) (by decide) rfl (fun fd vs a b c => by obtain ⟨x, y, rfl⟩ := len2 c; unfold bindArgs; rw [a, b]; kernel_rfl) fun C I CN => ?_
  refine EX0_consA fun K' hK => (SX.to0 ?_)
  refine SX_compP (ds := (rng 0 1 41).map D.int) (gsel fun i => decide (size ≤ ladder.getD i.toNat 0)) (CompOk.of (locF := [("size", .int size), ("ladder", .dat (.list (ladder.map .int)))]) I rfl (by decide) (by decide) (by decide) (by decide) ?_) CN.hand (by rw [I.scope]; rfl) (I.sto (by first | exact .inl rfl | exact .inr rfl)) ?_ (by decide) ?_ ?_ (by rw [I.scope]; with_unfolding_all rfl)
  · intro p hp
    rcases List.mem_cons.mp hp with rfl | hp
    · exact ⟨rfl, .tail _ (.tail _ (.tail _ (.head _)))⟩
    · rw [List.mem_singleton.mp hp]; exact ⟨rfl, .tail _ (.tail _ (.head _))⟩
  · repeat walk_at "w"
    refine BF_range1 fun r t u v => ?_
    exact ITB_range CN.hand (by decide) (by decide)
  · intro C2 S d hd
    obtain ⟨i, hi, rfl⟩ := List.mem_map.mp hd
    have hr := rng_mem hi
    have I2 := S.sc I
    have CN2 := S.can CN
    refine TT_cmp ?_
    repeat walk_at "w"
    refine ITM_list_dat (x := .int (ladder.getD i.toNat 0)) hr.1 (by lia) (by
      rw [List.getElem?_map, List.getD_eq_getElem?_getD, List.getElem?_eq_getElem (show i.toNat < ladder.length by lia)]; rfl) ?_
    refine CMP_le ⟨fun h => ?_, fun h => ?_⟩
    · repeat walk_at "w"
      refine ⟨?_, rfl⟩
      show (if decide (size ≤ ladder.getD i.toNat 0) = true then _ else _) = _
      exact if_pos h
    · refine ⟨?_, rfl⟩
      show (if decide (size ≤ ladder.getD i.toNat 0) = true then _ else _) = _
      exact if_neg (by rw [show decide (size ≤ ladder.getD i.toNat 0) = false from h]; decide)
  · rw [gsel_map]
    generalize hxs : (rng 0 1 41).filter (fun i => decide (size ≤ ladder.getD i.toNat 0)) = xs
    repeat walk_at "w"
    refine ⟨fun h => ?_, fun h => ?_⟩
    · repeat walk_at "w"
      refine EV_list_dat ?_
      repeat walk_at "w"
      refine ⟨Nat.zero_le _, [], rfl, ?_⟩
      refine CMP_ned CN lay_list lay_nil (by simp [PyData.depth, PyData.depthAll]) ?_
      rw [eqv_nil]
      have hs : 0 ≤ size := by simpa using h
      rw [if_pos hs]
      cases xs with
      | nil =>
        refine ⟨fun h => absurd h (by decide), fun u₀ => ?_⟩
        repeat walk_at "w"
        exact ⟨by rw [hxs]; rfl, rfl⟩
      | cons x xs =>
        have e : (!decide (x :: xs = [])) = true := by simp
        rw [e]
        repeat walk_at "w"
        exact ITM_list_dat (x := .int x) (by decide) (by decide) rfl ⟨by rw [hxs]; rfl, rfl⟩
    · repeat walk_at "w"
      have hs : ¬ 0 ≤ size := by simpa using h
      rw [if_neg hs]
      exact ⟨rfl, rfl⟩

end

section
set_option tactic.hygienic false
open PySem PySem.W PyProof.Rows
variable {G : Glb} {C C' : Cx} {loc loc' : Loc} {tmp tmp' : Tmp} {mh hid l l' : MH} {s s' s₁ : Shared}
variable {X : Addr → Loc → MH → Prop} {Q : D → MH → Prop} {Rt : D → MH → Prop} {N : Loc → MH → Prop}
section
variable {prog : Program} {w : World} {A : Around} {E : Value → Shared → Prop}
theorem wp_setNeg {l : Addr} {items : Array Value} {nn : Nat} {k : Int} {t : Tok} {v : Value} {Q : Unit → Shared → Prop} (ho : s.heap.get? l = some { cls := .type "list", data := .seq items nn })
    (h0 : k < 0) (h1 : -(items.size : Int) ≤ k) (hfit : -(2 ^ 63) ≤ k)
    (hQ : ∀ h' n', h'.get? l = some { cls := .type "list", data := .seq (items.setIfInBounds (k + items.size).toNat v) n' } → Heap.SameBut l s.heap h' → Q () { s with heap := h' }) :
    wpAny (model prog w) A (setItem (.ref l) (.int k t) v) Q E s := by
  refine ki_setBack ho h0 h1 hfit ?_
  obtain ⟨n', hd⟩ := mapSeq_obj (·.setIfInBounds (k + items.size).toNat v) (.type "list") items nn
  exact hQ _ n' (by rw [← hd]; exact Heap.get?_update_self _ ho (by rw [hd]; rfl)) (Heap.SameBut.update ..)
end
theorem SX_setNeg {o i e : Expr} {p1 pos : Pos} (h : EV G C loc mh e X fun d m => EV G C loc m o X fun d1 m1 => EV G C loc m1 i X fun d2 m2 => ∃ a ds k m3, d1 = .ptr a ∧ d2 = .int k ∧ k < 0 ∧ -(2 ^ 63) ≤ k ∧ -(ds.length : Int) ≤ k ∧ (∀ hid, Upd a (.app ds) (.app (ds.set (k + ds.length).toNat d)) (m2 ++ hid) (m3 ++ hid)) ∧ N loc m3)
    (hs : ∀ env, swapsWith e (some (.Subscript o i p1)) pos.line env = pure false := by intro _; rfl) : SX G C loc mh (.Assign [.Subscript o i p1] e pos) X Rt N := fun tmp hid s R =>
  wpAny_Assign_Subscript (wpAny_mono (h tmp hid s R) (fun v s1 ⟨d, m, R1, h1⟩ => wpAny_mono (h1 _ hid s1 R1) (fun ov s2 ⟨d1, m1, R2, h2⟩ => wpAny_mono (h2 _ hid s2 R2) (fun iv s3 ⟨d2, m2, R3, a, ds, k, m3, e1, e2, h0, hf, hn, U, hN⟩ => by
    subst e1; subst e2
    obtain ⟨t, e⟩ := R3.top.int_inv; dsimp only at e; subst e
    have := R3.pop.top.ptr_inv; dsimp only at this; subst this
    have RR := R3.pop.pop.pop
    have V := R3.tmp _ (.tail _ (.tail _ (.head _)))
    refine absP fun P₀ hP₀ => ?_
    obtain ⟨vs, n, ho, W⟩ := RR.obs _ (U hid).mem
    refine hP₀ ?_; clear hP₀ P₀
    have hz' := W.length; rw [Array.length_toList] at hz'
    refine wp_setNeg ho h0 (by rw [hz']; exact hn) hf fun h' n' hl' hs => ?_
    refine ⟨loc, m3, app_turn (k := s3.toks) (U hid) RR hs rfl fun mono => ⟨_, n', hl', ?_⟩, hN⟩
    rw [Array.toList_setIfInBounds, hz']
    exact (W.mono mono).set _ (V.mono mono)) fun u₀ u₀ x => x) fun u₀ u₀ x => x) fun u₀ u₀ x => x) (hs _)
theorem EV_frz {e : Expr} (h : EV G C loc mh e X fun d m => Ex3 fun a xs m' => And3 (d = .ptr a) (m.Perm ((a, AO.app (xs.map .dat)) :: m') ∨ m.Perm ((a, AO.list (xs.map .dat)) :: m')) (Q (.dat (.list xs)) m')) : EV G C loc mh e X Q :=
  fun tmp hid s R => wpAny_mono (h tmp hid s R) (fun v s1 hq4 => by
    refine absP fun P₀ hP₀ => ?_
    obtain ⟨d, m, R1, a, xs, m', e1, hm, hQ⟩ := hq4
    refine hP₀ ?_; clear hP₀ P₀
    subst e1
    have hv := R1.top.ptr_inv; dsimp only at hv; subst hv
    have key : ∀ o : AO, (o = AO.app (xs.map .dat) ∨ o = AO.list (xs.map .dat)) → m.Perm ((a, o) :: m') → Rep G C loc tmp (m' ++ hid) s1 ∧ VD s1.heap (MM C (m' ++ hid)) (.ref a) (.dat (.list xs)) := fun o ho P => by
      have R2 := (R1.pop).perm (P.append_right hid)
      have nd := nd_of R2
      rw [List.cons_append, addrs_cons] at nd
      refine R2.freeze (a := a) ?_ (fun p hp => .tail _ hp) (by rw [List.cons_append, addrs_cons]; exact List.sublist_append_right _ _) fun q => (List.nodup_append.mp nd).2.2 a (by simp [foot]) a q rfl
      rcases ho with rfl | rfl
      · exact .inr (.head _)
      · exact .inl (.head _)
    obtain ⟨R3, V⟩ := hm.elim (key _ (.inl rfl)) (key _ (.inr rfl))
    exact ⟨_, m', R3.withTmp (fun p hp => by
      rcases List.mem_cons.mp hp with rfl | hp
      · exact V
      · exact R3.tmp p hp), hQ⟩) fun u₀ u₀ x => x

end

section
set_option tactic.hygienic false
open PySem PySem.W PyProof.Rows
variable {G : Glb} {C C' : Cx} {loc loc' : Loc} {tmp tmp' : Tmp} {mh hid l l' : MH} {s s' s₁ : Shared}
variable {X : Addr → Loc → MH → Prop} {Q : D → MH → Prop} {Rt : D → MH → Prop} {N : Loc → MH → Prop}
noncomputable def LS : Loc → Loc → Prop
  | [], _ => True
  | (x, d) :: r, loc => loc.lookup x = some d ∧ LS r loc
theorem LS.get : ∀ {l loc : Loc}, LS l loc → ∀ y e, l.lookup y = some e → loc.lookup y = some e
  | [], _, _, y, e, h => by simp at h
  | (x, d) :: r, loc, hl, y, e, h => by
    rw [List.lookup_cons] at h
    cases q : y == x with
    | true => rw [q] at h; cases h; rw [beq_iff_eq.mp q]; exact hl.1
    | false => rw [q] at h; exact hl.2.get y e h
theorem LS.up {l loc : Loc} (h : LS l loc) {x : Str} {d : D} : ∀ y e, ((x, d) :: l).lookup y = some e → ((x, d) :: loc).lookup y = some e := fun y e hy => by
  rw [List.lookup_cons] at hy ⊢
  cases q : y == x with
  | true => rw [q] at hy; exact hy
  | false => rw [q] at hy; exact h.get y e hy
theorem EX0.weak {ss : List Stmt} {loc' : Loc} (h : EX0 G C loc' mh ss X Rt N) (hl : ∀ x d, loc'.lookup x = some d → loc.lookup x = some d) : EX0 G C loc mh ss X Rt N :=
  fun hid s R => h hid s (R.weak hl)
theorem MC_appU {a : Addr} {e : Expr} {pos : Pos} {P : D → MH → Prop} (h : ∃ ds, (a, AO.app ds) ∈ mh) (h2 : EV G C loc mh e X fun d m => Ex2 fun ds m' => And3 (Upd a (.app ds) (.app (ds ++ [d])) m m') (ds.length < sizeLine) (P .none m'))
    (he : ∀ env, starEach [e] env = (false, eval e env) :: starEach [] env := by intro _; rfl) (hp : ∀ env, (backTo pos (starEach [] env)).any (·.1) = false := by intro _; rfl) : MC G C (.ptr a) "append" pos [e] loc mh X P :=
  MC_append (ds := []) h (h2.mono (fun u₀ u₀ hq3 => by obtain ⟨ds, m', U, a1, a2⟩ := hq3; exact ⟨ds, m', a1, fun hid => U.app hid, a2⟩) fun u₀ u₀ u₀ x => x) he hp
theorem SX_setNegU {o i e : Expr} {p1 pos : Pos} (h : EV G C loc mh e X fun d m => EV G C loc m o X fun d1 m1 => EV G C loc m1 i X fun d2 m2 => Ex4 fun a ds k m3 => And7 (d1 = .ptr a) (d2 = .int k) (Upd a (.app ds) (.app (ds.set (k + ds.length).toNat d)) m2 m3) (k < 0) (-(2 ^ 63) ≤ k) (-(ds.length : Int) ≤ k) (N loc m3))
    (hs : ∀ env, swapsWith e (some (.Subscript o i p1)) pos.line env = pure false := by intro _; rfl) : SX G C loc mh (.Assign [.Subscript o i p1] e pos) X Rt N :=
  SX_setNeg (h.mono (fun u₀ u₀ h => h.mono (fun u₀ u₀ h => h.mono (fun u₀ u₀ hq4 => by obtain ⟨a, ds, k, m3, e1, e2, U, a1, a2, a3, a4⟩ := hq4; exact ⟨a, ds, k, m3, e1, e2, a1, a2, a3, fun hid => U.app hid, a4⟩) fun u₀ u₀ u₀ x => x) fun u₀ u₀ u₀ x => x) fun u₀ u₀ u₀ x => x) hs
theorem SX_setItemU {o i e : Expr} {p1 pos : Pos} (h : EV G C loc mh e X fun d m => EV G C loc m o X fun d1 m1 => EV G C loc m1 i X fun d2 m2 => ∃ a ds k m3, d1 = .ptr a ∧ d2 = .int k ∧ Upd a (.list ds) (.list (ds.set k.toNat d)) m2 m3 ∧ 0 ≤ k ∧ k < 2 ^ 63 ∧ k < ds.length ∧ N loc m3)
    (hs : ∀ env, swapsWith e (some (.Subscript o i p1)) pos.line env = pure false := by intro _; rfl) : SX G C loc mh (.Assign [.Subscript o i p1] e pos) X Rt N :=
  SX_setItem (h.mono (fun u₀ u₀ h => h.mono (fun u₀ u₀ h => h.mono (fun u₀ u₀ hq5 => by obtain ⟨a, ds, k, m3, e1, e2, U, a1, a2, a3, a4⟩ := hq5; exact ⟨a, ds, k, m3, e1, e2, a1, a2, a3, fun hid => U.app hid, a4⟩) fun u₀ u₀ u₀ x => x) fun u₀ u₀ u₀ x => x) fun u₀ u₀ u₀ x => x) hs
noncomputable def nxtSz (l : List Int) (k : Int) : List Int := l ++ [l.getLastD 0 + (l.getLastD 0).fdiv (2 + k.fmod 2)]
noncomputable def LAD : List Int := (rng 0 1 41).map dsz
noncomputable def szs : List Int := (rng 0 1 40).foldl nxtSz [4096]
theorem szs_len : szs.length = 41 := by decide +kernel
theorem szs_set : szs.set 40 (szs.getD 40 0 - 1) = LAD := by decide +kernel
theorem lad_len : LAD.length = 41 := by decide +kernel
theorem nxt_len (r : List Int) : ∀ l : List Int, (r.foldl nxtSz l).length = l.length + r.length := by
  induction r with
  | nil => intro l; rfl
  | cons k r ih => intro l; rw [List.foldl_cons, ih]; simp [nxtSz]; lia
theorem law_sizes_ok (P : PW G) {X : Addr → MH → Prop} : FN G 1 (.ref 409) [] mh X fun d m => d = .dat (.list (LAD.map .int)) ∧ m = mh := by
  refine (P.fun (x := "_law_sizes") (a := 409) (i := 43) (by decide +kernel)).of (ps := []) P.ok rfl rfl rfl (by decide) (by decide) (by decide) rfl (fun fd vs a b c => by cases vs with | nil => (unfold bindArgs; rw [a, b]; kernel_rfl) | cons x r => cases c) fun C I CN => ?_
  refine EX0.letR ?_; intro X₁ R₁ N₁
  refine EX0_consA fun K' hK => (SX.to0 ?_)
  repeat walk_at "w"
  refine EV_app ?_
  repeat walk_at "w"
  refine ⟨by rw [sizeLine_eq]; decide, fun a => ?_⟩
  walk_at "n"
  refine EX0_consA fun K' hK => (SX.to0 ?_)
  refine SX_for CN I (I.sto (.inl rfl)) (fun rem loc m => Ex2 fun dn rs => And4 (rng 0 1 40 = dn ++ rs) (rem = rs.map D.int) (LS [("found", .ptr a)] loc) (m = (a, .app ((dn.foldl nxtSz [4096]).map D.int)) :: mh)) ?_ ?_ ?_
  · repeat walk_at "w"
    refine BF_range1 fun r t u v => ?_
    exact ⟨(rng 0 1 40).map D.int, _, ITB_range CN.hand (by decide) (by decide), [], rng 0 1 40, rfl, rfl, ⟨rfl, trivial⟩, rfl⟩
  · intro d ds loc m hq1
    try ((first | refine EX.letN ?_ | refine EXX.letN ?_); intro N₂)
    refine absP fun P₀ hP₀ => ?_
    obtain ⟨dn, rs, e1, e2, hls, e3⟩ := hq1
    refine hP₀ ?_; clear hP₀ P₀
    subst e3
    cases rs with
    | nil => cases e2
    | cons k rs =>
    rw [List.map_cons] at e2
    obtain ⟨rfl, rfl⟩ := List.cons.inj e2
    have hk := rng_mem (n := 40) (a := 0) (i := k) (by rw [e1]; simp)
    have hl : (dn.foldl nxtSz [4096]).length = 1 + dn.length := nxt_len dn [4096]
    have hdn : dn.length < 40 := by have := congrArg List.length e1; simp [show (rng 0 1 40).length = 40 from by decide] at this; lia
    generalize hA : dn.foldl nxtSz [4096] = A at hl
    walk_at "n"
    refine EX.weak ?_ hls.up
    repeat walk_at "w"
    refine EV_meth ?_
    repeat walk_at "w"
    refine MC_appU ⟨_, .head _⟩ ?_
    have hg : (A.map D.int)[((-1 : Int) + (A.map D.int).length).toNat]? = some (D.int (A.getLastD 0)) := by
      rw [List.length_map, hl, List.getElem?_map]
      have : ((-1 : Int) + ((1 + dn.length : Nat) : Int)).toNat = A.length - 1 := by rw [hl]; lia
      rw [this, ← List.getLast?_eq_getElem?, List.getLastD_eq_getLast?]
      have hne : A ≠ [] := by intro q; rw [q] at hl; simp at hl; lia
      rw [List.getLast?_eq_some_getLast hne]; rfl
    repeat walk_at "w"
    refine ITM_listn (.inr (.head _)) (by decide) (by rw [List.length_map, hl]; lia) (by decide) hg ?_
    repeat walk_at "w"
    refine ITM_listn (.inr (.head _)) (by decide) (by rw [List.length_map, hl]; lia) (by decide) hg ?_
    repeat walk_at "w"
    refine OP_mod (by decide) ?_
    repeat walk_at "w"
    have hm : k.fmod 2 = 0 ∨ k.fmod 2 = 1 := by
      rw [Int.fmod_eq_emod_of_nonneg _ (by decide)]; lia
    refine OP_floordiv (by lia) (by rcases hm with h | h <;> rw [h] <;> decide) ?_
    repeat walk_at "w"
    refine ⟨_, _, .head, by simp only [List.length_map, hl, sizeLine_eq]; lia, rfl, ?_⟩
    repeat walk_at "w"
    refine ⟨dn ++ [k], rs, by rw [e1]; simp, rfl, ⟨rfl, trivial⟩, ?_⟩
    rw [List.foldl_append, hA]
    simp [nxtSz]
  · intro loc m hq2
    refine absP fun P₀ hP₀ => ?_
    obtain ⟨dn, rs, e1, e2, hls, e3⟩ := hq2
    refine hP₀ ?_; clear hP₀ P₀
    walk_at "n"
    subst e3
    cases rs with
    | cons k rs => cases e2
    | nil =>
    rw [List.append_nil] at e1
    rw [← e1]
    have hA : (rng 0 1 40).foldl nxtSz [4096] = szs := rfl
    rw [hA]
    have hl := szs_len
    have hs := szs_set
    generalize szs = A at hl hs
    walk_at "n"
    refine EX0.weak (loc' := [("found", .ptr a)]) ?_ hls.get
    walk_at "n"
    refine EX0_consA fun K' hK => (SX.to0 (SX_setNegU ?_))
    have hg : (A.map D.int)[((-1 : Int) + (A.map D.int).length).toNat]? = some (D.int (A.getD 40 0)) := by
      rw [List.length_map, hl, List.getElem?_map]
      show Option.map D.int (A[40]?) = _
      rw [List.getD_eq_getElem?_getD, List.getElem?_eq_getElem (by lia)]; rfl
    repeat walk_at "w"
    refine ITM_listn (.inr (.head _)) (by decide) (by rw [List.length_map, hl]; lia) (by decide) hg ?_
    repeat walk_at "w"
    refine ⟨a, _, -1, _, rfl, rfl, .head, by decide, by decide, by rw [List.length_map, hl]; lia, ?_⟩
    walk_at "n"
    refine EX0_consA fun K' hK => (SX.to0 (SX_ret (EV_frz ?_)))
    repeat walk_at "w"
    refine ⟨a, LAD.map .int, mh, rfl, .inl ?_, rfl, rfl⟩
    have e : (A.map D.int).set ((-1 : Int) + (A.map D.int).length).toNat (D.int (A.getD 40 0 - 1)) = (LAD.map PyData.int).map D.dat := by
      have e0 : ((-1 : Int) + (A.map D.int).length).toNat = 40 := by simp only [List.length_map, hl]; decide
      have e1 : (A.set 40 (A.getD 40 0 - 1)).map D.int = (A.map D.int).set 40 (D.int (A.getD 40 0 - 1)) := List.map_set
      rw [e0, ← e1, hs, List.map_map]; rfl
    rw [e]

end

section
set_option tactic.hygienic false
open PySem PySem.W PyProof.Rows
variable {G : Glb} {C C' : Cx} {loc loc' : Loc} {tmp tmp' : Tmp} {mh hid l l' : MH} {s s' s₁ : Shared}
variable {X : Addr → Loc → MH → Prop} {Q : D → MH → Prop} {Rt : D → MH → Prop} {N : Loc → MH → Prop}
theorem EV_lst {es : List Expr} {pos : Pos} (h : EVs G C loc mh es X fun ds m => ds.length ≤ sizeLine ∧ ∀ a, Q (.ptr a) ((a, .list ds) :: m)) : EV G C loc mh (.List es pos) X Q := fun tmp hid s R =>
  wpAny_mono (EV_app (Q := fun d mm => ∃ a ds m, d = .ptr a ∧ mm = (a, AO.app ds) :: m ∧ Q (.ptr a) ((a, .list ds) :: m)) (pos := pos)
    (fun tmp hid s pos R => wpAny_mono (h tmp hid s pos R) (fun vs s' hq3 => by obtain ⟨ds, m, a1, a2, a3, a4⟩ := hq3; exact ⟨ds, m, a1, a2, a3, fun a => ⟨a, ds, m, rfl, rfl, a4 a⟩⟩) fun u₀ u₀ x => x) tmp hid s R)
    (fun v s' hq4 => by
      refine absP fun P₀ hP₀ => ?_
      obtain ⟨d, mm, R1, a, ds, m, e1, e2, hQ⟩ := hq4
      refine hP₀ ?_; clear hP₀ P₀
      subst e1; subst e2
      exact ⟨_, _, R1.app_list (a := a) (ds := ds) (mh' := (a, .list ds) :: m ++ hid) .head, hQ⟩) fun u₀ u₀ x => x
theorem law_pool_ok (P : PW G) {xs : List Int} (hx : xs.length ≤ 63) {X : Addr → MH → Prop} : FN G 1 (.ref 314) [.dat (.list (xs.map .int))] mh X fun r m => ∃ p o, r = .ptr p ∧ IsPool 0 (if (xs.length : Int) < 4 then xs.length else 4) o ∧ m = (p, o) :: mh := by
  refine (P.fun (x := "_law_pool") (a := 314) (i := 28) (by decide +kernel)).of (ps := ["script"]) P.ok rfl rfl rfl (by decide) (by decide) (by decide) rfl (fun fd vs a b c => by obtain ⟨x, rfl⟩ := len1 c; unfold bindArgs; rw [a, b]; kernel_rfl) fun C I CN => ?_
  refine EX0.letR ?_; intro X₁ R₁ N₁
  refine EX0_consA fun K' hK => (SX.to0 ?_)
  repeat walk_at "w"
  refine SX_for CN I (I.sto (.inl rfl)) (fun rem loc m => Ex2 fun (rs : List Int) (w : Int) => And5 (rem = rs.map D.int) (0 ≤ w) (w < 10 ^ 150) (LS [("script", .dat (.list (xs.map .int))), ("whole", .int w)] loc) (m = mh)) ?_ ?_ ?_
  · repeat walk_at "w"
    refine SLC_list (by rw [List.length_map]; lia) ?_
    refine ⟨((cut xs none (some 30)).map .int).map D.dat, _, ?_, cut xs none (some 30), 0, by rw [List.map_map]; rfl, by decide, by decide, ⟨rfl, rfl, trivial⟩, rfl⟩
    have e : cut (xs.map PyData.int) none (some 30) = (cut xs none (some 30)).map .int := by
      unfold cut; rw [List.length_map, List.map_take, List.map_drop]
    rw [e]
    exact ITB_list CN.hand
  · intro d ds loc m hq1
    try ((first | refine EX.letN ?_ | refine EXX.letN ?_); intro N₂)
    refine absP fun P₀ hP₀ => ?_
    obtain ⟨rs, w, e2, w0, w1, hls, e3⟩ := hq1
    refine hP₀ ?_; clear hP₀ P₀
    subst e3
    cases rs with
    | nil => cases e2
    | cons k rs =>
    rw [List.map_cons] at e2
    obtain ⟨rfl, rfl⟩ := List.cons.inj e2
    walk_at "n"
    refine EX.weak ?_ hls.up
    repeat walk_at "w"
    refine OP_mul (IntMulOk.of_right (by decide)) ?_
    repeat walk_at "w"
    refine OP_mul (IntMulOk.of_left (by decide)) ?_
    repeat walk_at "w"
    refine OP_pow (by decide) (by decide) ?_
    refine OP_mod (by decide) ?_
    repeat walk_at "w"
    generalize (w * 1000003 + 2 * (if k < 0 then -k else k) + if decide (k < 0) = true then 1 else 0) = z
    have e : (10 : Int) ^ (150 : Int).toNat = 10 ^ 150 := by decide
    refine ⟨rs, _, rfl, ?_, ?_, ⟨rfl, rfl, trivial⟩, rfl⟩
    · rw [e, Int.fmod_eq_emod_of_nonneg _ (by decide)]; exact Int.emod_nonneg _ (by decide)
    · rw [e, Int.fmod_eq_emod_of_nonneg _ (by decide)]; exact Int.emod_lt_of_pos _ (by decide)
  · intro loc m hq2
    refine absP fun P₀ hP₀ => ?_
    obtain ⟨rs, w, e2, w0, w1, hls, e3⟩ := hq2
    refine hP₀ ?_; clear hP₀ P₀
    walk_at "n"
    subst e3
    walk_at "n"
    refine EX0.weak ?_ hls.get
    walk_at "n"
    refine EX0_consA fun K' hK => (SX.to0 (SX_ret ?_))
    refine EV_lst ?_
    repeat walk_at "w"
    refine OP_mod (by decide) ?_
    repeat walk_at "w"
    refine BF_len_list (by rw [List.length_map]; lia) ?_
    repeat walk_at "w"
    refine BF_min CN.hand ?_
    repeat walk_at "w"
    refine ⟨by rw [sizeLine_eq]; simp, fun a => ⟨a, _, rfl, ⟨w, 0, w.fmod 1000003, ?_, w0, w1, by decide, by decide, ?_, ?_⟩, rfl⟩⟩
    · rw [List.length_map]
    · rw [Int.fmod_eq_emod_of_nonneg _ (by decide)]; exact Int.emod_nonneg _ (by decide)
    · rw [Int.fmod_eq_emod_of_nonneg _ (by decide)]; exact Int.emod_lt_of_pos _ (by decide)

end

section
set_option tactic.hygienic false
open PySem PySem.W PyProof.Rows
variable {G : Glb} {C C' : Cx} {loc loc' : Loc} {tmp tmp' : Tmp} {mh hid l l' : MH} {s s' s₁ : Shared}
variable {X : Addr → Loc → MH → Prop} {Q : D → MH → Prop} {Rt : D → MH → Prop} {N : Loc → MH → Prop} {PB : Bool → Prop}
theorem ii_bytes_bytes {l : List UInt8} {h M v} (x : VD h M v (.bytes l)) (A : Around) (E : Value → Shared → Prop) (Q : Value → Shared → Prop) (s : Shared) (e : s.heap = h) (q : ∀ tk, Q (.bool true) { s with toks := tk }) : wpAny (Mo G) A (call (.builtin "isinstance") [v, .type "bytes"]) Q E s := by
  obtain ⟨t, rfl⟩ := x.bytes_inv; exact PySem.call_isinstance (PySem.isinstance_true (Tx := "bytes") F.isi_meta_bytes F.sub_bytes_bytes) ⟨rfl, q s.toks⟩
theorem ii_tuple_str {xs : List PyData} {h M v} (x : VD h M v (.dat (.tuple xs))) (A : Around) (E : Value → Shared → Prop) (Q : Value → Shared → Prop) (s : Shared) (e : s.heap = h) (q : ∀ tk, Q (.bool false) { s with toks := tk }) : wpAny (Mo G) A (call (.builtin "isinstance") [v, .type "str"]) Q E s := by
  obtain ⟨_, _, _, _, rfl, a, b, c, d, f⟩ := x.dat_inv.tuple_inv
  subst e
  exact PySem.IsiPair.tuple_str b c (q _)
theorem reads_ptr (R : Rep G C loc tmp (mh ++ hid) s) {a : Addr} {xs : List PyData} (hm : LM mh a (xs.map .dat)) : ∃ as, Reads s.heap (.ref a) (.list xs) as := by
  refine absP fun P₀ hP₀ => ?_
  obtain ⟨vs, ⟨o, e, c, n, d⟩, V⟩ := R.list hm
  obtain ⟨_, r⟩ := V.toFVs.reads
  refine hP₀ ?_; clear hP₀ P₀
  exact ⟨_, .list e c d r⟩
theorem CMP_eqp {n : Nat} {a : Addr} {xs : List PyData} {e : PyData} (CN : Can G C n) (hm : LM mh a (xs.map .dat)) (hd : (PyData.list xs).canLay0 = true) (he : e.canLay0 = true) (hu : min (PyData.list xs).depth e.depth ≤ 64) (h : PB (PyData.eqv (.list xs) e)) : CMP G C .Eq (.ptr a) (.dat e) mh PB := fun loc tmp hid s v1 v2 X R x y => by
  have := x.ptr_inv; subst this
  cases y with | dat y =>
  obtain ⟨_, r⟩ := reads_ptr R hm; obtain ⟨_, q⟩ := y.reads
  have := CN.room.2
  exact PySem.SeqAt.compareEq_reads r q hd he (by show _ < 9900; lia) ⟨_, rfl, R, h⟩

end

section
set_option tactic.hygienic false
open PySem PySem.W PyProof.Rows
variable {G : Glb} {C C' : Cx} {loc loc' : Loc} {tmp tmp' : Tmp} {mh hid l l' : MH} {s s' s₁ : Shared}
variable {X : Addr → Loc → MH → Prop} {Q : D → MH → Prop} {Rt : D → MH → Prop} {N : Loc → MH → Prop}
inductive RN where
  | bad
  | cut
  | ok (v n : Nat)
noncomputable def rdG : Nat → List UInt8 → Nat → Nat → RN
  | 0, _, _, _ => .bad
  | _ + 1, [], _, _ => .cut
  | n + 1, c :: r, k, v => if 127 < c.toNat then rdG n r (k + 1) (v + (c.toNat % 128) * 128 ^ k) else if c.toNat = 0 ∧ 0 < k then .bad else .ok (v + (c.toNat % 128) * 128 ^ k) (k + 1)
noncomputable def rd (l : List UInt8) : RN := rdG 9 l 0 0
noncomputable def opn (run : List UInt8) : Bool := match run.getLast? with | none => true | some c => decide (127 < (c.toNat : Int))
noncomputable def stp (run : List UInt8) (c : UInt8) : List UInt8 := if opn run then run ++ [c] else run
noncomputable def valF : List UInt8 → Nat → Nat
  | [], _ => 0
  | c :: r, k => (c.toNat % 128) * 128 ^ k + valF r (k + 1)
noncomputable def oneR (k v : Nat) (run : List UInt8) : RN := if opn run then (if run.length + k = 9 then .bad else .cut) else if 1 < run.length + k ∧ run.getLast? = some 0 then .bad else .ok (v + valF run k) (run.length + k)
theorem stp_stop {run : List UInt8} (h : opn run = false) : ∀ l : List UInt8, l.foldl stp run = run
  | [] => rfl
  | c :: l => by rw [List.foldl_cons, stp, h]; exact stp_stop h l
theorem opn_cons (c : UInt8) (run : List UInt8) (h : 127 < c.toNat) : opn (c :: run) = opn run := by
  unfold opn
  cases run with
  | nil => simp; lia
  | cons x r => simp [List.getLast?_cons_cons]
theorem stp_cons (c : UInt8) (h : 127 < c.toNat) : ∀ (l run : List UInt8), l.foldl stp (c :: run) = c :: l.foldl stp run
  | [], _ => rfl
  | d :: l, run => by
    rw [List.foldl_cons, List.foldl_cons]
    have e : stp (c :: run) d = c :: stp run d := by unfold stp; rw [opn_cons c run h]; split <;> rfl
    rw [e, stp_cons c h l]
theorem one_rd : ∀ (n : Nat) (t : List UInt8) (k v : Nat), n + k = 9 → oneR k v ((t.take n).foldl stp []) = rdG n t k v
  | 0, t, k, v, h => by
    show oneR k v [] = .bad
    unfold oneR
    rw [if_pos (show opn [] = true from rfl), if_pos (by simpa using h)]
  | n + 1, [], k, v, h => by
    show oneR k v [] = .cut
    unfold oneR
    rw [if_pos (show opn [] = true from rfl), if_neg (by simp; lia)]
  | n + 1, c :: r, k, v, h => by
    rw [List.take_succ_cons, List.foldl_cons]
    show oneR k v ((r.take n).foldl stp [c]) = _
    unfold rdG
    by_cases hc : 127 < c.toNat
    · rw [if_pos hc, stp_cons c hc, ← one_rd n r (k + 1) _ (by lia)]
      generalize (r.take n).foldl stp [] = R
      unfold oneR
      rw [opn_cons c R hc]
      have e1 : (c :: R).length + k = R.length + (k + 1) := by simp; lia
      rw [e1]
      cases ho : opn R with
      | true => rfl
      | false =>
        cases R with
        | nil => simp [opn] at ho
        | cons x R =>
          rw [List.getLast?_cons_cons]
          simp only [Bool.false_eq_true, if_false, valF]
          rw [Nat.add_assoc, Nat.add_assoc]
    · have ho : opn [c] = false := by simp [opn]; lia
      rw [if_neg hc, stp_stop ho]
      unfold oneR
      rw [ho]
      simp only [Bool.false_eq_true, if_false, valF, List.length_singleton, List.getLast?_singleton, Option.some.injEq, Nat.add_zero]
      have e : (1 < 1 + k ∧ c = 0) ↔ (c.toNat = 0 ∧ 0 < k) := by
        constructor
        · rintro ⟨a, rfl⟩; exact ⟨rfl, by lia⟩
        · rintro ⟨a, b⟩; exact ⟨by lia, UInt8.toNat_inj.mp (by simpa using a)⟩
      rw [Nat.add_comm 1 k] at e ⊢
      simp only [e]
theorem lay_bytes {l : List UInt8} : (PyData.list (l.map fun c => .int (c.toNat : Int))).canLay0 = true := by
  have : (l.map fun c : UInt8 => PyData.int (c.toNat : Int)) = (l.map fun c => (c.toNat : Int)).map .int := by rw [List.map_map]; rfl
  rw [this]; exact lay_list
theorem eqv_bytes_nil {l : List UInt8} : PyData.eqv (.list (l.map fun c => .int (c.toNat : Int))) (.list []) = l.isEmpty := by
  have : (l.map fun c : UInt8 => PyData.int (c.toNat : Int)) = (l.map fun c => (c.toNat : Int)).map .int := by rw [List.map_map]; rfl
  rw [this, eqv_nil]
  cases l <;> simp
theorem byte_dat (l : List UInt8) : l.map D.byte = (l.map fun c => PyData.int (c.toNat : Int)).map D.dat := by rw [List.map_map]; rfl
theorem TT_run {n k k2 : Nat} {p1 p2 p3 p4 p5 p6 p7 p8 p9 p10 : Pos} {a : Addr} {run : List UInt8} {Q : Bool → MH → Prop} (CN : Can G C n) (hl : loc.lookup ("run" : Str) = some (.ptr a)) (hz : run.length < 1000) (h : Q (opn run) ((a, .app (run.map D.byte)) :: mh)) :
    TT G C loc ((a, .app (run.map D.byte)) :: mh) (.BoolOp .Or [.Compare (.Name "run" p1) [.Eq] [.List [] p2] p3, .Compare (.Subscript (.Name "run" p4) (.UnaryOp .USub (.Constant (.int 1) k p5) p6) p7) [.Gt] [.Constant (.int 127) k2 p8] p9] p10) X Q := by
  refine TT_bool (AT_or (TT_cmp (EV_var hl ?_ ) ))
  refine EV_list_dat (EVs_nil ⟨Nat.zero_le _, [], rfl, ?_⟩)
  refine CMP_eqp CN (xs := run.map fun c => .int (c.toNat : Int)) (.inr (by rw [byte_dat]; exact .head _)) lay_bytes lay_nil (by simp [PyData.depth, PyData.depthAll]) ?_
  rw [eqv_bytes_nil]
  cases hr : run.getLast? with
  | none =>
    have : run = [] := by simpa using hr
    subst this
    exact ⟨fun u₀ => h, fun z => by cases z⟩
  | some c =>
    have hne : run ≠ [] := by intro q; rw [q] at hr; cases hr
    have e1 : run.isEmpty = false := by cases run with | nil => exact absurd rfl hne | cons => rfl
    have ho : opn run = decide (127 < (c.toNat : Int)) := by unfold opn; rw [hr]
    have hp : 0 < run.length := List.length_pos_iff.mpr hne
    rw [e1]
    refine ⟨fun z => (by cases z), fun u₀ => AT_or (TT_cmp (EV_itemT (EV_var hl (EV_neg (EV_int ⟨_, rfl, ?_⟩)))))⟩
    refine ITM_listn (x := D.byte c) (.inr (.head _)) (by decide) (by simp; lia) (by decide) ?_ ?_
    · rw [List.getElem?_map, List.length_map]
      have : ((-1 : Int) + (run.length : Nat)).toNat = run.length - 1 := by rw [Int.add_comm]; exact Int.toNat_sub _ 1
      rw [this, ← List.getLast?_eq_getElem?, hr]; rfl
    · refine EV_int (CMP_gt ?_)
      rw [← ho]
      cases hh : opn run with
      | true => rw [hh] at h; exact ⟨fun u₀ => h, fun z => by cases z⟩
      | false => rw [hh] at h; exact ⟨fun z => (by cases z), fun u₀ => AT_or_nil h⟩

end

section
set_option tactic.hygienic false
open PySem PySem.W PyProof.Rows
variable {G : Glb} {C C' : Cx} {loc loc' : Loc} {tmp tmp' : Tmp} {mh hid l l' : MH} {s s' s₁ : Shared}
variable {X : Addr → Loc → MH → Prop} {Q : D → MH → Prop} {Rt : D → MH → Prop} {N : Loc → MH → Prop}
noncomputable def gfun (f : Int → Int) : D → Option PyData
  | .dat (.int i) => some (.int (f i))
  | _ => none
theorem gfun_map (f : Int → Int) : ∀ l : List Int, (l.map D.int).filterMap (gfun f) = (l.map f).map .int
  | [] => rfl
  | i :: l => by
    rw [List.map_cons, List.filterMap_cons]
    show PyData.int (f i) :: (l.map D.int).filterMap (gfun f) = _
    rw [gfun_map f l]; rfl
theorem sum_val : ∀ (run : List UInt8) (k : Nat), ((rng (k : Int) 1 run.length).map fun (i : Int) => (((run.getD (i - (k : Int)).toNat 0).toNat % 128 : Nat) : Int) * 128 ^ i.toNat).sum = (valF run k : Nat)
  | [], k => rfl
  | c :: r, k => by
    have ih := sum_val r (k + 1)
    show ((rng (k : Int) 1 (r.length + 1)).map _).sum = _
    unfold rng valF
    rw [List.map_cons, List.sum_cons]
    have e1 : ((rng ((k : Int) + 1) 1 r.length).map fun (i : Int) => ((((c :: r).getD (i - (k : Int)).toNat 0).toNat % 128 : Nat) : Int) * 128 ^ i.toNat) = (rng (((k + 1 : Nat)) : Int) 1 r.length).map fun (i : Int) => (((r.getD (i - ((k + 1 : Nat) : Int)).toNat 0).toNat % 128 : Nat) : Int) * 128 ^ i.toNat := by
      refine List.map_congr_left fun i hi => ?_
      have := rng_mem hi
      have e : (i - (k : Int)).toNat = (i - ((k + 1 : Nat) : Int)).toNat + 1 := by lia
      rw [e]; rfl
    rw [e1, ih]
    have e2 : ((k : Int) - k).toNat = 0 := by lia
    rw [e2]
    push_cast
    rfl
noncomputable def oneD (at_ : Int) : RN → D
  | .bad => .str "number"
  | .cut => .str "cut"
  | .ok v n => .dat (.tuple [.int v, .int (at_ + n)])
theorem stp_len (l : List UInt8) : ∀ run, (l.foldl stp run).length ≤ run.length + l.length := by
  induction l with
  | nil => intro run; simp
  | cons c l ih =>
    intro run; rw [List.foldl_cons]
    have h := ih (stp run c)
    have : (stp run c).length ≤ run.length + 1 := by unfold stp; split <;> simp
    simp; lia
theorem rng_len (a c : Int) : ∀ n, (rng a c n).length = n
  | 0 => rfl
  | n + 1 => by unfold rng; rw [List.length_cons, rng_len]
theorem rng_size (n : Nat) : Builtin.Range.rangeSize 0 n 1 = n := by
  unfold Builtin.Range.rangeSize
  rw [if_pos (by decide)]
  by_cases h : (0 : Int) < n
  · rw [if_pos h]; lia
  · rw [if_neg h]; lia
theorem rng_small {n : Nat} (h : n ≤ 1000000) : Builtin.Range.small 0 n 1 = true := by
  have hf : ∀ k : Int, 0 ≤ k → k ≤ 1000000 → Builtin.Range.rangeFitsLong k = true := fun k h0 h1 => by
    unfold Builtin.Range.rangeFitsLong
    rw [decide_eq_true (by lia), decide_eq_true (by lia)]; rfl
  unfold Builtin.Range.small
  rw [rng_size, hf 0 (by decide) (by decide), hf n (by lia) (by lia), hf 1 (by decide) (by decide), if_pos (by decide), hf ((n : Int) + (1 - 1)) (by lia) (by lia)]
  simp
theorem cut_nn {α : Type} (l : List α) (a b : Nat) : cut l (some (a : Int)) (some (b : Int)) = (l.drop a).take (b - a) := by
  unfold cut
  show (l.drop (clipAt l.length a)).take (clipAt l.length b - clipAt l.length a) = _
  have h : ∀ k : Nat, clipAt l.length (k : Int) = min k l.length := clip_nn _
  rw [h, h]
  by_cases ha : a ≤ l.length
  · rw [Nat.min_eq_left ha]
    by_cases hb : b ≤ l.length
    · rw [Nat.min_eq_left hb]
    · rw [Nat.min_eq_right (by lia), List.take_of_length_le (by simp), List.take_of_length_le (by simp; lia)]
  · rw [Nat.min_eq_right (a := a) (by lia), List.drop_of_length_le (Nat.le_refl _), List.drop_of_length_le (by lia)]; simp
theorem cut_len {α : Type} (l : List α) (a b : Option Int) : (cut l a b).length ≤ l.length := by
  unfold cut; rw [List.length_take, List.length_drop]; exact Nat.le_trans (Nat.min_le_right _ _) (Nat.sub_le _ _)
theorem FN.clean {n : Nat} {f : Value} {ds : List D} {X : Addr → MH → Prop} {Q : D → MH → Prop} (h : FN G n f ds mh (fun c m => ∃ g m0, m = g ++ m0 ∧ X c m0) (fun d m => ∃ g m0, m = g ++ m0 ∧ Q d m0)) : FN G n f ds mh X Q :=
  h.loose (fun d m hq3 => by obtain ⟨g, m0, e, q⟩ := hq3; exact ⟨g, m0, e ▸ List.Perm.refl _, q⟩) fun c m hq4 => by obtain ⟨g, m0, e, q⟩ := hq4; exact ⟨g, m0, e ▸ List.Perm.refl _, q⟩
theorem FNX.clean {n : Nat} {f : Value} {ds : List D} {X : Addr → MH → Prop} {Q : D → MH → Prop} (h : FNX G n f ds mh (fun c m => ∃ g m0, m = g ++ m0 ∧ X c m0) (fun d m => ∃ g m0, m = g ++ m0 ∧ Q d m0)) : FNX G n f ds mh X Q :=
  fun C loc tmp hid s vs c R V => codeX_mono (h C loc tmp hid s vs c R V) fun r s' q => by
    cases r with
    | ok f => cases f with
      | ret v =>
        refine absP fun P₀ hP₀ => ?_
        obtain ⟨d, m, a, g, m0, e, h0⟩ := q
        refine hP₀ ?_; clear hP₀ P₀
        subst e
        exact ⟨d, m0, Rep.dropAll (l := g) (a.perm (by rw [List.append_assoc])), h0⟩
      | _ => exact q
    | error v => exact EErr.loose (fun c l m hq5 => by obtain ⟨e, g, m0, P, h0⟩ := hq5; exact ⟨g, m0, P ▸ List.Perm.refl _, e, h0⟩) q
theorem TT.mono {e : Expr} {Q Q' : Bool → MH → Prop} (h : TT G C loc mh e X Q) (hq : ∀ b m, Q b m → Q' b m) : TT G C loc mh e X Q' :=
  fun tmp hid s R => wpAny_mono (h tmp hid s R) (fun b s' hq6 => by obtain ⟨m, R', q⟩ := hq6; exact ⟨m, R', hq _ _ q⟩) fun u₀ u₀ x => x
theorem law_one_ok (P : PW G) {l : List UInt8} {i : Nat} (hz : l.length ≤ 100000) (hi : i ≤ 1000000) {X : Addr → MH → Prop} : FN G 2 (.ref 345) [.bytes l, .int i] mh X fun d m => d = oneD i (rd (l.drop i)) ∧ m = mh := by
  refine FN.clean ?_
  refine (P.fun (x := "_law_one") (a := 345) (i := 33) (by decide +kernel)).of (ps := ["octets", "at"]) P.ok rfl rfl rfl (by decide) (by decide) (by decide) rfl (fun fd vs a b c => by obtain ⟨x, y, rfl⟩ := len2 c; unfold bindArgs; rw [a, b]; kernel_rfl) fun C I CN => ?_
  have hone := one_rd 9 (l.drop i) 0 0 rfl
  walk_at "n"
  refine EX0_consA fun K' hK => (SX.to0 ?_)
  repeat walk_at "w"
  refine EV_app ?_
  repeat walk_at "w"
  refine ⟨Nat.zero_le _, fun a => ?_⟩
  repeat walk_at "w"
  refine SX_for CN I (I.sto (.inl rfl)) (fun rem loc m => Ex2 fun (dn rs : List UInt8) => And4 ((l.drop i).take 9 = dn ++ rs) (rem = rs.map D.byte) (LS [("octets", .bytes l), ("at", .int i), ("run", .ptr a)] loc) (m = (a, .app ((dn.foldl stp []).map D.byte)) :: mh)) ?_ ?_ ?_
  · repeat walk_at "w"
    refine SLC_bytes (by lia) ?_
    have hcut : cut l (some (i : Int)) (some ((i : Int) + 9)) = (l.drop i).take 9 := by
      have := cut_nn l i (i + 9); rw [Nat.add_sub_cancel_left] at this; exact this
    rw [hcut]
    exact ⟨_, _, ITB_bytes CN.hand, [], _, rfl, rfl, ⟨rfl, rfl, rfl, trivial⟩, rfl⟩
  · intro d ds loc m hq1
    refine absP fun P₀ hP₀ => ?_
    obtain ⟨dn, rs, e1, e2, hls, e3⟩ := hq1
    refine hP₀ ?_; clear hP₀ P₀
    subst e3
    cases rs with
    | nil => cases e2
    | cons c rs =>
    rw [List.map_cons] at e2
    obtain ⟨rfl, rfl⟩ := List.cons.inj e2
    have hlen := stp_len dn []
    have hdn : dn.length ≤ 9 := by have := congrArg List.length e1; rw [List.length_take, List.length_append] at this; exact Nat.le_trans (Nat.le_add_right _ _) (this ▸ Nat.min_le_left _ _)
    have hs : (dn ++ [c]).foldl stp [] = stp (dn.foldl stp []) c := by rw [List.foldl_append]; rfl
    have hfin : ∀ loc', LS [("octets", .bytes l), ("at", .int i), ("run", .ptr a)] loc' → ∀ m, m = (a, AO.app ((stp (dn.foldl stp []) c).map D.byte)) :: mh → Ex2 fun (dn rs' : List UInt8) => And4 ((l.drop i).take 9 = dn ++ rs') (rs.map D.byte = rs'.map D.byte) (LS [("octets", .bytes l), ("at", .int i), ("run", .ptr a)] loc') (m = (a, .app ((dn.foldl stp []).map D.byte)) :: mh) :=
      fun loc' h m hm => ⟨dn ++ [c], rs, by rw [e1]; simp, rfl, h, by rw [hs]; exact hm⟩
    generalize dn.foldl stp [] = run at hlen hfin
    walk_at "n"
    refine EX.weak ?_ hls.up
    walk_at "n"
    refine EX_consA fun K' hK => (SX_if ?_)
    refine TT_run CN (by with_unfolding_all rfl) (by simp at hlen; lia) ?_
    refine ⟨fun h => ?_, fun h => ?_⟩
    · repeat walk_at "w"
      refine EV_meth ?_
      repeat walk_at "w"
      refine MC_appU ⟨_, .head _⟩ ?_
      repeat walk_at "w"
      refine ⟨_, _, .head, by simp at hlen; rw [List.length_map, sizeLine_eq]; lia, rfl, ?_⟩
      repeat walk_at "w"
      refine hfin _ ⟨rfl, rfl, rfl, trivial⟩ _ ?_
      unfold stp; rw [h, if_pos rfl, List.map_append]; rfl
    · repeat walk_at "w"
      refine hfin _ ⟨rfl, rfl, rfl, trivial⟩ _ ?_
      unfold stp; rw [h]; rfl
  · intro loc m hq2
    refine absP fun P₀ hP₀ => ?_
    obtain ⟨dn, rs, e1, e2, hls, e3⟩ := hq2
    refine hP₀ ?_; clear hP₀ P₀
    walk_at "n"
    subst e3
    cases rs with
    | cons k rs => cases e2
    | nil =>
    rw [List.append_nil] at e1
    rw [← e1]
    have hlen := stp_len ((l.drop i).take 9) []
    have hlen2 : ((l.drop i).take 9).length ≤ 9 := by rw [List.length_take]; exact Nat.min_le_left _ _
    unfold rd
    rw [← hone]
    generalize ((l.drop i).take 9).foldl stp [] = run at hlen
    have hrl : run.length ≤ 9 := Nat.le_trans hlen (by rw [List.length_nil, Nat.zero_add]; exact hlen2)
    walk_at "n"
    refine EX0.weak ?_ hls.get
    walk_at "n"
    refine EX0_cons (SX.to0 (SX_if ?_))
    refine TT_run CN (by with_unfolding_all rfl) (by lia) ?_
    unfold oneR
    refine ⟨fun h => ?_, fun h => ?_⟩
    · rw [h, if_pos rfl]
      repeat walk_at "w"
      refine BF_len_ptr (.inr (.head _)) (by simp; lia) ?_
      repeat walk_at "w"
      rw [List.length_map]
      by_cases h9 : run.length = 9
      · rw [h9]
        repeat walk_at "w"
        exact ⟨[_], _, rfl, rfl, rfl⟩
      · have e : ((run.length : Int) == 9) = false := by simp; lia
        rw [e]
        repeat walk_at "w"
        rw [if_neg (by omega)]
        exact ⟨[_], _, rfl, rfl, rfl⟩
    · rw [h, if_neg (by decide)]
      have hne : 0 < run.length := by
        cases run with
        | nil => simp [opn] at h
        | cons => simp
      obtain ⟨cl, hcl⟩ : ∃ c, run.getLast? = some c := ⟨_, List.getLast?_eq_some_getLast (List.length_pos_iff.mp hne)⟩
      have hg : (run.map D.byte)[((-1 : Int) + (run.map D.byte).length).toNat]? = some (D.byte cl) := by
        rw [List.length_map, List.getElem?_map]
        have : ((-1 : Int) + (run.length : Nat)).toNat = run.length - 1 := by rw [Int.add_comm]; exact Int.toNat_sub _ 1
        rw [this, ← List.getLast?_eq_getElem?, hcl]; rfl
      walk_at "n"
      refine EX_nil ?_
      walk_at "n"
      refine EX0_consA fun K' hK => (SX.to0 (SX_if (TT.mono (Q := fun b m => b = decide (1 < run.length ∧ run.getLast? = some 0) ∧ m = (a, AO.app (run.map D.byte)) :: mh) ?_ (fun b m hq7 => ?_))))
      · refine TT.letQ ?_; intro Q₁
        repeat walk_at "w"
        refine BF_len_ptr (.inr (.head _)) (by simp; lia) ?_
        repeat walk_at "w"
        rw [List.length_map]
        refine ⟨fun h1 => ?_, fun h1 => ⟨?_, rfl⟩⟩
        · repeat walk_at "w"
          refine ITM_listn (.inr (.head _)) (by decide) (by simp; lia) (by decide) hg ?_
          repeat walk_at "w"
          have h1' : 1 < run.length := by have := of_decide_eq_true h1; lia
          refine ⟨fun h2 => ?_, fun h2 => ⟨?_, rfl⟩⟩
          · repeat walk_at "w"
            refine ⟨?_, rfl⟩
            have : cl = 0 := UInt8.toNat_inj.mp (by simpa using h2)
            rw [hcl, this]; simp [h1']
          · have : cl ≠ 0 := by rintro rfl; simp at h2
            rw [hcl]; simp [this]
        · have h1' : ¬ 1 < run.length := by have := of_decide_eq_false h1; lia
          simp [h1']
      · obtain ⟨e1, e2⟩ := hq7
        subst e1; subst e2
        refine ⟨fun h2 => ?_, fun h2 => ?_⟩
        · rw [if_pos (by simpa using h2)]
          repeat walk_at "w"
          exact ⟨[_], _, rfl, rfl, rfl⟩
        · have h2' : ¬ (1 < run.length + 0 ∧ run.getLast? = some 0) := by simpa using h2
          rw [if_neg h2']
          walk_at "n"
          refine EX_nil ?_
          walk_at "n"
          refine EX0_consA fun K' hK => (SX.to0 (SX_ret (EV_tuple ?_)))
          repeat walk_at "w"
          refine EV_compP (ds := (rng 0 1 run.length).map D.int) (gfun fun (i : Int) => (((run.getD (i - ((0 : Nat) : Int)).toNat 0).toNat % 128 : Nat) : Int) * 128 ^ i.toNat) (CompOk.of (locF := [("run", .ptr a)]) I rfl (by decide) (by decide) (by decide) (by decide) ?_) CN.hand (by rw [I.scope]; rfl) ?_ (by rw [List.length_map, rng_len]; lia) ?_ ?_
          · intro p hp
            rw [List.mem_singleton.mp hp]
            exact ⟨rfl, by show (("run" : Str), NameKind.free) ∈ _; decide⟩
          · repeat walk_at "w"
            refine BF_len_ptr (.inr (.head _)) (by simp; lia) ?_
            rw [List.length_map]
            repeat walk_at "w"
            refine BF_range1 fun r t u v => ?_
            exact ITB_range CN.hand (rng_small (by lia)) (rng_size _)
          · intro C2 S d hd
            obtain ⟨i, hi, rfl⟩ := List.mem_map.mp hd
            have hr := rng_mem hi
            have I2 := S.sc I
            have CN2 := S.can CN
            refine ⟨fun u₀ => ?_, fun h => absurd h (by decide)⟩
            repeat walk_at "w"
            refine ITM_list (x := D.byte (run.getD i.toNat 0)) (.inr (.head _)) hr.1 (by lia) (by
              rw [List.getElem?_map, List.getD_eq_getElem?_getD, List.getElem?_eq_getElem (show i.toNat < run.length by lia)]; rfl) ?_
            repeat walk_at "w"
            refine OP_mod (by decide) ?_
            repeat walk_at "w"
            refine OP_pow hr.1 (by rw [show (Builtin.Int.intBits 128 : Int) = 8 by decide]; lia) ?_
            have e : (((run.getD i.toNat 0).toNat : Int)).fmod 128 = (((run.getD i.toNat 0).toNat % 128 : Nat) : Int) := by
              rw [Int.fmod_eq_emod_of_nonneg _ (by decide)]; rfl
            rw [e]
            refine OP_mul (IntMulOk.of_left (intBits_le_64 (by lia) (by lia))) ⟨_, rfl, ?_, rfl⟩
            show some (PyData.int ((((run.getD (i - ((0 : Nat) : Int)).toNat 0).toNat % 128 : Nat) : Int) * 128 ^ i.toNat)) = _
            have e2 : (i - ((0 : Nat) : Int)).toNat = i.toNat := by lia
            rw [e2]
          · rw [gfun_map]
            repeat walk_at "w"
            refine BF_sum CN.hand ?_
            rw [show (rng 0 1 run.length) = rng ((0 : Nat) : Int) 1 run.length from rfl, sum_val]
            repeat walk_at "w"
            refine BF_len_ptr (.inr (.head _)) (by simp; lia) ?_
            repeat walk_at "w"
            refine ⟨by rw [sizeLine_eq]; simp, [.int (valF run 0 : Nat), .int (i + ((run.map D.byte).length : Nat))], rfl, [_], _, rfl, ?_, rfl⟩
            rw [List.length_map, Nat.zero_add]
            first | rfl | (rw [if_neg h2']; rfl)

end

section
set_option tactic.hygienic false
open PySem PySem.W PyProof.Rows
variable {G : Glb} {C C' : Cx} {loc loc' : Loc} {tmp tmp' : Tmp} {mh hid l l' : MH} {s s' s₁ : Shared}
variable {X : Addr → Loc → MH → Prop} {Q : D → MH → Prop} {Rt : D → MH → Prop} {N : Loc → MH → Prop}
theorem EX.lax {ss : List Stmt} (h : EX G C loc mh ss X Rt fun l m => ∃ l0, LS l0 l ∧ N l0 m) : EX G C loc mh ss X Rt N := fun tmp hid s R =>
  wpAny_mono (h tmp hid s R) (fun f s' q => by
    cases f with
    | next => obtain ⟨l, m, R1, l0, hl, hN⟩ := q; exact ⟨l0, m, R1.weak hl.get, hN⟩
    | ret v => exact q
    | _ => exact q) fun u₀ u₀ x => x
theorem rdG_ok : ∀ {n : Nat} {t : List UInt8} {k v v' k' : Nat}, rdG n t k v = .ok v' k' → k < k' ∧ k' ≤ k + t.length
  | 0, t, k, v, v', k', h => by cases h
  | n + 1, [], k, v, v', k', h => by cases h
  | n + 1, c :: r, k, v, v', k', h => by
    unfold rdG at h
    split at h
    · have := rdG_ok h; simp; lia
    · split at h
      · cases h
      · cases h; simp only [List.length_cons]; lia
theorem rd_ok {t : List UInt8} {v k : Nat} (h : rd t = .ok v k) : 1 ≤ k ∧ k ≤ t.length := by
  have := rdG_ok h; lia
noncomputable def rdAll : Nat → List UInt8 → Nat → List (Nat × Nat) × Str
  | 0, _, _ => ([], "end")
  | n + 1, l, i => if i < l.length then (match rd (l.drop i) with
      | .bad => ([], "number")
      | .cut => ([], "cut")
      | .ok v k => ((v, i + k) :: (rdAll n l (i + k)).1, (rdAll n l (i + k)).2)) else ([], "end")
noncomputable def prD (p : Nat × Nat) : PyData := .tuple [.int p.1, .int p.2]
noncomputable def allD (r : List (Nat × Nat) × Str) : PyData := .tuple [.list (r.1.map prD), .str r.2]
theorem law_all_ok (P : PW G) {l : List UInt8} (hz : l.length ≤ 100000) {X : Addr → MH → Prop} : FN G 3 (.ref 352) [.bytes l] mh X fun d m => d = .dat (allD (rdAll l.length l 0)) ∧ m = mh := by
  refine FN.clean ?_
  refine (P.fun (x := "_law_all") (a := 352) (i := 34) (by decide +kernel)).of (ps := ["octets"]) P.ok rfl rfl rfl (by decide) (by decide) (by decide) rfl (fun fd vs a b c => by obtain ⟨x, rfl⟩ := len1 c; unfold bindArgs; rw [a, b]; kernel_rfl) fun C I CN => ?_
  refine EX0.letR ?_; intro X₁ R₁ N₁
  refine EX0_consA fun K' hK => (SX.to0 ?_)
  refine SX_tuple (names := ["found", "at"]) CN.hand (fun n hn => by
    rcases List.mem_cons.mp hn with rfl | hn
    · exact I.sto (by first | exact .inl rfl | exact .inr rfl)
    · rw [List.mem_singleton.mp hn]; exact I.sto (by first | exact .inl rfl | exact .inr rfl)) ?_ (by rw [I.scope]; with_unfolding_all rfl)
  refine EVs_cons (EV_app (EVs_nil ⟨Nat.zero_le _, fun a => ?_⟩)) (by intro _; with_unfolding_all rfl)
  repeat walk_at "w"
  refine ⟨by rw [sizeLine_eq]; simp, rfl, ?_⟩
  walk_at "n"
  refine EX0.weak (loc' := [("octets", .bytes l), ("found", .ptr a), ("at", .int (0 : Nat))]) ?_ (LS.get ⟨rfl, rfl, rfl, trivial⟩)
  walk_at "n"
  refine EX0_consA fun K' hK => (SX.to0 ?_)
  refine SX_while CN I (σ := Nat × Nat) (fun σ => σ.1) (fun σ loc m => l.length ≤ σ.1 + σ.2 ∧ σ.2 ≤ l.length ∧ ∃ acc : List (Nat × Nat), loc = ([("octets", .bytes l), ("found", .ptr a), ("at", .int σ.2)] : Loc) ∧ m = (a, .app (acc.map fun p => .dat (prD p))) :: mh ∧ rdAll l.length l 0 = (acc ++ (rdAll σ.1 l σ.2).1, (rdAll σ.1 l σ.2).2) ∧ acc.length ≤ σ.2) (l.length, 0) ⟨by simp, by simp, [], rfl, rfl, rfl, Nat.le_refl _⟩ ?_
  intro hq1 loc m hq2
  obtain ⟨n, i⟩ := hq1
  refine absP fun P₀ hP₀ => ?_
  obtain ⟨h1, h2, acc, hls, hm, he, hac⟩ := hq2
  refine hP₀ ?_; clear hP₀ P₀
  dsimp only at h1 h2 hls he hac
  subst hm; subst hls
  have hfrz : (acc.map fun p => D.dat (prD p)) = (acc.map prD).map D.dat := by rw [List.map_map]; rfl
  repeat walk_at "w"
  refine BF_len_bytes (by lia) ?_
  repeat walk_at "w"
  refine ⟨fun hb => ?_, fun hb => ?_⟩
  · have hi : i < l.length := by have := of_decide_eq_true hb; lia
    obtain ⟨n, rfl⟩ : ∃ k, n = k + 1 := ⟨n - 1, by lia⟩
    have hu : rdAll (n + 1) l i = (match rd (l.drop i) with
      | .bad => ([], "number")
      | .cut => ([], "cut")
      | .ok v k => ((v, i + k) :: (rdAll n l (i + k)).1, (rdAll n l (i + k)).2)) := if_pos hi
    rw [hu] at he
    walk_at "n"
    refine EX.lax ?_
    repeat walk_at "w"
    refine FN.pure (by decide) (fun X => law_one_ok P hz (by lia) (X := X)) ?_
    cases hr : rd (l.drop i) with
    | bad =>
      rw [hr] at he
      dsimp only at he
      unfold oneD
      repeat walk_at "w"
      refine EV_tuple (EVs_cons (EV_frz ?_) (by intro _; with_unfolding_all rfl))
      repeat walk_at "w"
      refine ⟨a, acc.map prD, mh, rfl, .inl (by rw [hfrz]), ?_⟩
      repeat walk_at "w"
      refine ⟨by rw [sizeLine_eq]; simp, [.list (acc.map prD), .str "number"], rfl, [], _, rfl, ?_, rfl⟩
      rw [he]; unfold allD; rw [List.append_nil]
    | cut =>
      rw [hr] at he
      dsimp only at he
      unfold oneD
      repeat walk_at "w"
      refine EV_tuple (EVs_cons (EV_frz ?_) (by intro _; with_unfolding_all rfl))
      repeat walk_at "w"
      refine ⟨a, acc.map prD, mh, rfl, .inl (by rw [hfrz]), ?_⟩
      repeat walk_at "w"
      refine ⟨by rw [sizeLine_eq]; simp, [.list (acc.map prD), .str "cut"], rfl, [], _, rfl, ?_, rfl⟩
      rw [he]; unfold allD; rw [List.append_nil]
    | ok v k =>
      have hk := rd_ok hr
      rw [List.length_drop] at hk
      rw [hr] at he
      dsimp only at he
      unfold oneD
      repeat walk_at "w"
      refine BF_isinst (fun u₀ u₀ u₀ => ii_tuple_str) ?_
      repeat walk_at "w"
      refine EV_meth ?_
      repeat walk_at "w"
      refine MC_appU ⟨_, .head _⟩ ?_
      repeat walk_at "w"
      refine ⟨_, _, .head, by rw [List.length_map, sizeLine_eq]; lia, rfl, ?_⟩
      repeat walk_at "w"
      refine ITM_tuple (x := .int ((i : Int) + (k : Nat))) (by decide) (by decide) rfl ?_
      repeat walk_at "w"
      refine ⟨[("octets", .bytes l), ("found", .ptr a), ("at", .int (i + k : Nat))], ⟨rfl, rfl, ?_, trivial⟩, (n, i + k), by simp, by dsimp only; lia, by dsimp only; lia, acc ++ [(v, i + k)], rfl, ?_, ?_, by simp; lia⟩
      · rfl
      · rw [List.map_append]; rfl
      · rw [he, List.append_assoc]; rfl
  · have hi : ¬ i < l.length := by have := of_decide_eq_false hb; lia
    have he2 : rdAll n l i = (([], "end") : List (Nat × Nat) × Str) := by cases n with | zero => rfl | succ n => (unfold rdAll; rw [if_neg hi])
    rw [he2] at he
    walk_at "n"
    refine EX0_consA fun K' hK => (SX.to0 (SX_ret (EV_tuple (EVs_cons (EV_frz ?_) (by intro _; with_unfolding_all rfl)))))
    repeat walk_at "w"
    refine ⟨a, acc.map prD, mh, rfl, .inl (by rw [hfrz]), ?_⟩
    repeat walk_at "w"
    refine ⟨by rw [sizeLine_eq]; simp, [.list (acc.map prD), .str "end"], rfl, [], _, rfl, ?_, rfl⟩
    rw [he]; unfold allD; rw [List.append_nil]

end

section
set_option tactic.hygienic false
open PySem PySem.W PyProof.Rows
variable {G : Glb} {C C' : Cx} {loc loc' : Loc} {tmp tmp' : Tmp} {mh hid l l' : MH} {s s' s₁ : Shared}
variable {X : Addr → Loc → MH → Prop} {Q : D → MH → Prop} {Rt : D → MH → Prop} {N : Loc → MH → Prop}
noncomputable def digF : Nat → Nat → List UInt8
  | 0, v => [v.toUInt8]
  | n + 1, v => if v < 128 then [v.toUInt8] else (v % 128 + 128).toUInt8 :: digF n (v / 128)
noncomputable def digs (v : Nat) : List UInt8 := digF 8 v
noncomputable def digD (v : Int) : D := if 0 ≤ v ∧ v < 2 ^ 63 then .bytes (digs v.toNat) else .none
theorem dig_rng : ∀ (m n v k : Nat), m ≤ n → (m = 0 ∨ 128 ^ m ≤ v) → v < 128 ^ (m + 1) →
    octs ((rng (k : Int) 1 (m + 1)).map fun (i : Int) => ((v : Int).fdiv (128 ^ (i - (k : Int)).toNat)).fmod 128 + 128 * (if i - (k : Int) < (m : Int) then 1 else 0)) = digF n v
  | 0, n, v, k, h0, h1, h2 => by
    have hv : v < 128 := by simpa using h2
    have e : digF n v = [v.toUInt8] := by cases n with | zero => rfl | succ n => (unfold digF; rw [if_pos hv])
    rw [e]
    unfold rng octs
    simp only [rng, List.map_cons, List.map_nil]
    have e1 : (k : Int) - k = 0 := by lia
    rw [e1, if_neg (by lia)]
    show [(((v : Int).fdiv 1).fmod 128 + 128 * 0).toNat.toUInt8] = _
    rw [Int.fdiv_one, Int.fmod_eq_emod_of_nonneg _ (by decide)]
    congr 2
    lia
  | m + 1, 0, v, k, h0, _, _ => by lia
  | m + 1, n + 1, v, k, h0, h1, h2 => by
    have hv : ¬ v < 128 := by
      rcases h1 with h1 | h1
      · lia
      · have : 128 ^ 1 ≤ 128 ^ (m + 1) := Nat.pow_le_pow_right (by decide) (by lia)
        lia
    have ih := dig_rng m n (v / 128) (k + 1) (by lia) (by
      rcases h1 with h1 | h1
      · lia
      · cases m with
        | zero => exact .inl rfl
        | succ m => exact .inr ((Nat.le_div_iff_mul_le (by decide)).mpr (by rw [Nat.pow_succ] at h1; lia))) (by
      rw [Nat.div_lt_iff_lt_mul (by decide)]; rw [Nat.pow_succ] at h2; lia)
    have e : digF (n + 1) v = (v % 128 + 128).toUInt8 :: digF n (v / 128) := if_neg hv
    rw [e, ← ih]
    show octs ((rng (k : Int) 1 ((m + 1) + 1)).map _) = _
    rw [show rng (k : Int) 1 ((m + 1) + 1) = (k : Int) :: rng ((k + 1 : Nat) : Int) 1 (m + 1) from rfl, List.map_cons]
    unfold octs
    rw [List.map_cons]
    congr 1
    · have e1 : (k : Int) - k = 0 := by lia
      rw [e1, if_pos (by lia)]
      show (((v : Int).fdiv 1).fmod 128 + 128 * 1).toNat.toUInt8 = _
      rw [Int.fdiv_one, Int.fmod_eq_emod_of_nonneg _ (by decide)]
      congr 1
    · rw [List.map_map, List.map_map]
      refine List.map_congr_left fun i hi => ?_
      have hr := rng_mem hi
      have e2 : (i - (k : Int)).toNat = (i - ((k + 1 : Nat) : Int)).toNat + 1 := by lia
      have e3 : (v : Int).fdiv (128 ^ ((i - ((k + 1 : Nat) : Int)).toNat + 1)) = ((v / 128 : Nat) : Int).fdiv (128 ^ (i - ((k + 1 : Nat) : Int)).toNat) := by
        rw [Int.fdiv_eq_ediv_of_nonneg _ (Int.pow_nonneg (by decide)), Int.fdiv_eq_ediv_of_nonneg _ (Int.pow_nonneg (by decide)), Int.pow_succ, Int.mul_comm]
        rw [← Int.ediv_ediv_of_nonneg (by decide)]; rfl
      show (((v : Int).fdiv (128 ^ (i - (k : Int)).toNat)).fmod 128 + 128 * (if i - (k : Int) < ((m + 1 : Nat) : Int) then 1 else 0)).toNat.toUInt8 = ((((v / 128 : Nat) : Int).fdiv (128 ^ (i - ((k + 1 : Nat) : Int)).toNat)).fmod 128 + 128 * (if i - ((k + 1 : Nat) : Int) < (m : Int) then 1 else 0)).toNat.toUInt8
      rw [e2, e3]
      have e4 : (if i - (k : Int) < ((m + 1 : Nat) : Int) then (1 : Int) else 0) = (if i - ((k + 1 : Nat) : Int) < (m : Int) then 1 else 0) := by
        by_cases h : i - (k : Int) < ((m + 1 : Nat) : Int)
        · rw [if_pos h, if_pos (by lia)]
        · rw [if_neg h, if_neg (by lia)]
      rw [e4]

end

section
set_option tactic.hygienic false
open PySem PySem.W PyProof.Rows
variable {G : Glb} {C C' : Cx} {loc loc' : Loc} {tmp tmp' : Tmp} {mh hid l l' : MH} {s s' s₁ : Shared}
variable {X : Addr → Loc → MH → Prop} {Q : D → MH → Prop} {Rt : D → MH → Prop} {N : Loc → MH → Prop}
theorem SX.weak {st : Stmt} {loc' : Loc} (h : SX G C loc' mh st X Rt N) (hl : ∀ x d, loc'.lookup x = some d → loc.lookup x = some d) : SX G C loc mh st X Rt N :=
  fun tmp hid s R => h tmp hid s (R.weak hl)
theorem pow128 {m : Nat} (h : m ≤ 10) : ((128 : Int) ^ ((m : Nat) : Int).toNat) = ((128 ^ m : Nat) : Int) := by
  rw [Int.toNat_natCast]; push_cast; rfl
theorem law_digits_ok (P : PW G) {v : Int} {X : Addr → MH → Prop} : FN G 1 (.ref 333) [.int v] mh X fun d m => d = digD v ∧ m = mh := by
  refine (P.fun (x := "_law_digits") (a := 333) (i := 31) (by decide +kernel)).of (ps := ["value"]) P.ok rfl rfl rfl (by decide) (by decide) (by decide) rfl (fun fd vs a b c => by obtain ⟨x, rfl⟩ := len1 c; unfold bindArgs; rw [a, b]; kernel_rfl) fun C I CN => ?_
  refine EX0_consA fun K' hK => (SX.to0 (SX_if (TT.mono (Q := fun b m => b = decide (v < 0 ∨ 2 ^ 63 ≤ v) ∧ m = mh) ?_ (fun b m0 hq2 => ?_))))
  · refine TT.letQ ?_; intro Q₁
    repeat walk_at "w"
    refine ⟨fun h => ⟨?_, rfl⟩, fun h => ?_⟩
    · have := of_decide_eq_true h
      rw [decide_eq_true]; exact .inl this
    · repeat walk_at "w"
      refine OP_pow (by decide) (by decide) ?_
      have h0 := of_decide_eq_false h
      refine CMP_ge ⟨fun h => ?_, fun h => ?_⟩
      · have := of_decide_eq_true h
        refine ⟨?_, rfl⟩
        rw [decide_eq_true]; exact .inr this
      · have := of_decide_eq_false h
        repeat walk_at "w"
        refine ⟨?_, rfl⟩
        rw [decide_eq_false]
        rintro (q | q)
        · exact h0 q
        · exact this q
  obtain ⟨e1, e2⟩ := hq2
  subst e1; subst e2
  refine ⟨fun h => ?_, fun h => ?_⟩
  · repeat walk_at "w"
    refine ⟨?_, rfl⟩
    have := of_decide_eq_true h
    unfold digD
    rw [if_neg (by lia)]
  · have hv := of_decide_eq_false h
    obtain ⟨n, rfl⟩ : ∃ n : Nat, v = n := ⟨v.toNat, by lia⟩
    have hn : n < 2 ^ 63 := by lia
    have hD : digD (n : Int) = .bytes (digs n) := by unfold digD; rw [if_pos (by lia)]; rfl
    rw [hD]
    walk_at "n"
    refine EX_nil ?_
    walk_at "n"
    refine EX0_consA fun K' hK => (SX.to0 ?_)
    repeat walk_at "w"
    refine SX.weak (loc' := [("value", .int n), ("many", .int ((0 + 1 : Nat)))]) ?_ (LS.get ⟨rfl, rfl, trivial⟩)
    refine SX_while CN I (σ := Nat) (fun m => 10 - m) (fun m loc mm => loc = ([("value", .int n), ("many", .int (m + 1 : Nat))] : Loc) ∧ mm = m0 ∧ (m = 0 ∨ 128 ^ m ≤ n) ∧ m ≤ 8) 0 ⟨rfl, rfl, .inl rfl, by decide⟩ ?_
    intro m loc mm hq1
    refine absP fun P₀ hP₀ => ?_
    obtain ⟨e1, e2, e3, e4⟩ := hq1
    refine hP₀ ?_; clear hP₀ P₀
    subst e1; subst e2
    repeat walk_at "w"
    refine OP_pow (by lia) (by rw [show (Builtin.Int.intBits 128 : Int) = 8 by decide]; lia) ?_
    rw [pow128 (by lia)]
    refine CMP_ge ⟨fun h => ?_, fun h => ?_⟩
    · have h1 := of_decide_eq_true h
      have h2 : 128 ^ (m + 1) ≤ n := by exact_mod_cast h1
      have h3 : m + 1 ≤ 8 := by
        by_cases q : m = 8
        · subst q; exfalso; have : (128 : Nat) ^ (8 + 1) = 2 ^ 63 := by decide
          lia
        · lia
      walk_at "n"
      refine EX.lax ?_
      repeat walk_at "w"
      exact ⟨[("value", .int n), ("many", .int ((m + 1 + 1 : Nat)))], ⟨rfl, rfl, trivial⟩, m + 1, by lia, rfl, rfl, .inr h2, h3⟩
    · have h1 := of_decide_eq_false h
      have h2 : n < 128 ^ (m + 1) := by
        have : ¬ (128 ^ (m + 1) ≤ n) := fun q => h1 (by exact_mod_cast q)
        lia
      have hd := dig_rng m 8 n 0 e4 e3 h2
      repeat walk_at "w"
      refine EV_compP (ds := (rng 0 1 (m + 1)).map D.int) (gfun fun (i : Int) => ((n : Int).fdiv (128 ^ (i - ((0 : Nat) : Int)).toNat)).fmod 128 + 128 * (if i - ((0 : Nat) : Int) < (m : Int) then 1 else 0)) (CompOk.of (locF := [("value", .int n), ("many", .int (m + 1 : Nat))]) I rfl (by decide) (by decide) (by decide) (by decide) ?_) CN.hand (by rw [I.scope]; rfl) ?_ (by rw [List.length_map, rng_len]; lia) ?_ ?_
      · intro p hp
        rcases List.mem_cons.mp hp with rfl | hp
        · exact ⟨rfl, by show (("value" : Str), NameKind.free) ∈ _; decide⟩
        · rw [List.mem_singleton.mp hp]
          exact ⟨rfl, by show (("many" : Str), NameKind.free) ∈ _; decide⟩
      · repeat walk_at "w"
        refine BF_range1 fun r t u v => ?_
        exact ITB_range CN.hand (rng_small (by lia)) (rng_size _)
      · intro C2 S d hd
        obtain ⟨i, hi, rfl⟩ := List.mem_map.mp hd
        have hr := rng_mem hi
        have I2 := S.sc I
        have CN2 := S.can CN
        refine ⟨fun u₀ => ?_, fun h => absurd h (by decide)⟩
        repeat walk_at "w"
        have hb : (Builtin.Int.intBits 128 : Int) = 8 := by decide
        refine OP_pow hr.1 (by rw [hb]; lia) ?_
        have hp : (1 : Int) ≤ 128 ^ i.toNat ∧ (128 : Int) ^ i.toNat ≤ 128 ^ 9 := by
          constructor
          · exact Int.pow_pos (by decide)
          · have := Nat.pow_le_pow_right (show 0 < 128 by decide) (show i.toNat ≤ 9 by lia)
            exact_mod_cast this
        refine OP_floordiv (by lia) (by
          refine Nat.lt_of_lt_of_le (Nat.log2_lt (by lia) |>.mpr (show ((128 : Int) ^ i.toNat).natAbs < 2 ^ 64 by lia)) (by decide)) ?_
        repeat walk_at "w"
        refine OP_mod (by decide) ?_
        repeat walk_at "w"
        have e2 : (i - ((0 : Nat) : Int)).toNat = i.toNat := by lia
        have e3 : (if decide (i < ((m + 1 : Nat) : Int) - 1) = true then (1 : Int) else 0) = (if i - ((0 : Nat) : Int) < (m : Int) then 1 else 0) := by
          by_cases q : i < (m : Int)
          · rw [if_pos (by rw [decide_eq_true]; lia), if_pos (by lia)]
          · rw [if_neg (by rw [decide_eq_false]; decide; lia), if_neg (by lia)]
        rw [e3]
        refine OP_mul (IntMulOk.of_left (by decide)) ?_
        refine OP_add ⟨_, rfl, ?_, rfl⟩
        show some (PyData.int (((n : Int).fdiv (128 ^ (i - ((0 : Nat) : Int)).toNat)).fmod 128 + 128 * (if i - ((0 : Nat) : Int) < (m : Int) then 1 else 0))) = _
        rw [e2]
      · rw [gfun_map]
        repeat walk_at "w"
        refine BF_bytes_list CN.hand ?_ (by rw [List.length_map, rng_len]; lia) ?_
        · intro x hx
          obtain ⟨i, hi, rfl⟩ := List.mem_map.mp hx
          rw [Int.fmod_eq_emod_of_nonneg _ (by decide)]
          split <;> lia
        · refine ⟨?_, rfl⟩
          show D.bytes (octs ((rng ((0 : Nat) : Int) 1 (m + 1)).map _)) = _
          rw [hd, hD]; rfl

end

section
set_option tactic.hygienic false
open PySem PySem.W PyProof.Rows
variable {G : Glb} {C C' : Cx} {loc loc' : Loc} {tmp tmp' : Tmp} {mh hid l l' : MH} {s s' s₁ : Shared}
variable {X : Addr → Loc → MH → Prop} {Q : D → MH → Prop} {Rt : D → MH → Prop} {N : Loc → MH → Prop}
section guardsX
end guardsX
theorem Fun.ofX {n : Nat} {f : Addr} {d : Stmt} {ds : List D} {X : Addr → MH → Prop} {Q : D → MH → Prop} {mh : MH} (ps : List Str)
    (GO : G.Ok) (F : Fun G f d) (hco : (scopeOf d).isCoroutine = false) (hgen : (scopeOf d).isGenerator = false) (hk : (scopeOf d).kind = .function)
    (hcn : (cellNames (scopeOf d).names).Nodup) (hkind : ∀ x ∈ ps, (scopeOf d).names.lookup x = some .local ∨ (scopeOf d).names.lookup x = some .cell) (hnd : ps.Nodup) (hlen : ps.length = ds.length)
    (hbind : ∀ (fd : FuncData) (vs : List Value), fd.params = argsOf d → fd.defaults = .none → vs.length = ps.length → bindArgs fd ⟨vs, []⟩ = pure (ps.zip vs))
    (h : SEXX G n (scopeOf d) (ps.zip ds) mh (bodyOf d) X Q) : FNX G (n + 1) (.ref f) ds mh X Q := by
  refine absP fun P₀ hP₀ => ?_
  obtain ⟨fd, A, B, Cc, Dd, Ee⟩ := F.ex
  refine hP₀ ?_; clear hP₀ P₀
  exact FNX_intro GO A B (by rw [Cc]; exact hco) (by rw [Cc]; exact hgen) (by rw [Cc]; exact hk) (by rw [Cc]; exact hcn) (fun x hx => by rw [Cc]; exact hkind x hx) hnd hlen (fun vs hv => hbind fd vs Dd Ee hv) (by rw [Cc]; exact h)
theorem FNX.more {n m : Nat} {f : Value} {ds : List D} {X : Addr → MH → Prop} {Q : D → MH → Prop} (hm : n ≤ m) (h : FNX G n f ds mh X Q) : FNX G m f ds mh X Q := fun C loc tmp hid s vs c R V => h C loc tmp hid s vs (c.less hm) R V
theorem FNX.mono {n : Nat} {f : Value} {ds : List D} {X X' : Addr → MH → Prop} {Q Q' : D → MH → Prop} (h : FNX G n f ds mh X Q) (hq : ∀ d m, Q d m → Q' d m) (hx : ∀ c m, X c m → X' c m) : FNX G n f ds mh X' Q' :=
  fun C loc tmp hid s vs c R V => codeX_mono (h C loc tmp hid s vs c R V) fun r s' q => by
    cases r with
    | ok f => cases f with
      | ret v => obtain ⟨d, m, a, b⟩ := q; exact ⟨d, m, a, hq d m b⟩
      | _ => exact q
    | error v => exact EErr.mono (fun c l m hq1 => by obtain ⟨e, z⟩ := hq1; exact ⟨e, hx c m z⟩) q
theorem EVX.mono {e : Expr} {Q' : D → MH → Prop} {X' : Addr → Loc → MH → Prop} (h : EVX G C loc mh e X Q) (hq : ∀ d m, Q d m → Q' d m) (hx : ∀ c l m, X c l m → X' c l m) : EVX G C loc mh e X' Q' :=
  fun tmp hid s R => wpX_mono (h tmp hid s R) (fun v s' hq2 => by obtain ⟨d, m, R', q⟩ := hq2; exact ⟨d, m, R', hq _ _ q⟩) fun u₀ u₀ x => x.mono hx
theorem EXX.lax {ss : List Stmt} (h : EXX G C loc mh ss X Rt fun l m => ∃ l0, LS l0 l ∧ N l0 m) : EXX G C loc mh ss X Rt N := fun tmp hid s R =>
  wpX_mono (h tmp hid s R) (fun f s' q => by
    cases f with
    | next => obtain ⟨l, m, R1, l0, hl, hN⟩ := q; exact ⟨l0, m, R1.weak hl.get, hN⟩
    | ret v => exact q
    | _ => exact q) fun u₀ u₀ x => x
theorem SXX.weak {st : Stmt} {loc' : Loc} (h : SXX G C loc' mh st X Rt N) (hl : ∀ x d, loc'.lookup x = some d → loc.lookup x = some d) : SXX G C loc mh st X Rt N :=
  fun tmp hid s R => h tmp hid s (R.weak hl)
theorem EXX.weak {ss : List Stmt} {loc' : Loc} (h : EXX G C loc' mh ss X Rt N) (hl : ∀ x d, loc'.lookup x = some d → loc.lookup x = some d) : EXX G C loc mh ss X Rt N :=
  fun tmp hid s R => h tmp hid s (R.weak hl)
theorem EXX0.weak {ss : List Stmt} {loc' : Loc} (h : EXX0 G C loc' mh ss X Rt N) (hl : ∀ x d, loc'.lookup x = some d → loc.lookup x = some d) : EXX0 G C loc mh ss X Rt N :=
  fun hid s R => h hid s (R.weak hl)
theorem MCX_appU {a : Addr} {e : Expr} {pos : Pos} {P : D → MH → Prop} (h : ∃ x, (a, AO.ba x) ∈ mh) (h2 : EVX G C loc mh e X fun d m => Ex3 fun x n m' => And6 (d = .int n) (Upd a (.ba x) (.ba (x ++ [n.toNat.toUInt8])) m m') (0 ≤ n) (n < 256) (x.length < 16777216) (P .none m'))
    (he : ∀ env, starEach [e] env = (false, eval e env) :: starEach [] env := by intro _; rfl) (hp : ∀ env, (backTo pos (starEach [e] env)).any (·.1) = false := by intro _; rfl) : MCX G C (.ptr a) "append" pos [e] loc mh X P :=
  MCX_ba_append h (h2.mono (fun d m hq4 => by obtain ⟨x, n, m', e1, U, a1, a2, a3, a4⟩ := hq4; exact ⟨x, n, m', e1, a1, a2, a3, fun hid => U.app hid, a4⟩) fun u₀ u₀ u₀ x => x) he hp
theorem MCX_extU {a : Addr} {e : Expr} {pos : Pos} {P : D → MH → Prop} (h : ∃ x, (a, AO.ba x) ∈ mh) (h2 : EVX G C loc mh e X fun d m => Ex3 fun x y m' => And4 (d = .bytes y) (Upd a (.ba x) (.ba (x ++ y)) m m') (x.length + y.length ≤ 16777216) (P .none m'))
    (he : ∀ env, starEach [e] env = (false, eval e env) :: starEach [] env := by intro _; rfl) (hp : ∀ env, (backTo pos (starEach [e] env)).any (·.1) = false := by intro _; rfl) : MCX G C (.ptr a) "extend" pos [e] loc mh X P :=
  MCX_ba_extend h (h2.mono (fun d m hq5 => by obtain ⟨x, y, m', e1, U, a1, a2⟩ := hq5; exact ⟨x, y, m', e1, a1, fun hid => U.app hid, a2⟩) fun u₀ u₀ u₀ x => x) he hp
theorem and127 (v : Int) : Builtin.bitAnd v 127 = v % 128 := kbt_mask v 7
theorem and255 (v : Int) : Builtin.bitAnd v 255 = v % 256 := kbt_mask v 8
theorem or128 {v : Int} (h0 : 0 ≤ v) (h1 : v < 128) : Builtin.bitOr v 128 = v + 128 := by
  have := kbt_bit v 7
  rw [bitOr_and, show (128 : Int) = 2 ^ 7 by decide, this]
  have : v / 2 ^ 7 = 0 := Int.ediv_eq_zero_of_lt h0 (by lia)
  rw [this]; lia
theorem and_zero : ∀ (k : Nat) (c v : Int), 0 ≤ v → v < 2 ^ k → Builtin.bitAnd v (c * 2 ^ k) = 0
  | 0, c, v, h0, h1 => by
    have : v = 0 := by lia
    subst this
    have := kbt_mask' (c * 2 ^ 0) 0
    simpa using this
  | k + 1, c, v, h0, h1 => by
    rw [kbt_halves]
    have e1 : c * 2 ^ (k + 1) / 2 = c * 2 ^ k := by rw [Int.pow_succ, ← Int.mul_assoc]; exact Int.mul_ediv_cancel _ (by decide)
    have e2 : c * 2 ^ (k + 1) % 2 = 0 := by rw [Int.pow_succ, ← Int.mul_assoc]; exact Int.mul_emod_left _ _
    rw [e1, e2, and_zero k c (v / 2) (by lia) (by rw [Int.pow_succ] at h1; lia)]
    simp
theorem or_join {k : Nat} {c v : Int} (h0 : 0 ≤ v) (h1 : v < 2 ^ k) : Builtin.bitOr v (c * 2 ^ k) = v + c * 2 ^ k := by
  rw [bitOr_and, and_zero k c v h0 h1]; lia

end

local macro_rules | `(tactic| walk_at "x") => do
  let t ← mFirst (← mX)
  `(tactic| with_reducible $t:tactic)

section
set_option tactic.hygienic false
open PySem PySem.W PyProof.Rows
variable {G : Glb} {C C' : Cx} {loc loc' : Loc} {tmp tmp' : Tmp} {mh hid l l' : MH} {s s' s₁ : Shared}
variable {X : Addr → Loc → MH → Prop} {Q : D → MH → Prop} {Rt : D → MH → Prop} {N : Loc → MH → Prop}
theorem digF_step {n v : Nat} (h : ¬ v < 128) : digF (n + 1) v = (v % 128 + 128).toUInt8 :: digF n (v / 128) := if_neg h
theorem digF_end {n v : Nat} (h : v < 128) : digF n v = [v.toUInt8] := by cases n with | zero => rfl | succ n => exact if_pos h
theorem digF_len : ∀ (n v : Nat), 1 ≤ (digF n v).length ∧ (digF n v).length ≤ n + 1
  | 0, v => ⟨Nat.le_refl _, Nat.le_refl _⟩
  | n + 1, v => by
    unfold digF
    split
    · simp
    · have := digF_len n (v / 128); simp; lia
theorem number_ok (P : PW G) {v : Nat} (hv : v < 2 ^ 63) {X : Addr → MH → Prop} : FNX G 1 (.ref 109) [.int v] mh X fun d m => d = .bytes (digs v) ∧ m = mh := by
  refine FNX.clean ?_
  refine (P.fun (x := "number") (a := 109) (i := 13) (by decide +kernel)).ofX (ps := ["value"]) P.ok rfl rfl rfl (by decide) (by decide) (by decide) rfl (fun fd vs a b c => by obtain ⟨x, rfl⟩ := len1 c; unfold bindArgs; rw [a, b]; kernel_rfl) fun C I CN => ?_
  refine EXX0.letR ?_; intro X₁ R₁ N₁
  refine EXX0_consA fun K' hK => (SXX.to0 (SX.x (SX_if (TT.mono (Q := fun b m => b = false ∧ m = mh) ?_ (fun b m0 hq3 => ?_)))))
  · refine TT.letQ ?_; intro Q₁
    repeat walk_at "w"
    refine ⟨fun h => by have := of_decide_eq_true h; lia, fun u₀ => ?_⟩
    repeat walk_at "w"
    refine OP_rshift (by decide) ?_
    have e : (v : Int).fdiv (2 ^ (63 : Int).toNat) = 0 := by
      rw [Int.fdiv_eq_ediv_of_nonneg _ (by decide)]
      exact Int.ediv_eq_zero_of_lt (by lia) (by exact_mod_cast hv)
    rw [e]
    repeat walk_at "w"
    exact ⟨rfl, rfl⟩
  obtain ⟨e1, e2⟩ := hq3
  subst e1; subst e2
  refine ⟨fun h => absurd h (by decide), fun u₀ => EX_nil ?_⟩
  walk_at "n"
  refine EXX0_consA fun K' hK => (SXX.to0 (SXX_assign (I.sto (.inl rfl)) (EVX_callt0 P.ok ((I.kindOf _).trans (by rfl)) (P.nob (("bytearray" : Str), .type "bytearray") (by decide)) (typ_boot (("bytearray" : Str), .type "bytearray") (by decide)) (by decide) (BFX_ba0 fun a => ?_)) (by intro _; with_unfolding_all rfl)))
  walk_at "n"
  refine EXX0.weak (loc' := [("value", .int v), ("found", .ptr a)]) ?_ (LS.get ⟨rfl, rfl, trivial⟩)
  walk_at "n"
  refine EXX0_consA fun K' hK => (SXX.to0 ?_)
  refine SXX_while CN I (σ := Nat × Nat) (fun σ => σ.1) (fun σ loc m => loc = ([("value", .int σ.2), ("found", .ptr a)] : Loc) ∧ σ.2 < 128 ^ (σ.1 + 1) ∧ σ.1 ≤ 8 ∧ ∃ acc, m = (a, .ba acc) :: m0 ∧ digs v = acc ++ digF σ.1 σ.2 ∧ acc.length ≤ 8 - σ.1) (8, v) ⟨rfl, (show v < 128 ^ (8 + 1) by rw [show (128 : Nat) ^ (8 + 1) = 2 ^ 63 by decide]; exact hv), Nat.le_refl _, [], rfl, rfl, Nat.zero_le _⟩ ?_
  intro hq1 loc m hq2
  obtain ⟨n, u⟩ := hq1
  refine absP fun P₀ hP₀ => ?_
  obtain ⟨e1, h1, h2, acc, e2, h3, h4⟩ := hq2
  refine hP₀ ?_; clear hP₀ P₀
  dsimp only at e1 h1 h2 h3 h4
  subst e1; subst e2
  refine TT.x ?_
  repeat walk_at "w"
  refine ⟨fun h => ?_, fun h => ?_⟩
  · have hu : ¬ u < 128 := by have := of_decide_eq_true h; lia
    obtain ⟨n, rfl⟩ : ∃ k, n = k + 1 := by
      cases n with
      | zero => exfalso; simp at h1; lia
      | succ k => exact ⟨k, rfl⟩
    rw [digF_step hu] at h3
    walk_at "n"
    refine EXX.lax ?_
    walk_at "n"
    refine EXX_consA fun K' hK => (SXX_expr (EVX_meth (EV.x ?_)) (I.inter rfl) (by intro _; with_unfolding_all rfl))
    repeat walk_at "w"
    refine MCX_appU ⟨_, .head _⟩ (EV.x ?_)
    repeat walk_at "w"
    rw [and127, or128 (by lia) (by lia)]
    refine ⟨_, _, _, rfl, .head, by lia, by lia, by lia, rfl, ?_⟩
    walk_at "n"
    refine EXX_consA fun K' hK => (SX.x (SX_augName (I.sto (.inl rfl)) (by with_unfolding_all rfl) ?_))
    repeat walk_at "w"
    refine IOP_rshift (by decide) ?_
    walk_at "n"
    refine EXX_nil ?_
    have e : (u : Int).fdiv (2 ^ (7 : Int).toNat) = ((u / 128 : Nat) : Int) := by
      rw [Int.fdiv_eq_ediv_of_nonneg _ (by decide)]; rfl
    rw [e]
    refine ⟨[("value", .int (u / 128 : Nat)), ("found", .ptr a)], ⟨rfl, rfl, trivial⟩, (n, u / 128), by simp, rfl, ?_, by dsimp only; lia, _, rfl, ?_, by simp; lia⟩
    · dsimp only
      rw [Nat.div_lt_iff_lt_mul (by decide)]; rw [Nat.pow_succ] at h1; lia
    · rw [h3, List.append_assoc]
      have : ((u : Int) % 128 + 128).toNat = u % 128 + 128 := by lia
      rw [this]; rfl
  · have hu : u < 128 := by have := of_decide_eq_false h; lia
    rw [digF_end hu] at h3
    walk_at "n"
    refine EXX0_consA fun K' hK => (SXX.to0 (SXX_expr (EVX_meth (EV.x ?_)) (I.inter rfl) (by intro _; with_unfolding_all rfl)))
    repeat walk_at "w"
    refine MCX_appU ⟨_, .head _⟩ (EV.x ?_)
    repeat walk_at "w"
    refine ⟨_, _, _, rfl, .head, by lia, by lia, by lia, rfl, ?_⟩
    walk_at "n"
    refine EXX0_consA fun K' hK => (SXX.to0 (SX.x (SX_ret ?_)))
    repeat walk_at "w"
    refine BF_bytes_ba (.head _) (by simp; lia) ?_
    refine ⟨[_], _, rfl, ?_, rfl⟩
    rw [h3, Int.toNat_natCast]
theorem number_no (P : PW G) {v : Int} (hv : v < 0 ∨ 2 ^ 63 ≤ v) : FNX G 3 (.ref 109) [.int v] mh (fun c m => c = 100 ∧ m = mh) fun u₀ u₀ => False := by
  refine (P.fun (x := "number") (a := 109) (i := 13) (by decide +kernel)).ofX (ps := ["value"]) P.ok rfl rfl rfl (by decide) (by decide) (by decide) rfl (fun fd vs a b c => by obtain ⟨x, rfl⟩ := len1 c; unfold bindArgs; rw [a, b]; kernel_rfl) fun C I CN => ?_
  refine EXX0.letR ?_; intro X₁ R₁ N₁
  refine EXX0_consA fun K' hK => (SXX.to0 (SX.x (SX_if (TT.mono (Q := fun b m => b = true ∧ m = mh) ?_ (fun b m0 hq4 => ?_)))))
  · refine TT.letQ ?_; intro Q₁
    repeat walk_at "w"
    refine ⟨fun h => ⟨rfl, rfl⟩, fun h => ?_⟩
    repeat walk_at "w"
    refine OP_rshift (by decide) ?_
    have h0 := of_decide_eq_false h
    repeat walk_at "w"
    have e : ((v.fdiv (2 ^ (63 : Int).toNat)) != 0) = true := by
      rw [Int.fdiv_eq_ediv_of_nonneg _ (by decide)]
      have : (2 : Int) ^ (63 : Int).toNat = 9223372036854775808 := by decide
      rw [this, bne_iff_ne]; lia
    rw [e]
    exact ⟨fun u₀ => ⟨rfl, rfl⟩, fun h => by cases h⟩
  obtain ⟨e1, e2⟩ := hq4
  subst e1; subst e2
  refine ⟨fun u₀ => ?_, fun h => absurd h (by decide)⟩
  repeat walk_at "w"
  exact ⟨rfl, rfl⟩

end

section
set_option tactic.hygienic false
open PySem PySem.W PyProof.Rows
variable {G : Glb} {C C' : Cx} {loc loc' : Loc} {tmp tmp' : Tmp} {mh hid l l' : MH} {s s' s₁ : Shared}
variable {X : Addr → Loc → MH → Prop} {Q : D → MH → Prop} {Rt : D → MH → Prop} {N : Loc → MH → Prop}
theorem law_written_ok (P : PW G) {v : Int} {X : Addr → MH → Prop} : FNX G 4 (.ref 340) [.int v] mh X fun d m => d = digD v ∧ m = mh := by
  refine (P.fun (x := "_law_written") (a := 340) (i := 32) (by decide +kernel)).ofX (ps := ["value"]) P.ok rfl rfl rfl (by decide) (by decide) (by decide) rfl (fun fd vs a b c => by obtain ⟨x, rfl⟩ := len1 c; unfold bindArgs; rw [a, b]; kernel_rfl) fun C I CN => ?_
  refine EXX0.letR ?_; intro X₁ R₁ N₁
  refine EXX0_consA fun K' hK => (SXX0_try P.ok CN I ?_)
  walk_at "n"
  refine EXX0_consA fun K' hK => (SXX.to0 (SXX_ret ?_))
  repeat walk_at "x"
  by_cases hv : 0 ≤ v ∧ v < 2 ^ 63
  · obtain ⟨n, rfl⟩ : ∃ n : Nat, v = n := ⟨v.toNat, by lia⟩
    refine ((number_ok P (v := n) (by lia) (X := fun u₀ u₀ => False)).more (by decide)).mono (fun d m hq1 => ?_) fun c m z => z.elim
    obtain ⟨e1, e2⟩ := hq1
    dsimp only [R₁]
    unfold digD
    rw [if_pos hv]
    exact ⟨e1, e2⟩
  · refine ((number_no P (v := v) (by lia)).more (by decide)).mono (fun d m z => z.elim) fun c m ⟨e1, e2⟩ => ?_
    subst e1; subst e2
    refine HND_hit 100 P I.sc (by rfl) (by decide) (by decide) (by decide) rfl (by decide) fun A => ?_
    · refine EX0_cons (SX.to0 ?_)
      repeat walk_at "w"
      dsimp only [R₁]
      unfold digD
      rw [if_neg hv]
      exact ⟨rfl, rfl⟩

end

section
set_option tactic.hygienic false
open PySem PySem.W PyProof.Rows
variable {G : Glb} {C C' : Cx} {loc loc' : Loc} {tmp tmp' : Tmp} {mh hid l l' : MH} {s s' s₁ : Shared}
variable {X : Addr → Loc → MH → Prop} {Q : D → MH → Prop} {Rt : D → MH → Prop} {N : Loc → MH → Prop}
theorem SX_attrU {o e : Expr} {x : Str} {p1 pos : Pos} (P : PW G) (h : EV G C loc mh e X fun d m => EV G C loc m o X fun d1 m1 => ∃ a Cl dx fs m2, d1 = .ptr a ∧ Upd a (.inst Cl dx fs) (.inst Cl dx (setF x d fs)) m1 m2 ∧ Cl ∈ ([303, 206, 178] : List Addr) ∧ (Cl, x) ∈ fldTab ∧ (setF x d fs).length ≤ 1000 ∧ N loc m2)
    (hs : ∀ env, swapsWith e (some (.Attribute o x p1)) pos.line env = pure false := by intro _; rfl) : SX G C loc mh (.Assign [.Attribute o x p1] e pos) X Rt N :=
  SX_attr (h.mono (fun u₀ u₀ h => h.mono (fun u₀ u₀ hq1 => by obtain ⟨a, Cl, dx, fs, m2, e1, U, h1, h2, h3, h4⟩ := hq1; exact ⟨a, Cl, dx, fs, m2, e1, P.ok, (P.rds Cl h1).2, (P.fld _ h2).2, h3, fun hid => U.app hid, h4⟩) fun u₀ u₀ u₀ x => x) fun u₀ u₀ u₀ x => x) hs
theorem EV_fld {o : Expr} {x : Str} {pos : Pos} (P : PW G) (h : EV G C loc mh o X fun d m => Ex5 fun a Cl dx fs v => And7 (d = .ptr a) ((a, AO.inst Cl dx fs) ∈ m) (Cl ∈ ([303, 206, 178] : List Addr)) ((Cl, x) ∈ fldTab) (fs.lookup x = some v) (∀ u, v ≠ .con u) (Q v m))
    (he : ∀ env, eval (.Attribute o x pos) env = (do let v ← eval o env; standAt pos.atName; let r ← holding [v] (getAttr v x true); letTemporaryGo o v r; pure r) := by intro _; rfl) (hl : ∀ v r, letTemporaryGo o v r = pure () := by intro _ _; rfl) : EV G C loc mh (.Attribute o x pos) X Q :=
  EV_attr (h.mono (fun u₀ u₀ hq2 => by
    refine absP fun P₀ hP₀ => ?_
    obtain ⟨a, Cl, dx, fs, v, e1, hm, h1, h2, h3, h4, h5⟩ := hq2
    refine hP₀ ?_; clear hP₀ P₀
    subst e1
    exact GA_field P.ok (P.rds Cl h1).1 (P.fld _ h2).1 hm h3 h4 h5) fun u₀ u₀ u₀ x => x) he hl
theorem MC_m {n : Nat} {a Cl dx f : Addr} {i j : Nat} {fs : List (Str × D)} {x : Str} {pos : Pos} {e : Expr} {args : List Expr} {Pq : D → MH → Prop} (P : PW G) (CN : Can G C n) (hm : (Cl, x, f, i, j) ∈ methTab) (hi : (a, AO.inst Cl dx fs) ∈ mh) (hx : fs.lookup x = none)
    (h : EVs G C loc mh (e :: args) X fun ds m => FN G n (.ref f) (.ptr a :: ds) m (fun c m' => X c loc m') Pq) (hplain : ∀ env, starEach (e :: args) env = (false, eval e env) :: starEach args env := by intro _; rfl) : MC G C (.ptr a) x pos (e :: args) loc mh X Pq := by
  obtain ⟨T, F⟩ := P.mth _ hm
  obtain ⟨fd, A, _⟩ := F.ex
  exact MC_own P.ok CN T A hi hx h hplain
theorem MC_m0 {n : Nat} {a Cl dx f : Addr} {i j : Nat} {fs : List (Str × D)} {x : Str} {pos : Pos} {Pq : D → MH → Prop} (P : PW G) (CN : Can G C n) (hm : (Cl, x, f, i, j) ∈ methTab) (hi : (a, AO.inst Cl dx fs) ∈ mh) (hx : fs.lookup x = none)
    (h : FN G n (.ref f) [.ptr a] mh (fun c m' => X c loc m') Pq) : MC G C (.ptr a) x pos [] loc mh X Pq := by
  obtain ⟨T, F⟩ := P.mth _ hm
  obtain ⟨fd, A, _⟩ := F.ex
  exact MC_own0 P.ok CN T A hi hx h
noncomputable def octA (l : List UInt8) (p : Nat) (dx : Addr) : AO := .inst 303 dx [("data", .bytes l), ("stop", .int l.length), ("place", .int p)]
theorem oct_init (P : PW G) {x dx : Addr} {l : List UInt8} (hz : l.length ≤ 100000) {X : Addr → MH → Prop} : FN G 2 (.ref 244) [.ptr x, .bytes l] ((x, .inst 303 dx []) :: mh) X fun d m => d = .none ∧ m = (x, octA l 0 dx) :: mh := by
  refine absP fun P₀ hP₀ => ?_
  obtain ⟨T, oT, t, nT, F, hT, hT2⟩ := P.oin
  refine hP₀ ?_; clear hP₀ P₀
  refine absP fun P₀ hP₀ => ?_
  obtain ⟨fd, A, B, Cc, Dd, Ee⟩ := F.ex
  refine hP₀ ?_; clear hP₀ P₀
  refine FN_of (ps := ["self", "octets", "start", "end"]) (es := [.ptr x, .bytes l, .int 0, .none]) P.ok A B (by rw [Cc]; rfl) (by rw [Cc]; rfl) (by rw [Cc]; rfl) (by rw [Cc]; decide) (by rw [Cc]; decide) (by decide) rfl (fun M s vs base V => ?_) ?_
  · obtain ⟨v1, v2, rfl⟩ := len2 V.length
    refine ⟨[v1, v2, .int 0 t, .none], ?_, ?_⟩
    · have h₁ : ∃ k : Option (Array Value) → Sem (List (Str × Value)), bindArgs fd ⟨[v1, v2], []⟩ = seqItems? fd.defaults >>= k ∧ k (some #[.int 0 t, .none]) = pure ([("self" : Str), "octets", "start", "end"].zip [v1, v2, .int 0 t, .none]) := by
        unfold bindArgs
        rw [Dd]
        exact ⟨_, rfl, by kernel_rfl⟩
      obtain ⟨k, h1, h2⟩ := h₁
      exact BindsTo.of_defaults Ee (base _ _ hT) hT2 h1 h2
    · cases V with | cons a V => cases V with | cons b V => cases V with | nil => exact .cons a (.cons b (.cons (.dat (.int 0 t)) (.cons (.dat .none) .nil)))
  · rw [Cc]
    intro C I CN
    walk_at "n"
    refine EX0_consA fun K' hK => (SX.to0 (SX_attrU P ?_ (by intro _; with_unfolding_all rfl)))
    repeat walk_at "w"
    refine BF_bytes_bytes ?_
    repeat walk_at "w"
    refine ⟨x, _, _, _, _, rfl, .head, by decide, by decide, Nat.le_of_ble_eq_true (by with_unfolding_all rfl), ?_⟩
    walk_at "n"
    refine EX0_consA fun K' hK => (SX.to0 (SX_attrU P ?_ (by intro _; with_unfolding_all rfl)))
    repeat walk_at "w"
    refine EV_fld P ?_ (by intro _; with_unfolding_all rfl) (by intro _ _; with_unfolding_all rfl)
    repeat walk_at "w"
    refine ⟨x, _, _, _, .bytes l, rfl, .head _, by decide, by decide, rfl, (fun u h => by cases h), ?_⟩
    repeat walk_at "w"
    refine FN.pure (by decide) (fun X => end_of_ok P (l := l) (by lia) (X := X)) ?_
    repeat walk_at "w"
    refine ⟨x, _, _, _, _, rfl, .head, by decide, by decide, Nat.le_of_ble_eq_true (by with_unfolding_all rfl), ?_⟩
    walk_at "n"
    refine EX0_consA fun K' hK => (SX.to0 (SX_attrU P ?_ (by intro _; with_unfolding_all rfl)))
    repeat walk_at "w"
    refine ⟨x, _, _, _, _, rfl, .head, by decide, by decide, Nat.le_of_ble_eq_true (by with_unfolding_all rfl), ?_⟩
    repeat walk_at "w"
    exact ⟨rfl, rfl⟩
theorem oct_left (P : PW G) {x dx : Addr} {l : List UInt8} {p : Nat} {X : Addr → MH → Prop} : FN G 1 (.ref 251) [.ptr x] [(x, octA l p dx)] X fun d m => d = .int ((l.length : Int) - p) ∧ m = [(x, octA l p dx)] := by
  refine (P.mth (303, "left", 251, 26, 1) (by decide)).2.of (ps := ["self"]) P.ok rfl rfl rfl (by decide) (by decide) (by decide) rfl (fun fd vs a b c => by obtain ⟨x, rfl⟩ := len1 c; unfold bindArgs; rw [a, b]; kernel_rfl) fun C I CN => ?_
  refine EX0.letR ?_; intro X₁ R₁ N₁
  refine EX0_consA fun K' hK => (SX.to0 (SX_ret (EV_bin ?_)))
  refine EV_fld P ?_ (by intro _; with_unfolding_all rfl) (by intro _ _; with_unfolding_all rfl)
  repeat walk_at "w"
  refine ⟨x, _, _, _, .int l.length, rfl, .head _, by decide, by decide, rfl, (fun u h => by cases h), ?_⟩
  refine EV_fld P ?_ (by intro _; with_unfolding_all rfl) (by intro _ _; with_unfolding_all rfl)
  repeat walk_at "w"
  refine ⟨x, _, _, _, .int p, rfl, .head _, by decide, by decide, rfl, (fun u h => by cases h), ?_⟩
  repeat walk_at "w"
  exact ⟨rfl, rfl⟩
theorem oct_take (P : PW G) {x dx : Addr} {l : List UInt8} {p k : Nat} (hz : l.length ≤ 100000) (hk : p + k ≤ l.length) {X : Addr → MH → Prop} : FN G 2 (.ref 265) [.ptr x, .int k] [(x, octA l p dx)] X fun d m => d = .bytes ((l.drop p).take k) ∧ m = [(x, octA l (p + k) dx)] := by
  refine (P.mth (303, "take", 265, 26, 3) (by decide)).2.of (ps := ["self", "count"]) P.ok rfl rfl rfl (by decide) (by decide) (by decide) rfl (fun fd vs a b c => by obtain ⟨x, y, rfl⟩ := len2 c; unfold bindArgs; rw [a, b]; kernel_rfl) fun C I CN => ?_
  refine EX0.letR ?_; intro X₁ R₁ N₁
  refine EX0_consA fun K' hK => (SX.to0 ?_)
  repeat walk_at "w"
  refine FN.pure (by decide) (fun X => need_count_ok P (k := (k : Int)) (by lia) (X := X)) ?_
  refine ⟨rfl, ?_⟩
  walk_at "n"
  refine EX0_consA fun K' hK => (SX.to0 ?_)
  repeat walk_at "w"
  refine EV_meth ?_ (by intro _; exact ⟨_, rfl⟩)
  repeat walk_at "w"
  refine MC_m0 P CN (i := 26) (j := 1) (f := 251) (by decide) (.head _) rfl ?_
  refine FN.pure (by decide) (fun X => oct_left P (X := X)) ?_
  repeat walk_at "w"
  refine ⟨fun h => by have := of_decide_eq_true h; lia, fun h => ?_⟩
  walk_at "n"
  refine EX_nil ?_
  walk_at "n"
  refine EX0_consA fun K' hK => (SX.to0 (SX_augAttr (d := .int p) ?_))
  repeat walk_at "w"
  refine ⟨x, 303, dx, [("data", .bytes l), ("stop", .int l.length), ("place", .int p)], rfl, P.ok, (P.rds 303 (by decide)).1, (P.rds 303 (by decide)).2, (P.fld (303, "place") (by decide)).1, (P.fld (303, "place") (by decide)).2, .head _, rfl, (fun u h => by cases h), ?_⟩
  repeat walk_at "w"
  refine IOP_add ⟨[("data", .bytes l), ("stop", .int l.length), ("place", .int p)], [(x, octA l (p + k) dx)], Nat.le_of_ble_eq_true (by with_unfolding_all rfl), fun hid => .head, ?_⟩
  walk_at "n"
  refine EX0_consA fun K' hK => (SX.to0 (SX_ret (EV_sliceT ?_ (by intro _ _; with_unfolding_all rfl))))
  refine EV_fld P ?_ (by intro _; with_unfolding_all rfl) (by intro _ _; with_unfolding_all rfl)
  repeat walk_at "w"
  refine ⟨x, _, _, _, .bytes l, rfl, .head _, by decide, by decide, rfl, (fun u h => by cases h), ?_⟩
  refine EVp_some (EV_bin ?_)
  refine EV_fld P ?_ (by intro _; with_unfolding_all rfl) (by intro _ _; with_unfolding_all rfl)
  repeat walk_at "w"
  refine ⟨x, _, _, _, .int ((p : Int) + k), rfl, .head _, by decide, by decide, rfl, (fun u h => by cases h), ?_⟩
  repeat walk_at "w"
  refine EV_fld P ?_ (by intro _; with_unfolding_all rfl) (by intro _ _; with_unfolding_all rfl)
  repeat walk_at "w"
  refine ⟨x, _, _, _, .int ((p : Int) + k), rfl, .head _, by decide, by decide, rfl, (fun u h => by cases h), ?_⟩
  refine ⟨_, rfl, ?_⟩
  refine SLC_bytes (by lia) ?_
  have e : cut l (some ((p : Int) + k - k)) (some ((p : Int) + k)) = (l.drop p).take k := by
    have := cut_nn l p (p + k)
    rw [Nat.add_sub_cancel_left] at this
    rw [← this, Int.add_sub_cancel]; rfl
  rw [e]
  exact ⟨rfl, rfl⟩
theorem oct_take_no (P : PW G) {x dx : Addr} {l : List UInt8} {p k : Nat} (hk : l.length < p + k) : FN G 3 (.ref 265) [.ptr x, .int k] [(x, octA l p dx)] (fun c m => c = 52 ∧ m = [(x, octA l p dx)]) fun u₀ u₀ => False := by
  refine (P.mth (303, "take", 265, 26, 3) (by decide)).2.of (ps := ["self", "count"]) P.ok rfl rfl rfl (by decide) (by decide) (by decide) rfl (fun fd vs a b c => by obtain ⟨x, y, rfl⟩ := len2 c; unfold bindArgs; rw [a, b]; kernel_rfl) fun C I CN => ?_
  refine EX0.letR ?_; intro X₁ R₁ N₁
  refine EX0_consA fun K' hK => (SX.to0 ?_)
  repeat walk_at "w"
  refine FN.pure (by decide) (fun X => need_count_ok P (k := (k : Int)) (by lia) (X := X)) ?_
  refine ⟨rfl, ?_⟩
  walk_at "n"
  refine EX0_consA fun K' hK => (SX.to0 ?_)
  repeat walk_at "w"
  refine EV_meth ?_ (by intro _; exact ⟨_, rfl⟩)
  repeat walk_at "w"
  refine MC_m0 P CN (i := 26) (j := 1) (f := 251) (by decide) (.head _) rfl ?_
  refine FN.pure (by decide) (fun X => oct_left P (X := X)) ?_
  repeat walk_at "w"
  refine ⟨fun h => ?_, fun h => by have := of_decide_eq_false h; lia⟩
  repeat walk_at "w"
  exact ⟨rfl, rfl⟩
theorem oct_octet (P : PW G) {x dx : Addr} {l : List UInt8} {p : Nat} {c : UInt8} (hz : l.length ≤ 100000) (hc : l[p]? = some c) {X : Addr → MH → Prop} : FN G 3 (.ref 279) [.ptr x] [(x, octA l p dx)] X fun d m => d = D.byte c ∧ m = [(x, octA l (p + 1) dx)] := by
  refine (P.mth (303, "octet", 279, 26, 5) (by decide)).2.of (ps := ["self"]) P.ok rfl rfl rfl (by decide) (by decide) (by decide) rfl (fun fd vs a b c => by obtain ⟨x, rfl⟩ := len1 c; unfold bindArgs; rw [a, b]; kernel_rfl) fun C I CN => ?_
  refine EX0.letR ?_; intro X₁ R₁ N₁
  refine EX0_consA fun K' hK => (SX.to0 ?_)
  repeat walk_at "w"
  refine EV_meth ?_ (by intro _; exact ⟨_, rfl⟩)
  repeat walk_at "w"
  refine MC_m P CN (i := 26) (j := 3) (f := 265) (by decide) (.head _) rfl ?_ (by intro _; with_unfolding_all rfl)
  repeat walk_at "w"
  have hp : p < l.length := by
    by_cases h : p < l.length
    · exact h
    · rw [List.getElem?_eq_none (by lia)] at hc; cases hc
  refine (oct_take P (k := 1) hz (by lia) (X := fun u₀ u₀ => False)).mono (fun d m hq3 => ?_) fun c m z => z.elim
  obtain ⟨e1, e2⟩ := hq3
  subst e1; subst e2
  repeat walk_at "w"
  have e : (l.drop p).take 1 = [c] := by
    rw [List.getElem?_eq_getElem hp] at hc
    cases hc
    rw [List.drop_eq_getElem_cons hp]; rfl
  rw [e]
  exact ITM_bytes (by simp) (by decide) (by simp) ⟨rfl, rfl⟩
theorem oct_octet_no (P : PW G) {x dx : Addr} {l : List UInt8} {p : Nat} (hc : l.length ≤ p) : FN G 4 (.ref 279) [.ptr x] [(x, octA l p dx)] (fun c m => c = 52 ∧ m = [(x, octA l p dx)]) fun u₀ u₀ => False := by
  refine (P.mth (303, "octet", 279, 26, 5) (by decide)).2.of (ps := ["self"]) P.ok rfl rfl rfl (by decide) (by decide) (by decide) rfl (fun fd vs a b c => by obtain ⟨x, rfl⟩ := len1 c; unfold bindArgs; rw [a, b]; kernel_rfl) fun C I CN => ?_
  refine EX0.letR ?_; intro X₁ R₁ N₁
  refine EX0_consA fun K' hK => (SX.to0 ?_)
  repeat walk_at "w"
  refine EV_meth ?_ (by intro _; exact ⟨_, rfl⟩)
  repeat walk_at "w"
  refine MC_m P CN (i := 26) (j := 3) (f := 265) (by decide) (.head _) rfl ?_ (by intro _; with_unfolding_all rfl)
  repeat walk_at "w"
  exact (oct_take_no P (k := 1) (by lia)).mono (fun d m z => z.elim) fun c m z => z

end

section
set_option tactic.hygienic false
open PySem PySem.W PyProof.Rows
variable {G : Glb} {C C' : Cx} {loc loc' : Loc} {tmp tmp' : Tmp} {mh hid l l' : MH} {s s' s₁ : Shared}
variable {X : Addr → Loc → MH → Prop} {Q : D → MH → Prop} {Rt : D → MH → Prop} {N : Loc → MH → Prop}
noncomputable def rdErr : RN → Option Addr
  | .cut => some 52
  | .bad => some 76
  | .ok _ _ => none
theorem read_number_ok (P : PW G) {x dx : Addr} {l : List UInt8} {p : Nat} (hz : l.length ≤ 100000) : FN G 5 (.ref 116) [.ptr x] [(x, octA l p dx)] (fun c m => (∃ p', m = [(x, octA l p' dx)]) ∧ rdErr (rd (l.drop p)) = some c)
    fun d m => ∃ v n, rd (l.drop p) = .ok v n ∧ d = .int (v : Nat) ∧ m = [(x, octA l (p + n) dx)] := by
  refine (P.fun (x := "read_number") (a := 116) (i := 14) (by decide +kernel)).of (ps := ["cursor"]) P.ok rfl rfl rfl (by decide) (by decide) (by decide) rfl (fun fd vs a b c => by obtain ⟨x, rfl⟩ := len1 c; unfold bindArgs; rw [a, b]; kernel_rfl) fun C I CN => ?_
  refine EX0.letR ?_; intro X₁ R₁ N₁
  refine EX0_consA fun K' hK => (SX.to0 ?_)
  repeat walk_at "w"
  refine SX_for CN I (I.sto (.inl rfl)) (fun rem loc m => Ex2 fun (k v : Nat) => And6 (k ≤ 9) (rem = (rng (k : Int) 1 (9 - k)).map D.int) (LS [("cursor", .ptr x), ("value", .int v)] loc) (m = [(x, octA l (p + k) dx)]) (v < 128 ^ k) (rd (l.drop p) = rdG (9 - k) (l.drop (p + k)) k v)) ?_ ?_ ?_
  · repeat walk_at "w"
    refine BF_range1 fun r t u v => ?_
    exact ⟨(rng 0 1 9).map D.int, _, ITB_range CN.hand (by decide) (by decide), 0, 0, by decide, rfl, ⟨rfl, rfl, trivial⟩, rfl, by decide, rfl⟩
  · intro d ds loc m hq1
    try ((first | refine EX.letN ?_ | refine EXX.letN ?_); intro N₂)
    refine absP fun P₀ hP₀ => ?_
    obtain ⟨k, v, hk, e2, hls, e3, hv, hrd⟩ := hq1
    refine hP₀ ?_; clear hP₀ P₀
    subst e3
    by_cases hk9 : k = 9
    · subst hk9; cases e2
    obtain ⟨n, hn⟩ : ∃ n, 9 - k = n + 1 := ⟨8 - k, by lia⟩
    rw [hn] at e2 hrd
    rw [show rng (k : Int) 1 (n + 1) = (k : Int) :: rng ((k + 1 : Nat) : Int) 1 n from rfl, List.map_cons] at e2
    obtain ⟨rfl, rfl⟩ := List.cons.inj e2
    walk_at "n"
    refine EX.weak ?_ hls.up
    repeat walk_at "w"
    refine EV_meth ?_ (by intro _; exact ⟨_, rfl⟩)
    repeat walk_at "w"
    refine MC_m0 P CN (i := 26) (j := 5) (f := 279) (by decide) (.head _) rfl ?_
    cases hc : l[p + k]? with
    | none =>
      have hle : l.length ≤ p + k := List.getElem?_eq_none_iff.mp hc
      refine (oct_octet_no P hle).mono (fun d m z => z.elim) fun c m hq3 => ?_
      obtain ⟨e1, e2⟩ := hq3
      subst e1; subst e2
      refine ⟨⟨_, rfl⟩, ?_⟩
      rw [hrd, List.drop_eq_nil_of_le hle]; rfl
    | some c =>
      have hlt : p + k < l.length := by
        by_cases h : p + k < l.length
        · exact h
        · rw [List.getElem?_eq_none (by lia)] at hc; cases hc
      have hcons : l.drop (p + k) = c :: l.drop (p + k + 1) := by
        rw [List.getElem?_eq_getElem hlt] at hc
        cases hc
        exact List.drop_eq_getElem_cons hlt
      rw [hcons] at hrd
      have hc256 : c.toNat < 256 := c.toNat_lt
      refine ((oct_octet P hz hc (X := fun u₀ u₀ => False)).more (by decide)).mono (fun d m hq4 => ?_) fun c m z => z.elim
      obtain ⟨e1, e2⟩ := hq4
      subst e1; subst e2
      walk_at "n"
      refine EX_consA fun K' hK => (SX_augName (I.sto (.inl rfl)) (by with_unfolding_all rfl) ?_)
      repeat walk_at "w"
      refine OP_mul (IntMulOk.of_left (by decide)) ?_
      rw [and127]
      refine OP_lshift (by lia) (by lia) (by lia) ?_
      have e128 : (128 : Nat) ^ k = 2 ^ (7 * (k : Int)).toNat := by
        rw [show (7 * (k : Int)).toNat = 7 * k by lia, Nat.pow_mul]
      have ej : Builtin.bitOr (v : Int) ((c.toNat : Int) % 128 * 2 ^ (7 * (k : Int)).toNat) = ((v + (c.toNat % 128) * 128 ^ k : Nat) : Int) := by
        rw [or_join (by lia) (by rw [e128] at hv; exact_mod_cast hv)]
        push_cast
        congr 2
        exact_mod_cast e128.symm
      refine IOP_or ?_
      rw [ej]
      have hv2 : v + (c.toNat % 128) * 128 ^ k < 128 ^ (k + 1) := by
        rw [Nat.pow_succ]
        have : (c.toNat % 128) * 128 ^ k ≤ 127 * 128 ^ k := Nat.mul_le_mul_right _ (by lia)
        lia
      unfold rdG at hrd
      by_cases h128 : 127 < c.toNat
      · rw [if_pos h128] at hrd
        repeat walk_at "w"
        refine ⟨fun h => by have := of_decide_eq_true h; lia, fun h => ?_⟩
        repeat walk_at "w"
        refine ⟨k + 1, _, by lia, by rw [show 9 - (k + 1) = n by rw [Nat.sub_add_eq, hn]; rfl], ⟨rfl, rfl, trivial⟩, rfl, hv2, ?_⟩
        rw [show 9 - (k + 1) = n by rw [Nat.sub_add_eq, hn]; rfl]; exact hrd
      · rw [if_neg h128] at hrd
        repeat walk_at "w"
        refine ⟨fun h => ?_, fun h => by have := of_decide_eq_false h; lia⟩
        walk_at "n"
        refine EX_consA fun K' hK => (SX_if (TT.mono (Q := fun b m => b = decide (c.toNat = 0 ∧ 0 < k) ∧ m = [(x, octA l (p + k + 1) dx)]) ?_ (fun b m hq5 => ?_)))
        · refine TT.letQ ?_; intro Q₁
          repeat walk_at "w"
          refine ⟨fun h1 => ?_, fun h1 => ⟨?_, rfl⟩⟩
          · have h1' : c.toNat = 0 := by have := beq_iff_eq.mp h1; lia
            repeat walk_at "w"
            refine ⟨fun h2 => ?_, fun h2 => ⟨?_, rfl⟩⟩
            · repeat walk_at "w"
              refine ⟨?_, rfl⟩
              have := of_decide_eq_true h2
              rw [decide_eq_true]; exact ⟨h1', by lia⟩
            · have := of_decide_eq_false h2
              rw [decide_eq_false]; lia
          · have h1' : c.toNat ≠ 0 := fun q => by rw [q] at h1; exact absurd h1 (by decide)
            rw [decide_eq_false]; lia
        · obtain ⟨e1, e2⟩ := hq5
          subst e1; subst e2
          refine ⟨fun h2 => ?_, fun h2 => ?_⟩
          · have h2' := of_decide_eq_true h2
            rw [if_pos h2'] at hrd
            repeat walk_at "w"
            refine ⟨⟨_, rfl⟩, ?_⟩
            rw [hrd]; rfl
          · have h2' := of_decide_eq_false h2
            rw [if_neg h2'] at hrd
            repeat walk_at "w"
            exact ⟨_, _, hrd, rfl, rfl⟩
  · intro loc m hq2
    refine absP fun P₀ hP₀ => ?_
    obtain ⟨k, v, hk, e2, hls, e3, hv, hrd⟩ := hq2
    refine hP₀ ?_; clear hP₀ P₀
    walk_at "n"
    subst e3
    have hk9 : k = 9 := by
      by_cases h : k = 9
      · exact h
      · obtain ⟨n, hn⟩ : ∃ n, 9 - k = n + 1 := ⟨8 - k, by lia⟩
        rw [hn] at e2; cases e2
    subst hk9
    walk_at "n"
    refine EX0.weak ?_ hls.get
    repeat walk_at "w"
    refine ⟨⟨_, rfl⟩, ?_⟩
    rw [hrd]; rfl

end

section
set_option tactic.hygienic false
open PySem PySem.W PyProof.Rows
variable {G : Glb} {C C' : Cx} {loc loc' : Loc} {tmp tmp' : Tmp} {mh hid l l' : MH} {s s' s₁ : Shared}
variable {X : Addr → Loc → MH → Prop} {Q : D → MH → Prop} {Rt : D → MH → Prop} {N : Loc → MH → Prop}
theorem EX0.lax {ss : List Stmt} (h : EX0 G C loc mh ss X Rt fun l m => ∃ l0, LS l0 l ∧ N l0 m) : EX0 G C loc mh ss X Rt N := fun hid s R =>
  wpAny_mono (h hid s R) (fun f s' q => by
    cases f with
    | next => obtain ⟨l, m, R1, l0, hl, hN⟩ := q; exact ⟨l0, m, R1.weak hl.get, hN⟩
    | ret v => exact q
    | _ => exact q) fun u₀ u₀ x => x
theorem law_told_ok (P : PW G) {l : List UInt8} (hz : l.length ≤ 100000) {X : Addr → MH → Prop} : FN G 6 (.ref 359) [.bytes l] mh X fun d m => d = .dat (allD (rdAll l.length l 0)) ∧ m = mh := by
  refine FN.clean ?_
  refine (P.fun (x := "_law_told") (a := 359) (i := 35) (by decide +kernel)).of (ps := ["octets"]) P.ok rfl rfl rfl (by decide) (by decide) (by decide) rfl (fun fd vs a b c => by obtain ⟨x, rfl⟩ := len1 c; unfold bindArgs; rw [a, b]; kernel_rfl) fun C I CN => ?_
  refine EX0.letR ?_; intro X₁ R₁ N₁
  refine EX0_consA fun K' hK => (SX.to0 ?_)
  refine SX_tuple (names := ["found", "cursor"]) CN.hand (fun n hn => by
    rcases List.mem_cons.mp hn with rfl | hn
    · exact I.sto (by first | exact .inl rfl | exact .inr rfl)
    · rw [List.mem_singleton.mp hn]; exact I.sto (by first | exact .inl rfl | exact .inr rfl)) ?_ (by rw [I.scope]; with_unfolding_all rfl)
  refine EVs_cons (EV_app (EVs_nil ⟨Nat.zero_le _, fun a => ?_⟩)) (by intro _; with_unfolding_all rfl)
  refine EVs_cons (EV_new (n := 4) P.ok CN ((I.kindOf _).trans (by rfl)) (P.cls (("Octets" : Str), 303) (by decide)) P.makes.1 ?_ (by decide) (by intro _; with_unfolding_all rfl)) (by intro _; with_unfolding_all rfl)
  repeat walk_at "w"
  intro x dx
  refine FN.pure (by decide) (fun X => oct_init P hz (X := X)) ⟨rfl, ?_⟩
  refine EVs_nil ⟨by rw [sizeLine_eq]; simp, rfl, ?_⟩
  walk_at "n"
  refine EX0.weak (loc' := [("octets", .bytes l), ("found", .ptr a), ("cursor", .ptr x)]) ?_ (LS.get ⟨rfl, rfl, rfl, trivial⟩)
  walk_at "n"
  refine EX0_consA fun K' hK => (SX0_while CN I (σ := Nat × Nat) (fun σ => σ.1) (fun σ loc m => l.length ≤ σ.1 + σ.2 ∧ σ.2 ≤ l.length ∧ ∃ acc : List (Nat × Nat), loc = ([("octets", .bytes l), ("found", .ptr a), ("cursor", .ptr x)] : Loc) ∧ m = (x, octA l σ.2 dx) :: (a, .app (acc.map fun p => .dat (prD p))) :: mh ∧ rdAll l.length l 0 = (acc ++ (rdAll σ.1 l σ.2).1, (rdAll σ.1 l σ.2).2) ∧ acc.length ≤ σ.2) (l.length, 0) ⟨by simp, by simp, [], rfl, rfl, rfl, Nat.le_refl _⟩ ?_)
  intro hq1 loc m hq2
  obtain ⟨n, i⟩ := hq1
  refine absP fun P₀ hP₀ => ?_
  obtain ⟨h1, h2, acc, hls, hm, he, hac⟩ := hq2
  refine hP₀ ?_; clear hP₀ P₀
  dsimp only at h1 h2 hls hm he hac
  subst hm; subst hls
  have hfrz : (acc.map fun p => D.dat (prD p)) = (acc.map prD).map D.dat := by rw [List.map_map]; rfl
  refine TT_cmp (EV_meth ?_ (by intro _; exact ⟨_, rfl⟩))
  repeat walk_at "w"
  refine MC_m0 P CN (i := 26) (j := 1) (f := 251) (by decide) (.head _) rfl ?_
  refine FN.at (mh1 := []) ((oct_left P (X := fun u₀ u₀ => False)).more (by decide)) (fun d m ⟨e1, e2⟩ => ⟨_, e2, ?_⟩) fun c m z => z.elim
  subst e1
  repeat walk_at "w"
  refine ⟨fun hb => ?_, fun hb => ?_⟩
  · have hi : i < l.length := by have := of_decide_eq_true hb; lia
    obtain ⟨n, rfl⟩ : ∃ k, n = k + 1 := ⟨n - 1, by lia⟩
    have hu : rdAll (n + 1) l i = (match rd (l.drop i) with
      | .bad => ([], "number")
      | .cut => ([], "cut")
      | .ok v k => ((v, i + k) :: (rdAll n l (i + k)).1, (rdAll n l (i + k)).2)) := if_pos hi
    rw [hu] at he
    walk_at "n"
    refine EX0.lax ?_
    walk_at "n"
    refine EX0_consA fun K' hK => (SX0_try P.ok CN I ?_)
    walk_at "n"
    refine EX0_consA fun K' hK => (SX.to0 ?_)
    repeat walk_at "w"
    refine FN.at (mh1 := []) (read_number_ok P hz) (fun d m ⟨v, k, hr, e1, e2⟩ => ⟨_, e2, ?_⟩) fun c m ⟨⟨p', e1⟩, hx⟩ => ⟨_, e1, ?_⟩
    · subst e1
      have hk := rd_ok hr
      rw [List.length_drop] at hk
      rw [hr] at he
      dsimp only at he
      walk_at "n"
      refine EX0_nil ?_
      walk_at "n"
      refine EX0_consA fun K' hK => (SX.to0 (SX_expr (EV_meth ?_ (by intro _; exact ⟨_, rfl⟩)) (by intro _; with_unfolding_all rfl) (I.inter rfl)))
      repeat walk_at "w"
      refine MC_appU ⟨_, .tail _ (.head _)⟩ ?_
      refine EV_tuple ?_
      repeat walk_at "w"
      refine EV_fld P ?_ (by intro _; with_unfolding_all rfl) (by intro _ _; with_unfolding_all rfl)
      repeat walk_at "w"
      refine ⟨x, _, _, _, .int (i + k : Nat), rfl, .head _, by decide, by decide, rfl, (fun u h => by cases h), ?_⟩
      repeat walk_at "w"
      refine ⟨by rw [sizeLine_eq]; simp, [.int (v : Nat), .int (i + k : Nat)], rfl, ?_⟩
      refine ⟨_, _, .tail .head, by rw [List.length_map, sizeLine_eq]; lia, rfl, ?_⟩
      walk_at "n"
      refine EX0_nil ⟨[("octets", .bytes l), ("found", .ptr a), ("cursor", .ptr x)], ⟨rfl, rfl, rfl, trivial⟩, (n, i + k), by simp, by dsimp only; lia, by dsimp only; lia, acc ++ [(v, i + k)], rfl, ?_, ?_, by simp; lia⟩
      · rw [List.map_append]; rfl
      · rw [he, List.append_assoc]; rfl
    · cases hr : rd (l.drop i) with
      | ok v k => rw [hr] at hx; cases hx
      | cut =>
        rw [hr] at hx he
        cases hx
        dsimp only at he
        refine HND_hit 52 P I.sc (by rfl) (by decide) (by decide) (by decide) rfl (by decide) fun A => ?_
        · refine EX0_cons (SX.to0 (SX_ret (EV_tuple (EVs_cons (EV_frz ?_) (by intro _; with_unfolding_all rfl)))))
          repeat walk_at "w"
          refine ⟨a, acc.map prD, (x, octA l p' dx) :: mh, rfl, .inl (by rw [hfrz]; exact List.Perm.swap _ _ _), ?_⟩
          repeat walk_at "w"
          refine ⟨by rw [sizeLine_eq]; simp, [.list (acc.map prD), .str "cut"], rfl, [_], _, rfl, ?_, rfl⟩
          rw [he]; unfold allD; rw [List.append_nil]
      | bad =>
        rw [hr] at hx he
        cases hx
        dsimp only at he
        refine HND_miss 52 P I.sc (by rfl) (by decide) (by decide) (by decide) rfl (by decide) ?_
        refine HND_hit 76 P I.sc (by rfl) (by decide) (by decide) (by decide) rfl (by decide) fun A => ?_
        · refine EX0_cons (SX.to0 (SX_ret (EV_tuple (EVs_cons (EV_frz ?_) (by intro _; with_unfolding_all rfl)))))
          repeat walk_at "w"
          refine ⟨a, acc.map prD, (x, octA l p' dx) :: mh, rfl, .inl (by rw [hfrz]; exact List.Perm.swap _ _ _), ?_⟩
          repeat walk_at "w"
          refine ⟨by rw [sizeLine_eq]; simp, [.list (acc.map prD), .str "number"], rfl, [_], _, rfl, ?_, rfl⟩
          rw [he]; unfold allD; rw [List.append_nil]
  · have hi : ¬ i < l.length := by have := of_decide_eq_false hb; lia
    have he2 : rdAll n l i = (([], "end") : List (Nat × Nat) × Str) := by cases n with | zero => rfl | succ n => (unfold rdAll; rw [if_neg hi])
    rw [he2] at he
    walk_at "n"
    refine EX0_consA fun K' hK => (SX.to0 (SX_ret (EV_tuple (EVs_cons (EV_frz ?_) (by intro _; with_unfolding_all rfl)))))
    repeat walk_at "w"
    refine ⟨a, acc.map prD, (x, octA l i dx) :: mh, rfl, .inl (by rw [hfrz]; exact List.Perm.swap _ _ _), ?_⟩
    repeat walk_at "w"
    refine ⟨by rw [sizeLine_eq]; simp, [.list (acc.map prD), .str "end"], rfl, [_], _, rfl, ?_, rfl⟩
    rw [he]; unfold allD; rw [List.append_nil]

end

section
set_option tactic.hygienic false
open PySem PySem.W PyProof.Rows
variable {G : Glb} {C C' : Cx} {loc loc' : Loc} {tmp tmp' : Tmp} {mh hid l l' : MH} {s s' s₁ : Shared}
variable {X : Addr → Loc → MH → Prop} {Q : D → MH → Prop} {Rt : D → MH → Prop} {N : Loc → MH → Prop}
inductive RC where
  | cut
  | bad
  | filter
  | head
  | ok (gs : List Int) (s : Int) (i : Nat)
noncomputable def rc5 (f : Nat → List Int → Int → RC) (l : List UInt8) (j sz : Nat) (gs : List Int) : RC := if 40 < (l.getD j 0).toNat then .head else f (j + sz) gs (dsz ((l.getD j 0).toNat : Int))
noncomputable def rc4 (f : Nat → List Int → Int → RC) (l : List UInt8) (id j sz : Nat) (gs : List Int) (s : Int) : RC := if id = 3 then f (j + sz) (gs ++ [((l.getD j 0).toNat : Int) + 1]) s else rc5 f l j sz gs
noncomputable def rc3 (f : Nat → List Int → Int → RC) (l : List UInt8) (id j sz : Nat) (gs : List Int) (s : Int) : RC := if sz ≠ 1 then .head else rc4 f l id j sz gs s
noncomputable def rc2 (n : Nat) (f : Nat → List Int → Int → RC) (l : List UInt8) (id j sz : Nat) (gs : List Int) (s : Int) : RC := if ¬ (id = 33 ↔ n = 0) then .head else rc3 f l id j sz gs s
noncomputable def rc1 (n : Nat) (f : Nat → List Int → Int → RC) (l : List UInt8) (id j sz : Nat) (gs : List Int) (s : Int) : RC := if id ≠ 3 ∧ id ≠ 33 then .filter else rc2 n f l id j sz gs s
noncomputable def rc0 (n : Nat) (f : Nat → List Int → Int → RC) (l : List UInt8) (id j sz : Nat) (gs : List Int) (s : Int) : RC := if l.length < j + sz then .cut else rc1 n f l id j sz gs s
noncomputable def rcB (n : Nat) (f : Nat → List Int → Int → RC) (l : List UInt8) (id j : Nat) (gs : List Int) (s : Int) : RC := match rd (l.drop j) with
  | .bad => .bad
  | .cut => .cut
  | .ok sz k2 => rc0 n f l id (j + k2) sz gs s
noncomputable def rcG : Nat → List UInt8 → Nat → List Int → Int → RC
  | 0, _, i, gs, s => .ok gs s i
  | n + 1, l, i, gs, s => match rd (l.drop i) with
    | .bad => .bad
    | .cut => .cut
    | .ok id k => rcB n (rcG n l) l id (i + k) gs s
noncomputable def rcErr : RC → Option Addr
  | .cut => some 52
  | .bad => some 76
  | .filter => some 88
  | .head => some 64
  | .ok _ _ _ => none
noncomputable def rcD : RC → PyData
  | .cut => .str "cut"
  | .bad => .str "number"
  | .filter => .str "filter"
  | .head => .str "head"
  | .ok gs s i => .tuple [.list (gs.map .int), .int s, .int (i : Nat)]
noncomputable def chA (Cl : Addr) (gs : List Int) (s : Int) (dx : Addr) : AO := .inst Cl dx [("distances", .dat (.list (gs.map .int))), ("dictionary", .int s)]
theorem chain_init (P : PW G) {Cl x dx : Addr} {gs : List Int} {s : Int} (hC : Cl = 206 ∨ Cl = 178) (hl : gs.length ≤ 3) (hg : ∀ g ∈ gs, 1 ≤ g ∧ g ≤ 256) {X : Addr → MH → Prop} :
    FN G 2 (.ref 161) [.ptr x, .dat (.list (gs.map .int)), .int s] ((x, .inst Cl dx []) :: mh) X fun d m => d = .none ∧ m = (x, chA Cl gs s dx) :: mh := by
  have hC1 : Cl ∈ ([303, 206, 178] : List Addr) := by rcases hC with rfl | rfl <;> decide
  have hC2 : (Cl, ("distances" : Str)) ∈ fldTab := by rcases hC with rfl | rfl <;> decide
  have hC3 : (Cl, ("dictionary" : Str)) ∈ fldTab := by rcases hC with rfl | rfl <;> decide
  refine P.cin.of (ps := ["self", "distances", "dictionary"]) P.ok rfl rfl rfl (by decide) (by decide) (by decide) rfl (fun fd vs a b c => by obtain ⟨x, y, z, rfl⟩ := len3 c; unfold bindArgs; rw [a, b]; kernel_rfl) fun C I CN => ?_
  refine EX0.letR ?_; intro X₁ R₁ N₁
  refine EX0_consA fun K' hK => (SX.to0 ?_)
  repeat walk_at "w"
  refine BF_len_list (by rw [List.length_map]; lia) ?_
  repeat walk_at "w"
  rw [List.length_map]
  refine ⟨fun h => by have := of_decide_eq_true h; lia, fun h => ?_⟩
  repeat walk_at "w"
  refine SX_for CN I (I.sto (.inl rfl)) (fun rem loc m => ∃ rs : List Int, rem = rs.map D.int ∧ (∀ g ∈ rs, 1 ≤ g ∧ g ≤ 256) ∧ LS [("self", .ptr x), ("distances", .dat (.list (gs.map .int))), ("dictionary", .int s)] loc ∧ m = (x, .inst Cl dx []) :: mh) ?_ ?_ ?_
  · repeat walk_at "w"
    exact ⟨_, _, ITB_list CN.hand, gs, by rw [List.map_map]; rfl, hg, ⟨rfl, rfl, rfl, trivial⟩, rfl⟩
  · intro d ds loc m hq1
    try ((first | refine EX.letN ?_ | refine EXX.letN ?_); intro N₂)
    refine absP fun P₀ hP₀ => ?_
    obtain ⟨rs, e2, hr, hls, e3⟩ := hq1
    refine hP₀ ?_; clear hP₀ P₀
    subst e3
    cases rs with
    | nil => cases e2
    | cons g rs =>
    rw [List.map_cons] at e2
    obtain ⟨rfl, rfl⟩ := List.cons.inj e2
    walk_at "n"
    refine EX.weak ?_ hls.up
    repeat walk_at "w"
    refine FN.pure (by decide) (fun X => need_distance_ok P (hr g (.head _)).1 (hr g (.head _)).2 (X := X)) ?_
    refine ⟨rfl, ?_⟩
    repeat walk_at "w"
    exact ⟨fun g h => hr g (.tail _ h), ⟨rfl, rfl, rfl, trivial⟩, rfl⟩
  · intro loc m hq2
    refine absP fun P₀ hP₀ => ?_
    obtain ⟨rs, e2, hr, hls, e3⟩ := hq2
    refine hP₀ ?_; clear hP₀ P₀
    walk_at "n"
    subst e3
    walk_at "n"
    refine EX0.weak ?_ hls.get
    walk_at "n"
    refine EX0_consA fun K' hK => (SX.to0 (SX_attrU P ?_ (by intro _; with_unfolding_all rfl)))
    repeat walk_at "w"
    refine BF_list (by rw [List.length_map]; lia) ?_
    repeat walk_at "w"
    refine ⟨x, _, _, _, _, rfl, .head, hC1, hC2, Nat.le_of_ble_eq_true (by with_unfolding_all rfl), ?_⟩
    walk_at "n"
    refine EX0_consA fun K' hK => (SX.to0 (SX_attrU P ?_ (by intro _; with_unfolding_all rfl)))
    repeat walk_at "w"
    refine ⟨x, _, _, _, _, rfl, .head, hC1, hC3, Nat.le_of_ble_eq_true (by with_unfolding_all rfl), ?_⟩
    repeat walk_at "w"
    exact ⟨rfl, rfl⟩
theorem chain_no4 (P : PW G) {x dx : Addr} {Cl : Addr} {xs : List PyData} {s : Int} (hl : 4 ≤ xs.length) (hz : xs.length ≤ 1000) :
    FN G 3 (.ref 161) [.ptr x, .dat (.list xs), .int s] ((x, .inst Cl dx []) :: mh) (fun c m => c = 100 ∧ m = (x, .inst Cl dx []) :: mh) fun u₀ u₀ => False := by
  refine P.cin.of (ps := ["self", "distances", "dictionary"]) P.ok rfl rfl rfl (by decide) (by decide) (by decide) rfl (fun fd vs a b c => by obtain ⟨x, y, z, rfl⟩ := len3 c; unfold bindArgs; rw [a, b]; kernel_rfl) fun C I CN => ?_
  refine EX0.letR ?_; intro X₁ R₁ N₁
  refine EX0_consA fun K' hK => (SX.to0 ?_)
  repeat walk_at "w"
  refine BF_len_list (by lia) ?_
  repeat walk_at "w"
  refine ⟨fun h => ?_, fun h => by have := of_decide_eq_false h; lia⟩
  repeat walk_at "w"
  exact ⟨rfl, rfl⟩
theorem chain_noO (P : PW G) {x dx : Addr} {Cl : Addr} {gs : List Int} {o : PyData} {s : Int} (hl : gs.length ≤ 2) (hg : ∀ g ∈ gs, 1 ≤ g ∧ g ≤ 256) (ho : OddD (.dat o)) :
    FN G 4 (.ref 161) [.ptr x, .dat (.list (gs.map .int ++ [o])), .int s] ((x, .inst Cl dx []) :: mh) (fun c m => c = 100 ∧ m = (x, .inst Cl dx []) :: mh) fun u₀ u₀ => False := by
  refine P.cin.of (ps := ["self", "distances", "dictionary"]) P.ok rfl rfl rfl (by decide) (by decide) (by decide) rfl (fun fd vs a b c => by obtain ⟨x, y, z, rfl⟩ := len3 c; unfold bindArgs; rw [a, b]; kernel_rfl) fun C I CN => ?_
  refine EX0.letR ?_; intro X₁ R₁ N₁
  refine EX0_consA fun K' hK => (SX.to0 ?_)
  repeat walk_at "w"
  refine BF_len_list (by simp; lia) ?_
  repeat walk_at "w"
  rw [List.length_append, List.length_map]
  refine ⟨fun h => by have := of_decide_eq_true h; simp at this; lia, fun h => ?_⟩
  repeat walk_at "w"
  refine SX_for CN I (I.sto (.inl rfl)) (fun rem loc m => ∃ rs : List Int, rem = rs.map D.int ++ [.dat o] ∧ (∀ g ∈ rs, 1 ≤ g ∧ g ≤ 256) ∧ LS [("self", .ptr x), ("distances", .dat (.list (gs.map .int ++ [o]))), ("dictionary", .int s)] loc ∧ m = (x, .inst Cl dx []) :: mh) ?_ ?_ ?_
  · repeat walk_at "w"
    exact ⟨_, _, ITB_list CN.hand, gs, by rw [List.map_append, List.map_map]; rfl, hg, ⟨rfl, rfl, rfl, trivial⟩, rfl⟩
  · intro d ds loc m hq3
    try ((first | refine EX.letN ?_ | refine EXX.letN ?_); intro N₂)
    refine absP fun P₀ hP₀ => ?_
    obtain ⟨rs, e2, hr, hls, e3⟩ := hq3
    refine hP₀ ?_; clear hP₀ P₀
    subst e3
    cases rs with
    | nil =>
      obtain ⟨rfl, rfl⟩ := List.cons.inj e2
      walk_at "n"
      refine EX.weak ?_ hls.up
      repeat walk_at "w"
      refine (need_distance_no P ho).mono (fun d m z => z.elim) fun c m hq5 => ?_
      obtain ⟨e1, e2⟩ := hq5
      subst e1; subst e2
      exact ⟨rfl, rfl⟩
    | cons g rs =>
    rw [List.map_cons, List.cons_append] at e2
    obtain ⟨rfl, rfl⟩ := List.cons.inj e2
    walk_at "n"
    refine EX.weak ?_ hls.up
    repeat walk_at "w"
    refine FN.pure (by decide) (fun X => need_distance_ok P (hr g (.head _)).1 (hr g (.head _)).2 (X := X)) ?_
    refine ⟨rfl, ?_⟩
    repeat walk_at "w"
    exact ⟨fun g h => hr g (.tail _ h), ⟨rfl, rfl, rfl, trivial⟩, rfl⟩
  · intro loc m hq4
    refine absP fun P₀ hP₀ => ?_
    obtain ⟨rs, e2, hr, hls, e3⟩ := hq4
    refine hP₀ ?_; clear hP₀ P₀
    walk_at "n"
    simp at e2
theorem chain_count (P : PW G) {x dx : Addr} {gs : List Int} {s : Int} (hl : gs.length ≤ 1000) {X : Addr → MH → Prop} : FN G 1 (.ref 168) [.ptr x] [(x, chA 206 gs s dx)] X fun d m => d = .int ((gs.length : Int) + 1) ∧ m = [(x, chA 206 gs s dx)] := by
  refine (P.mth (206, "count", 168, 20, 1) (by decide)).2.of (ps := ["self"]) P.ok rfl rfl rfl (by decide) (by decide) (by decide) rfl (fun fd vs a b c => by obtain ⟨x, rfl⟩ := len1 c; unfold bindArgs; rw [a, b]; kernel_rfl) fun C I CN => ?_
  refine EX0.letR ?_; intro X₁ R₁ N₁
  refine EX0_consA fun K' hK => (SX.to0 ?_)
  repeat walk_at "w"
  refine EV_fld P ?_ (by intro _; with_unfolding_all rfl) (by intro _ _; with_unfolding_all rfl)
  repeat walk_at "w"
  refine ⟨x, _, _, _, .dat (.list (gs.map .int)), rfl, .head _, by decide, by decide, rfl, (fun u h => by cases h), ?_⟩
  repeat walk_at "w"
  refine BF_len_list (by rw [List.length_map]; lia) ?_
  repeat walk_at "w"
  rw [List.length_map]
  exact ⟨rfl, rfl⟩

end

section
set_option tactic.hygienic false
open PySem PySem.W PyProof.Rows
variable {G : Glb} {C C' : Cx} {loc loc' : Loc} {tmp tmp' : Tmp} {mh hid l l' : MH} {s s' s₁ : Shared}
variable {X : Addr → Loc → MH → Prop} {Q : D → MH → Prop} {Rt : D → MH → Prop} {N : Loc → MH → Prop}
theorem read_chain_ok (P : PW G) {x dx : Addr} {l : List UInt8} {many : Nat} (hz : l.length ≤ 100000) (hm : many ≤ 4) : FN G 7 (.ref 215) [.ptr x, .int many] [(x, octA l 0 dx)]
    (fun c m => (∃ p', m = [(x, octA l p' dx)]) ∧ rcErr (rcG many l 0 [] 0) = some c)
    fun d m => ∃ gs s i, rcG many l 0 [] 0 = .ok gs s i ∧ ∃ y dy, d = .ptr y ∧ m = [(y, chA 178 gs s dy), (x, octA l i dx)] := by
  generalize hW : rcG many l 0 [] 0 = W
  refine FN.clean ?_
  refine (P.fun (x := "read_chain") (a := 215) (i := 22) (by decide +kernel)).of (ps := ["cursor", "count"]) P.ok rfl rfl rfl (by decide) (by decide) (by decide) rfl (fun fd vs a b c => by obtain ⟨x, y, rfl⟩ := len2 c; unfold bindArgs; rw [a, b]; kernel_rfl) fun C I CN => ?_
  refine EX0.letR ?_; intro X₁ R₁ N₁
  refine EX0_consA fun K' hK => (SX.to0 ?_)
  refine SX_tuple (names := ["distances", "dictionary"]) CN.hand (fun n hn => by
    rcases List.mem_cons.mp hn with rfl | hn
    · exact I.sto (by first | exact .inl rfl | exact .inr rfl)
    · rw [List.mem_singleton.mp hn]; exact I.sto (by first | exact .inl rfl | exact .inr rfl)) ?_ (by rw [I.scope]; with_unfolding_all rfl)
  refine EVs_cons (EV_app (EVs_nil ⟨Nat.zero_le _, fun a => ?_⟩)) (by intro _; with_unfolding_all rfl)
  repeat walk_at "w"
  refine ⟨by rw [sizeLine_eq]; simp, rfl, ?_⟩
  walk_at "n"
  refine EX0_consA fun K' hK => (SX.to0 ?_)
  refine SX_for CN I (I.sto (.inl rfl)) (fun rem loc m => Ex5 fun (t n i : Nat) (gs : List Int) (s : Int) => And8 (t + n = many) (rem = (rng (t : Int) 1 n).map D.int) (LS [("cursor", .ptr x), ("count", .int many), ("distances", .ptr a), ("dictionary", .int s)] loc) (m = [(a, .app (gs.map D.int)), (x, octA l i dx)]) (W = rcG n l i gs s) (gs.length ≤ t) ((n = 0 → gs.length ≤ 3)) ((∀ g ∈ gs, 1 ≤ g ∧ g ≤ 256))) ?_ ?_ ?_
  · repeat walk_at "w"
    refine BF_range1 fun r t u v => ?_
    exact ⟨(rng 0 1 many).map D.int, _, ITB_range CN.hand (rng_small (by lia)) (rng_size _), 0, many, 0, [], 0, by lia, rfl, ⟨rfl, rfl, rfl, rfl, trivial⟩, rfl, hW.symm, Nat.le_refl _, fun u₀ => by simp, fun g h => by cases h⟩
  · intro d ds loc m hq1
    try ((first | refine EX.letN ?_ | refine EXX.letN ?_); intro N₂)
    refine absP fun P₀ hP₀ => ?_
    obtain ⟨t, n, i, gs, s, htn, e2, hls, e3, hrc, hgl, hg3, hgs⟩ := hq1
    refine hP₀ ?_; clear hP₀ P₀
    subst e3
    cases n with
    | zero => cases e2
    | succ n =>
    rw [show rng (t : Int) 1 (n + 1) = (t : Int) :: rng ((t + 1 : Nat) : Int) 1 n from rfl, List.map_cons] at e2
    obtain ⟨rfl, rfl⟩ := List.cons.inj e2
    unfold rcG at hrc
    walk_at "n"
    refine EX.weak ?_ hls.up
    repeat walk_at "w"
    refine FN.at (mh1 := [_]) ((read_number_ok P hz).more (by decide)) (fun d m ⟨id, k, hr, e1, e2⟩ => ⟨_, e2, ?_⟩) fun c m ⟨⟨p', e1⟩, hx⟩ => ⟨_, e1, ?_⟩
    rotate_left
    · refine ⟨[_], _, rfl, ⟨_, rfl⟩, ?_⟩
      cases hr : rd (l.drop i) with
      | ok v k => rw [hr] at hx; cases hx
      | cut => rw [hr] at hx hrc; cases hx; rw [hrc]; rfl
      | bad => rw [hr] at hx hrc; cases hx; rw [hrc]; rfl
    subst e1
    rw [hr] at hrc
    dsimp only at hrc
    unfold rcB at hrc
    repeat walk_at "w"
    refine EV_meth ?_ (by intro _; exact ⟨_, rfl⟩)
    repeat walk_at "w"
    refine MC_m P CN (i := 26) (j := 3) (f := 265) (by decide) (.tail _ (.head _)) rfl ?_ (by intro _; with_unfolding_all rfl)
    repeat walk_at "w"
    refine FN.at (mh1 := [_]) ((read_number_ok P hz).more (by decide)) (fun d m ⟨sz, k2, hr2, e1, e2⟩ => ⟨_, e2, ?_⟩) fun c m ⟨⟨p', e1⟩, hx⟩ => ⟨_, e1, ?_⟩
    rotate_left
    · refine ⟨[_], _, rfl, ⟨_, rfl⟩, ?_⟩
      cases hr : rd (l.drop (i + k)) with
      | ok v k => rw [hr] at hx; cases hx
      | cut => rw [hr] at hx hrc; cases hx; rw [hrc]; rfl
      | bad => rw [hr] at hx hrc; cases hx; rw [hrc]; rfl
    subst e1
    rw [hr2] at hrc
    dsimp only at hrc
    repeat walk_at "w"
    unfold rc0 at hrc
    by_cases hcut : l.length < i + k + k2 + sz
    · rw [if_pos hcut] at hrc
      refine FN.at (mh1 := [_]) ((oct_take_no P hcut).more (by decide)) (fun d m z => z.elim) fun c m ⟨e1, e2⟩ => ⟨_, e2, [_], _, rfl, ⟨_, rfl⟩, ?_⟩
      subst e1
      rw [hrc]; rfl
    rw [if_neg hcut] at hrc
    unfold rc1 at hrc
    refine FN.at (mh1 := [_]) ((oct_take P hz (by omega) (X := fun u₀ u₀ => False)).more (by decide)) (fun d m ⟨e1, e2⟩ => ⟨_, e2, ?_⟩) fun c m z => z.elim
    subst e1
    walk_at "n"
    refine EX_consA fun K' hK => (SX_if (TT.mono (Q := fun b m => b = decide (id ≠ 3 ∧ id ≠ 33) ∧ m = [(a, .app (gs.map D.int)), (x, octA l (i + k + k2 + sz) dx)]) ?_ (fun b m hq9 => ?_)))
    · refine TT.letQ ?_; intro Q₁
      repeat walk_at "w"
      refine EV_tuple ?_
      repeat walk_at "w"
      refine ⟨by rw [sizeLine_eq]; simp, [.int 3, .int 33], rfl, ?_⟩
      refine CMP_notin_tuple CN (by simp [PyData.canLayAll0, PyData.canLay0]) (by simp [PyData.canLay0]) (by simp [PyData.depth, PyData.depthAll]) ⟨?_, rfl⟩
      simp only [List.any_cons, List.any_nil, PyData.eqv]
      have e1 : ((3 : Int) == (id : Int)) = decide (id = 3) := by
        by_cases h : id = 3
        · subst h; rfl
        · rw [decide_eq_false h]; simp; lia
      have e2 : ((33 : Int) == (id : Int)) = decide (id = 33) := by
        by_cases h : id = 33
        · subst h; rfl
        · rw [decide_eq_false h]; simp; lia
      rw [e1, e2]
      by_cases h1 : id = 3 <;> by_cases h2 : id = 33 <;> simp [h1, h2]
    obtain ⟨e1, e2⟩ := hq9
    subst e1; subst e2
    refine ⟨fun h1 => ?_, fun h1 => ?_⟩
    · rw [if_pos (of_decide_eq_true h1)] at hrc
      repeat walk_at "w"
      refine ⟨[_], _, rfl, ⟨_, rfl⟩, ?_⟩
      rw [hrc]; rfl
    have h1' := of_decide_eq_false h1
    rw [if_neg h1'] at hrc
    unfold rc2 at hrc
    walk_at "n"
    refine EX_nil ?_
    walk_at "n"
    refine EX_consA fun K' hK => (SX_if (TT.mono (Q := fun b m => b = decide (¬ (id = 33 ↔ n = 0)) ∧ m = [(a, .app (gs.map D.int)), (x, octA l (i + k + k2 + sz) dx)]) ?_ (fun b m hq10 => ?_)))
    · refine TT.letQ ?_; intro Q₁
      repeat walk_at "w"
      refine CMP_neb ⟨?_, rfl⟩
      have e1 : ((id : Int) == 33) = decide (id = 33) := by
        by_cases h : id = 33
        · subst h; rfl
        · rw [decide_eq_false h]; simp; lia
      have e2 : ((t : Int) == (many : Int) - 1) = decide (n = 0) := by
        by_cases h : n = 0
        · rw [decide_eq_true h]; simp; lia
        · rw [decide_eq_false h]; simp; lia
      rw [e1, e2]
      by_cases h1 : id = 33 <;> by_cases h2 : n = 0 <;> simp [h1, h2]
    obtain ⟨e1, e2⟩ := hq10
    subst e1; subst e2
    refine ⟨fun h2 => ?_, fun h2 => ?_⟩
    · rw [if_pos (of_decide_eq_true h2)] at hrc
      repeat walk_at "w"
      refine ⟨[_], _, rfl, ⟨_, rfl⟩, ?_⟩
      rw [hrc]; rfl
    have h2' := of_decide_eq_false h2
    rw [if_neg h2'] at hrc
    unfold rc3 at hrc
    walk_at "n"
    refine EX_nil ?_
    walk_at "n"
    refine EX_consA fun K' hK => (SX_if (TT.mono (Q := fun b m => b = decide (sz ≠ 1) ∧ m = [(a, .app (gs.map D.int)), (x, octA l (i + k + k2 + sz) dx)]) ?_ (fun b m hq11 => ?_)))
    · refine TT.letQ ?_; intro Q₁
      repeat walk_at "w"
      refine BF_len_bytes (by rw [List.length_take]; exact Nat.le_trans (Nat.min_le_right _ _) (by rw [List.length_drop]; omega)) ?_
      repeat walk_at "w"
      refine ⟨?_, rfl⟩
      have : ((l.drop (i + k + k2)).take sz).length = sz := by rw [List.length_take, List.length_drop]; exact Nat.min_eq_left (by omega)
      rw [this]
      by_cases h : sz = 1
      · subst h; rfl
      · rw [decide_eq_true h]; simp; lia
    obtain ⟨e1, e2⟩ := hq11
    subst e1; subst e2
    refine ⟨fun h3 => ?_, fun h3 => ?_⟩
    · rw [if_pos (of_decide_eq_true h3)] at hrc
      repeat walk_at "w"
      refine ⟨[_], _, rfl, ⟨_, rfl⟩, ?_⟩
      rw [hrc]; rfl
    have h3' := of_decide_eq_false h3
    have hsz : sz = 1 := Decidable.of_not_not h3'
    rw [if_neg h3'] at hrc
    unfold rc4 at hrc
    subst hsz
    walk_at "n"
    refine EX_nil ?_
    have hc256 := (l.getD (i + k + k2) 0).toNat_lt
    have hlt : i + k + k2 < l.length := by omega
    have hown : (l.drop (i + k + k2)).take 1 = [l.getD (i + k + k2) 0] := by
      rw [List.drop_eq_getElem_cons hlt, List.getD_eq_getElem?_getD, List.getElem?_eq_getElem hlt]; rfl
    rw [hown]
    generalize hcc : l.getD (i + k + k2) 0 = c at hc256
    walk_at "n"
    refine EX_consA fun K' hK => (SX_if (TT.mono (Q := fun b m => b = decide (id = 3) ∧ m = [(a, .app (gs.map D.int)), (x, octA l (i + k + k2 + 1) dx)]) ?_ (fun b m hq12 => ?_)))
    · refine TT.letQ ?_; intro Q₁
      repeat walk_at "w"
      refine ⟨?_, rfl⟩
      by_cases h : id = 3
      · subst h; rfl
      · rw [decide_eq_false h]; simp; lia
    obtain ⟨e1, e2⟩ := hq12
    subst e1; subst e2
    refine ⟨fun h4 => ?_, fun h4 => ?_⟩
    · have h4' := of_decide_eq_true h4
      rw [if_pos h4', hcc] at hrc
      repeat walk_at "w"
      refine EV_meth ?_ (by intro _; exact ⟨_, rfl⟩)
      repeat walk_at "w"
      refine MC_appU ⟨_, .head _⟩ ?_
      repeat walk_at "w"
      refine ITM_bytes (by simp) (by decide) (by simp) ?_
      repeat walk_at "w"
      refine ⟨_, _, .head, by rw [List.length_map, sizeLine_eq]; lia, rfl, ?_⟩
      repeat walk_at "w"
      refine ⟨t + 1, n, i + k + k2 + 1, gs ++ [(c.toNat : Int) + 1], s, by lia, rfl, ⟨rfl, rfl, rfl, rfl, trivial⟩, ?_, hrc, by simp; lia, ?_, ?_⟩
      · rw [List.map_append]; rfl
      · intro hn0
        exfalso; lia
      · intro g hg
        rcases List.mem_append.mp hg with h | h
        · exact hgs g h
        · rw [List.mem_singleton.mp h]; omega
    · have h4' := of_decide_eq_false h4
      rw [if_neg h4'] at hrc
      unfold rc5 at hrc
      rw [hcc] at hrc
      repeat walk_at "w"
      refine ITM_bytes (by simp) (by decide) (by simp) ?_
      repeat walk_at "w"
      show FN _ _ _ [.int (c.toNat : Int)] _ _ _
      by_cases h40 : 40 < c.toNat
      · rw [if_pos h40] at hrc
        refine ((dictionary_size_no P (k := (c.toNat : Int)) (by lia)).more (by decide)).mono (fun d m z => z.elim) fun c m hq13 => ?_
        obtain ⟨e1, e2⟩ := hq13
        subst e1; subst e2
        refine ⟨[_], _, rfl, ⟨_, rfl⟩, ?_⟩
        rw [hrc]; rfl
      · rw [if_neg h40] at hrc
        refine FN.pure (by decide) (fun X => dictionary_size_ok P (k := (c.toNat : Int)) (by lia) (by lia) (X := X)) ?_
        repeat walk_at "w"
        refine ⟨t + 1, n, i + k + k2 + 1, gs, dsz (c.toNat : Int), by lia, rfl, ⟨rfl, rfl, rfl, rfl, trivial⟩, rfl, hrc, by lia, fun h => by lia, hgs⟩
  · intro loc m hq2
    refine absP fun P₀ hP₀ => ?_
    obtain ⟨t, n, i, gs, s, htn, e2, hls, e3, hrc, hgl, hg3, hgs⟩ := hq2
    refine hP₀ ?_; clear hP₀ P₀
    walk_at "n"
    subst e3
    cases n with
    | succ n => cases e2
    | zero =>
    walk_at "n"
    refine EX0.weak ?_ hls.get
    walk_at "n"
    refine EX0_consA fun K' hK => (SX.to0 (SX_ret (EV_new (n := 5) P.ok CN ((I.kindOf _).trans (by rfl)) (P.cls (("Chain" : Str), 178) (by decide)) P.makes.2.2 ?_ (by decide) (by intro _; with_unfolding_all rfl))))
    refine EVs_cons (EV_frz ?_) (by intro _; with_unfolding_all rfl)
    repeat walk_at "w"
    refine ⟨a, gs.map .int, [(x, octA l i dx)], rfl, .inl (by rw [List.map_map]; exact List.Perm.refl _), ?_⟩
    repeat walk_at "w"
    intro y dy
    have hci := chain_init P (Cl := 178) (s := s) (x := y) (dx := dy) (mh := [(x, octA l i dx)]) (.inr rfl) (hg3 rfl) hgs (X := fun u₀ u₀ => False)
    exact (hci.more (m := 5) (by decide)).mono (fun d m hq14 => by obtain ⟨e1, e2⟩ := hq14; exact ⟨e1, [], _, rfl, gs, s, i, hrc, y, dy, rfl, e2⟩) fun c m z => z.elim

end

section
set_option tactic.hygienic false
open PySem PySem.W PyProof.Rows
variable {G : Glb} {C C' : Cx} {loc loc' : Loc} {tmp tmp' : Tmp} {mh hid l l' : MH} {s s' s₁ : Shared}
variable {X : Addr → Loc → MH → Prop} {Q : D → MH → Prop} {Rt : D → MH → Prop} {N : Loc → MH → Prop}
theorem EX.lax2 {ss : List Stmt} (h : EX G C loc mh ss X Rt fun l m => ∃ l0 g m0, LS l0 l ∧ m.Perm (g ++ m0) ∧ N l0 m0) : EX G C loc mh ss X Rt N := fun tmp hid s R =>
  wpAny_mono (h tmp hid s R) (fun f s' q => by
    cases f with
    | next => obtain ⟨l, m, R1, l0, g, m0, hl, hp, hN⟩ := q; exact ⟨l0, m0, Rep.dropAll (l := g) ((R1.weak hl.get).perm (by rw [← List.append_assoc]; exact hp.append_right hid)), hN⟩
    | ret v => exact q
    | _ => exact q) fun u₀ u₀ x => x
theorem law_read_ok (P : PW G) {l : List UInt8} {many : Nat} (hz : l.length ≤ 100000) (hm : many ≤ 4) {X : Addr → MH → Prop} : FN G 8 (.ref 447) [.bytes l, .int many] mh X fun d m => d = .dat (rcD (rcG many l 0 [] 0)) ∧ m = mh := by
  refine FN.clean ?_
  refine (P.fun (x := "_law_read") (a := 447) (i := 49) (by decide +kernel)).of (ps := ["octets", "many"]) P.ok rfl rfl rfl (by decide) (by decide) (by decide) rfl (fun fd vs a b c => by obtain ⟨x, y, rfl⟩ := len2 c; unfold bindArgs; rw [a, b]; kernel_rfl) fun C I CN => ?_
  refine EX0_consA fun K' hK => (SX.to0 (SX_assign (I.sto (.inl rfl)) (EV_new (n := 6) P.ok CN ((I.kindOf _).trans (by rfl)) (P.cls (("Octets" : Str), 303) (by decide)) P.makes.1 ?_ (by decide) (by intro _; with_unfolding_all rfl)) (by intro _; with_unfolding_all rfl)))
  repeat walk_at "w"
  intro x dx
  refine FN.pure (by decide) (fun X => oct_init P hz (X := X)) ⟨rfl, ?_⟩
  walk_at "n"
  refine EX0_consA fun K' hK => (SX0_try P.ok CN I ?_)
  walk_at "n"
  refine EX0_consA fun K' hK => (SX.to0 ?_)
  repeat walk_at "w"
  have hP : ((x, octA l 0 dx) :: mh).Perm ([(x, octA l 0 dx)] ++ mh) := List.Perm.refl _
  refine (read_chain_ok P hz hm).frame hP ?_ ?_
  · intro d m hq1
    refine absP fun P₀ hP₀ => ?_
    obtain ⟨gs, s, i, hr, y, dy, e1, e2⟩ := hq1
    refine hP₀ ?_; clear hP₀ P₀
    subst e1; subst e2
    walk_at "n"
    refine EX0_nil ?_
    walk_at "n"
    refine EX0_consA fun K' hK => (SX.to0 (SX_ret (EV_tuple ?_)))
    repeat walk_at "w"
    refine EV_fld P ?_ (by intro _; with_unfolding_all rfl) (by intro _ _; with_unfolding_all rfl)
    repeat walk_at "w"
    refine ⟨y, _, _, _, .dat (.list (gs.map .int)), rfl, .head _, by decide, by decide, rfl, (fun u h => by cases h), ?_⟩
    repeat walk_at "w"
    refine EV_fld P ?_ (by intro _; with_unfolding_all rfl) (by intro _ _; with_unfolding_all rfl)
    repeat walk_at "w"
    refine ⟨y, _, _, _, .int s, rfl, .head _, by decide, by decide, rfl, (fun u h => by cases h), ?_⟩
    repeat walk_at "w"
    refine EV_fld P ?_ (by intro _; with_unfolding_all rfl) (by intro _ _; with_unfolding_all rfl)
    repeat walk_at "w"
    refine ⟨x, _, _, _, .int (i : Nat), rfl, .tail _ (.head _), by decide, by decide, rfl, (fun u h => by cases h), ?_⟩
    repeat walk_at "w"
    refine ⟨by rw [sizeLine_eq]; simp, [.list (gs.map .int), .int s, .int (i : Nat)], rfl, [_, _], _, rfl, ?_, rfl⟩
    rw [hr]; rfl
  · intro c m hq2
    obtain ⟨⟨p', e1⟩, hx⟩ := hq2
    subst e1
    have hh : ∀ (Cl : Addr) (x : Str), (x, Cl) ∈ clsTab → Cl ∈ excTab → C.env.kindOf x = some .globalImplicit → ∀ c ∈ excTab, ∃ fI fJ, C.env.kindOf x = some .globalImplicit ∧ G.mg x = some (.ref Cl) ∧ ExcC G.K c fI ∧ ExcC G.K Cl fJ ∧ isSub G.K c Cl = (c == Cl) :=
      fun Cl x h1 h2 h3 c hc => ⟨36, 36, h3, P.cls (x, Cl) h1, P.exc _ hc, P.exc _ h2, P.sub _ hc _ h2⟩
    cases hr : rcG many l 0 [] 0 with
    | ok gs s i => rw [hr] at hx; cases hx
    | cut =>
      rw [hr] at hx; cases hx
      refine HND_hit 52 P I.sc (by rfl) (by decide) (by decide) (by decide) rfl (by decide) fun A => ?_
      · refine EX0_cons (SX.to0 ?_)
        repeat walk_at "w"
        exact ⟨[_], _, rfl, rfl, rfl⟩
    | bad =>
      rw [hr] at hx; cases hx
      refine HND_miss 52 P I.sc (by rfl) (by decide) (by decide) (by decide) rfl (by decide) ?_
      refine HND_hit 76 P I.sc (by rfl) (by decide) (by decide) (by decide) rfl (by decide) fun A => ?_
      · refine EX0_cons (SX.to0 ?_)
        repeat walk_at "w"
        exact ⟨[_], _, rfl, rfl, rfl⟩
    | filter =>
      rw [hr] at hx; cases hx
      refine HND_miss 52 P I.sc (by rfl) (by decide) (by decide) (by decide) rfl (by decide) ?_
      refine HND_miss 76 P I.sc (by rfl) (by decide) (by decide) (by decide) rfl (by decide) ?_
      refine HND_hit 88 P I.sc (by rfl) (by decide) (by decide) (by decide) rfl (by decide) fun A => ?_
      · refine EX0_cons (SX.to0 ?_)
        repeat walk_at "w"
        exact ⟨[_], _, rfl, rfl, rfl⟩
    | head =>
      rw [hr] at hx; cases hx
      refine HND_miss 52 P I.sc (by rfl) (by decide) (by decide) (by decide) rfl (by decide) ?_
      refine HND_miss 76 P I.sc (by rfl) (by decide) (by decide) (by decide) rfl (by decide) ?_
      refine HND_miss 88 P I.sc (by rfl) (by decide) (by decide) (by decide) rfl (by decide) ?_
      refine HND_hit 64 P I.sc (by rfl) (by decide) (by decide) (by decide) rfl (by decide) fun A => ?_
      · refine EX0_cons (SX.to0 ?_)
        repeat walk_at "w"
        exact ⟨[_], _, rfl, rfl, rfl⟩

end

section
set_option tactic.hygienic false
open PySem PySem.W PyProof.Rows
variable {G : Glb} {C C' : Cx} {loc loc' : Loc} {tmp tmp' : Tmp} {mh hid l l' : MH} {s s' s₁ : Shared}
variable {X : Addr → Loc → MH → Prop} {Q : D → MH → Prop} {Rt : D → MH → Prop} {N : Loc → MH → Prop}
theorem rng_get (a : Int) : ∀ (n i : Nat), i < n → (rng a 1 n)[i]? = some (a + i)
  | 0, i, h => by lia
  | n + 1, 0, h => by unfold rng; simp
  | n + 1, i + 1, h => by
    unfold rng
    rw [List.getElem?_cons_succ, rng_get (a + 1) n i (by lia)]
    congr 1; push_cast; lia
theorem lad_get {c : Nat} (h : c ≤ 40) : (LAD.map PyData.int)[c]? = some (.int (dsz (c : Int))) := by
  unfold LAD
  rw [List.getElem?_map, List.getElem?_map, rng_get 0 41 c (by lia), Int.zero_add]; rfl
set_option maxHeartbeats 2000000 in
inductive J33 (l : List UInt8) (many : Nat) (a b : Addr) (gs : List Int) (s : Int) (t i : Nat) (mh : MH) (rem : List D) (loc : Loc) (m : MH) : Prop
  | z (h1 : rem = [D.int 0, D.int 1]) (h2 : LS [("octets", .bytes l), ("many", .int many), ("ladder", .dat (.list (LAD.map .int))), ("gaps", .ptr a), ("size", .int s), ("at", .int i), ("heads", .ptr b), ("turn", .int t)] loc) (h3 : m = (b, .app []) :: (a, .app (gs.map D.int)) :: mh)
  | o (id k : Nat) (hr : rd (l.drop i) = .ok id k) (h1 : rem = [D.int 1]) (h2 : LS [("octets", .bytes l), ("many", .int many), ("ladder", .dat (.list (LAD.map .int))), ("gaps", .ptr a), ("size", .int s), ("at", .int (i + k : Nat)), ("heads", .ptr b), ("turn", .int t)] loc) (h3 : m = (b, .app [D.int id]) :: (a, .app (gs.map D.int)) :: mh)
  | w (id k sz k2 : Nat) (hr : rd (l.drop i) = .ok id k) (hr2 : rd (l.drop (i + k)) = .ok sz k2) (h1 : rem = []) (h2 : LS [("octets", .bytes l), ("many", .int many), ("ladder", .dat (.list (LAD.map .int))), ("gaps", .ptr a), ("size", .int s), ("at", .int (i + k + k2 : Nat)), ("heads", .ptr b), ("turn", .int t)] loc) (h3 : m = (b, .app [D.int id, D.int sz]) :: (a, .app (gs.map D.int)) :: mh)
theorem law_filters_ok (P : PW G) {l : List UInt8} {many : Nat} (hz : l.length ≤ 100000) (hm : many ≤ 4) {X : Addr → MH → Prop} : FN G 3 (.ref 440) [.bytes l, .int many, .dat (.list (LAD.map .int))] mh X fun d m => d = .dat (rcD (rcG many l 0 [] 0)) ∧ m = mh := by
  generalize hW : rcG many l 0 [] 0 = W
  refine FN.clean ?_
  refine (P.fun (x := "_law_filters") (a := 440) (i := 48) (by decide +kernel)).of (ps := ["octets", "many", "ladder"]) P.ok rfl rfl rfl (by decide) (by decide) (by decide) rfl (fun fd vs a b c => by obtain ⟨x, y, z, rfl⟩ := len3 c; unfold bindArgs; rw [a, b]; kernel_rfl) fun C I CN => ?_
  refine EX0.letR ?_; intro X₁ R₁ N₁
  refine EX0_consA fun K' hK => (SX.to0 ?_)
  refine SX_tuple (names := ["gaps", "size", "at"]) CN.hand (fun n hn => by
    simp only [List.mem_cons, List.not_mem_nil, or_false] at hn
    rcases hn with rfl | rfl | rfl <;> exact I.sto (by first | exact .inl rfl | exact .inr rfl)) ?_ (by rw [I.scope]; with_unfolding_all rfl)
  refine EVs_cons (EV_app (EVs_nil ⟨Nat.zero_le _, fun a => ?_⟩)) (by intro _; with_unfolding_all rfl)
  repeat walk_at "w"
  refine ⟨by rw [sizeLine_eq]; simp, rfl, ?_⟩
  walk_at "n"
  refine EX0_consA fun K' hK => (SX.to0 ?_)
  refine SX_for CN I (I.sto (.inl rfl)) (fun rem loc m => Ex5 fun (t n i : Nat) (gs : List Int) (s : Int) => And7 (t + n = many) (rem = (rng (t : Int) 1 n).map D.int) (LS [("octets", .bytes l), ("many", .int many), ("ladder", .dat (.list (LAD.map .int))), ("gaps", .ptr a), ("size", .int s), ("at", .int i)] loc) (m = (a, .app (gs.map D.int)) :: mh) (W = rcG n l i gs s) (gs.length ≤ t) (i ≤ l.length)) ?_ ?_ ?_
  · repeat walk_at "w"
    refine BF_range1 fun r t u v => ?_
    exact ⟨(rng 0 1 many).map D.int, _, ITB_range CN.hand (rng_small (by lia)) (rng_size _), 0, many, 0, [], 0, by lia, rfl, ⟨rfl, rfl, rfl, rfl, rfl, rfl, trivial⟩, rfl, hW.symm, Nat.le_refl _, Nat.zero_le _⟩
  · intro d ds loc m hq1
    try ((first | refine EX.letN ?_ | refine EXX.letN ?_); intro N₂)
    refine absP fun P₀ hP₀ => ?_
    obtain ⟨t, n, i, gs, s, htn, e2, hls, e3, hrc, hgl, hil⟩ := hq1
    refine hP₀ ?_; clear hP₀ P₀
    subst e3
    cases n with
    | zero => cases e2
    | succ n =>
    rw [show rng (t : Int) 1 (n + 1) = (t : Int) :: rng ((t + 1 : Nat) : Int) 1 n from rfl, List.map_cons] at e2
    obtain ⟨rfl, rfl⟩ := List.cons.inj e2
    unfold rcG at hrc
    walk_at "n"
    refine EX.lax2 (EX.weak ?_ hls.up)
    walk_at "n"
    refine EX_consA fun K' hK => (SX_assign (I.sto (.inl rfl)) (EV_app (EVs_nil ⟨Nat.zero_le _, fun b => ?_⟩)) (by intro _; with_unfolding_all rfl))
    walk_at "n"
    refine EX_cons ?_
    refine SX_for CN I (I.sto (.inl rfl)) (fun rem loc m => J33 l many a b gs s t i mh rem loc m) ?_ ?_ ?_
    · repeat walk_at "w"
      refine BF_range1 fun r t u v => ?_
      exact ⟨(rng 0 1 2).map D.int, _, ITB_range CN.hand (by decide) (by decide), .z rfl ⟨rfl, rfl, rfl, rfl, rfl, rfl, rfl, rfl, trivial⟩ rfl⟩
    · intro d ds loc m hJ
      try ((first | refine EX.letN ?_ | refine EXX.letN ?_); intro N₂)
      rcases hJ with ⟨e2, hls, e3⟩ | ⟨id, k, hr, e2, hls, e3⟩ | ⟨id, k, sz, k2, hr, hr2, e2, hls, e3⟩
      · subst e3
        obtain ⟨rfl, rfl⟩ := List.cons.inj e2
        walk_at "n"
        refine EX.weak ?_ hls.up
        repeat walk_at "w"
        refine FN.pure (by decide) (fun X => law_one_ok P (i := i) hz (by lia) (X := X)) ?_
        cases hr : rd (l.drop i) with
        | bad =>
          rw [hr] at hrc
          unfold oneD
          repeat walk_at "w"
          refine ⟨[_, _], _, rfl, ?_, rfl⟩
          rw [hrc]; rfl
        | cut =>
          rw [hr] at hrc
          unfold oneD
          repeat walk_at "w"
          refine ⟨[_, _], _, rfl, ?_, rfl⟩
          rw [hrc]; rfl
        | ok id k =>
          unfold oneD
          repeat walk_at "w"
          refine BF_isinst (fun u₀ u₀ u₀ => ii_tuple_str) ?_
          repeat walk_at "w"
          refine EV_meth ?_ (by intro _; exact ⟨_, rfl⟩)
          repeat walk_at "w"
          refine MC_appU ⟨_, .head _⟩ ?_
          repeat walk_at "w"
          refine ITM_tuple (x := .int (id : Nat)) (by decide) (by decide) rfl ?_
          refine ⟨_, _, .head, by rw [sizeLine_eq]; simp, rfl, ?_⟩
          repeat walk_at "w"
          refine ITM_tuple (x := .int ((i : Int) + (k : Nat))) (by decide) (by decide) rfl ?_
          repeat walk_at "w"
          exact .o id k hr rfl ⟨rfl, rfl, rfl, rfl, rfl, rfl, rfl, rfl, trivial⟩ rfl
      · subst e3
        obtain ⟨rfl, rfl⟩ := List.cons.inj e2
        have hk := rd_ok hr
        rw [List.length_drop] at hk
        rw [hr] at hrc
        dsimp only at hrc
        unfold rcB at hrc
        walk_at "n"
        refine EX.weak ?_ hls.up
        repeat walk_at "w"
        refine FN.pure (by decide) (fun X => law_one_ok P (i := i + k) hz (by lia) (X := X)) ?_
        cases hr2 : rd (l.drop (i + k)) with
        | bad =>
          rw [hr2] at hrc
          unfold oneD
          repeat walk_at "w"
          refine ⟨[_, _], _, rfl, ?_, rfl⟩
          rw [hrc]; rfl
        | cut =>
          rw [hr2] at hrc
          unfold oneD
          repeat walk_at "w"
          refine ⟨[_, _], _, rfl, ?_, rfl⟩
          rw [hrc]; rfl
        | ok sz k2 =>
          unfold oneD
          repeat walk_at "w"
          refine BF_isinst (fun u₀ u₀ u₀ => ii_tuple_str) ?_
          repeat walk_at "w"
          refine EV_meth ?_ (by intro _; exact ⟨_, rfl⟩)
          repeat walk_at "w"
          refine MC_appU ⟨_, .head _⟩ ?_
          repeat walk_at "w"
          refine ITM_tuple (x := .int (sz : Nat)) (by decide) (by decide) rfl ?_
          refine ⟨_, _, .head, by rw [sizeLine_eq]; simp, rfl, ?_⟩
          repeat walk_at "w"
          refine ITM_tuple (x := .int (((i + k : Nat) : Int) + (k2 : Nat))) (by decide) (by decide) rfl ?_
          repeat walk_at "w"
          exact .w id k sz k2 hr hr2 rfl ⟨rfl, rfl, rfl, rfl, rfl, rfl, rfl, rfl, trivial⟩ rfl
      · cases e2
    · intro loc m hJ
      rcases hJ with ⟨e2, _⟩ | ⟨id, k, hr, e2, _⟩ | ⟨id, k, sz, k2, hr, hr2, e2, hls, e3⟩
      · cases e2
      · cases e2
      subst e3
      have hk := rd_ok hr
      rw [List.length_drop] at hk
      have hk2 := rd_ok hr2
      rw [List.length_drop] at hk2
      rw [hr] at hrc
      dsimp only at hrc
      unfold rcB at hrc
      rw [hr2] at hrc
      dsimp only at hrc
      unfold rc0 at hrc
      walk_at "n"
      refine EX.weak ?_ hls.get
      walk_at "n"
      refine EX_consA fun K' hK => (SX_if ?_)
      repeat walk_at "w"
      refine ITM_list (x := D.int sz) (.inr (.head _)) (by decide) (by decide) rfl ?_
      repeat walk_at "w"
      refine BF_len_bytes (by lia) ?_
      refine CMP_gt ⟨fun h => ?_, fun h => ?_⟩
      · have h' : l.length < i + k + k2 + sz := by have := of_decide_eq_true h; lia
        rw [if_pos h'] at hrc
        repeat walk_at "w"
        refine ⟨[_, _], _, rfl, ?_, rfl⟩
        rw [hrc]; rfl
      have hcut : ¬ l.length < i + k + k2 + sz := by have := of_decide_eq_false h; lia
      rw [if_neg hcut] at hrc
      unfold rc1 at hrc
      walk_at "n"
      refine EX_nil ?_
      walk_at "n"
      refine EX_cons (SX_tuple (names := ["own", "at"]) CN.hand (fun n hn => by
        simp only [List.mem_cons, List.not_mem_nil, or_false] at hn
        rcases hn with rfl | rfl <;> exact I.sto (by first | exact .inl rfl | exact .inr rfl)) ?_ (by rw [I.scope]; with_unfolding_all rfl))
      repeat walk_at "w"
      refine ITM_list (x := D.int sz) (.inr (.head _)) (by decide) (by decide) rfl ?_
      repeat walk_at "w"
      have hcutE : cut l (some ((i + k + k2 : Nat) : Int)) (some (((i + k + k2 : Nat) : Int) + (sz : Nat))) = (l.drop (i + k + k2)).take sz := by
        have := cut_nn l (i + k + k2) (i + k + k2 + sz)
        rw [Nat.add_sub_cancel_left] at this
        rw [← this]; rfl
      refine SLC_bytes (by lia) ?_
      rw [hcutE]
      repeat walk_at "w"
      refine ITM_list (x := D.int sz) (.inr (.head _)) (by decide) (by decide) rfl ?_
      repeat walk_at "w"
      refine ⟨by rw [sizeLine_eq]; simp, rfl, ?_⟩
      walk_at "n"
      refine EX.weak (loc' := [("octets", .bytes l), ("many", .int many), ("ladder", .dat (.list (LAD.map .int))), ("gaps", .ptr a), ("size", .int s), ("at", .int (((i + k + k2 + sz : Nat) : Int))), ("heads", .ptr b), ("turn", .int t), ("own", .bytes ((l.drop (i + k + k2)).take sz))]) ?_ (LS.get ⟨rfl, rfl, rfl, rfl, rfl, rfl, rfl, rfl, rfl, trivial⟩)
      walk_at "n"
      refine EX_consA fun K' hK => (SX_if (TT.mono (Q := fun bb m => bb = decide (id ≠ 3 ∧ id ≠ 33) ∧ m = (b, .app [D.int id, D.int sz]) :: (a, .app (gs.map D.int)) :: mh) ?_ (fun bb m hq3 => ?_)))
      · refine TT.letQ ?_; intro Q₁
        repeat walk_at "w"
        refine ITM_list (x := D.int id) (.inr (.head _)) (by decide) (by decide) rfl ?_
        refine EV_list_dat ?_
        repeat walk_at "w"
        refine ⟨by rw [sizeLine_eq]; simp, [.int 3, .int 33], rfl, ?_⟩
        refine CMP_notin_list CN (by simp [PyData.canLayAll0, PyData.canLay0]) (by simp [PyData.canLay0]) (by simp [PyData.depth, PyData.depthAll]) ⟨?_, rfl⟩
        simp only [List.any_cons, List.any_nil, PyData.eqv]
        have e1 : ((3 : Int) == (id : Int)) = decide (id = 3) := by
          by_cases h : id = 3
          · subst h; rfl
          · rw [decide_eq_false h]; simp; lia
        have e2 : ((33 : Int) == (id : Int)) = decide (id = 33) := by
          by_cases h : id = 33
          · subst h; rfl
          · rw [decide_eq_false h]; simp; lia
        rw [e1, e2]
        by_cases h1 : id = 3 <;> by_cases h2 : id = 33 <;> simp [h1, h2]
      obtain ⟨e1, e2⟩ := hq3
      subst e1; subst e2
      refine ⟨fun h1 => ?_, fun h1 => ?_⟩
      · rw [if_pos (of_decide_eq_true h1)] at hrc
        repeat walk_at "w"
        refine ⟨[_, _], _, rfl, ?_, rfl⟩
        rw [hrc]; rfl
      have h1' := of_decide_eq_false h1
      rw [if_neg h1'] at hrc
      unfold rc2 at hrc
      walk_at "n"
      refine EX_nil ?_
      have hlt0 : sz = 1 → i + k + k2 < l.length := by lia
      have hown : sz = 1 → (l.drop (i + k + k2)).take sz = [l.getD (i + k + k2) 0] := fun h => by
        subst h
        have hlt := hlt0 rfl
        rw [List.drop_eq_getElem_cons hlt, List.getD_eq_getElem?_getD, List.getElem?_eq_getElem hlt]; rfl
      have hlen : ((l.drop (i + k + k2)).take sz).length = sz := by rw [List.length_take, List.length_drop]; exact Nat.min_eq_left (by lia)
      have hc256 := (l.getD (i + k + k2) 0).toNat_lt
      generalize (l.drop (i + k + k2)).take sz = own at hown hlen
      generalize hcc : l.getD (i + k + k2) 0 = c at hc256 hown
      walk_at "n"
      refine EX_consA fun K' hK => (SX_if (TT.mono (Q := fun bb m => bb = decide (¬ (id = 33 ↔ n = 0) ∨ sz ≠ 1 ∨ (id = 33 ∧ 40 < c.toNat)) ∧ m = (b, .app [D.int id, D.int sz]) :: (a, .app (gs.map D.int)) :: mh) ?_ (fun bb m hq4 => ?_)))
      · refine TT.letQ ?_; intro Q₁
        repeat walk_at "w"
        refine ITM_list (x := D.int id) (.inr (.head _)) (by decide) (by decide) rfl ?_
        repeat walk_at "w"
        have e1 : ((id : Int) == 33) = decide (id = 33) := by
          by_cases h : id = 33
          · subst h; rfl
          · rw [decide_eq_false h]; simp; lia
        have e2 : ((t : Int) == (many : Int) - 1) = decide (n = 0) := by
          by_cases h : n = 0
          · rw [decide_eq_true h]; simp; lia
          · rw [decide_eq_false h]; simp; lia
        have e3 : (decide (id = 33) != decide (n = 0)) = decide (¬ (id = 33 ↔ n = 0)) := by
          by_cases h1 : id = 33 <;> by_cases h2 : n = 0 <;> simp [h1, h2]
        refine CMP_neb ?_
        rw [e1, e2, e3]
        by_cases hA : ¬ (id = 33 ↔ n = 0)
        · rw [decide_eq_true hA]
          refine ⟨fun u₀ => ⟨?_, rfl⟩, fun h => by cases h⟩
          rw [decide_eq_true]; exact .inl hA
        rw [decide_eq_false hA]
        refine ⟨fun h => (by cases h), fun u₀ => ?_⟩
        repeat walk_at "w"
        refine BF_len_bytes (by lia) ?_
        repeat walk_at "w"
        rw [hlen]
        by_cases hB : sz = 1
        · subst hB
          rw [hown rfl]
          refine ⟨fun h => absurd h (by decide), fun u₀ => ?_⟩
          repeat walk_at "w"
          refine ITM_list (x := D.int id) (.inr (.head _)) (by decide) (by decide) rfl ?_
          repeat walk_at "w"
          rw [e1]
          by_cases hC : id = 33
          · rw [decide_eq_true hC]
            repeat walk_at "w"
            refine ITM_bytes (by simp) (by decide) (by simp) ?_
            repeat walk_at "w"
            refine ⟨fun h => ?_, fun h => ?_⟩
            · repeat walk_at "w"
              refine ⟨?_, rfl⟩
              rw [decide_eq_true]
              refine .inr (.inr ⟨hC, ?_⟩)
              have := of_decide_eq_true h
              show 40 < c.toNat
              have h' : (40 : Int) < (c.toNat : Int) := this
              lia
            · repeat walk_at "w"
              refine ⟨?_, rfl⟩
              rw [decide_eq_false]
              have h' : ¬ ((40 : Int) < (c.toNat : Int)) := of_decide_eq_false h
              rintro (q | q | q)
              · exact hA q
              · exact q rfl
              · lia
          · rw [decide_eq_false hC]
            repeat walk_at "w"
            refine ⟨?_, rfl⟩
            rw [decide_eq_false]
            rintro (q | q | q)
            · exact hA q
            · exact q rfl
            · exact hC q.1
        · have e4 : ((sz : Int) != 1) = true := by simp; lia
          rw [e4]
          refine ⟨fun u₀ => ⟨?_, rfl⟩, fun h => by cases h⟩
          rw [decide_eq_true]; exact .inr (.inl hB)
      obtain ⟨e1, e2⟩ := hq4
      subst e1; subst e2
      refine ⟨fun h2 => ?_, fun h2 => ?_⟩
      · have h2' := of_decide_eq_true h2
        have hW' : W = .head := by
          rw [hrc]
          by_cases hA : ¬ (id = 33 ↔ n = 0)
          · rw [if_pos hA]
          rw [if_neg hA]
          unfold rc3
          by_cases hB : sz ≠ 1
          · rw [if_pos hB]
          rw [if_neg hB]
          unfold rc4
          rcases h2' with q | q | q
          · exact absurd q hA
          · exact absurd q hB
          · rw [if_neg (by lia)]; unfold rc5; rw [hcc, if_pos q.2]
        repeat walk_at "w"
        refine ⟨[_, _], _, rfl, ?_, rfl⟩
        rw [hW']; rfl
      have h2' := of_decide_eq_false h2
      have hA : ¬ ¬ (id = 33 ↔ n = 0) := fun q => h2' (.inl q)
      have hB : ¬ sz ≠ 1 := fun q => h2' (.inr (.inl q))
      have hC : id = 33 → ¬ 40 < c.toNat := fun q q2 => h2' (.inr (.inr ⟨q, q2⟩))
      have hsz : sz = 1 := Decidable.of_not_not hB
      rw [if_neg hA] at hrc
      unfold rc3 at hrc
      rw [if_neg hB] at hrc
      unfold rc4 at hrc
      rw [hown hsz]
      walk_at "n"
      refine EX_nil ?_
      walk_at "n"
      refine EX_consA fun K' hK => (SX_if ?_)
      repeat walk_at "w"
      refine ITM_list (x := D.int id) (.inr (.head _)) (by decide) (by decide) rfl ?_
      repeat walk_at "w"
      by_cases h4 : id = 3
      · rw [if_pos h4, hcc] at hrc
        have e : ((id : Int) == 3) = true := by subst h4; rfl
        rw [e]
        refine ⟨fun u₀ => ?_, fun h => by cases h⟩
        repeat walk_at "w"
        refine EV_meth ?_ (by intro _; exact ⟨_, rfl⟩)
        repeat walk_at "w"
        refine MC_appU ⟨_, .tail _ (.head _)⟩ ?_
        repeat walk_at "w"
        refine ITM_bytes (by simp) (by decide) (by simp) ?_
        repeat walk_at "w"
        refine ⟨_, _, .tail .head, by rw [List.length_map, sizeLine_eq]; lia, rfl, ?_⟩
        repeat walk_at "w"
        refine ⟨[("octets", .bytes l), ("many", .int many), ("ladder", .dat (.list (LAD.map .int))), ("gaps", .ptr a), ("size", .int s), ("at", .int (i + k + k2 + sz : Nat))], [_], _, ?_, List.Perm.refl _, t + 1, n, i + k + k2 + sz, gs ++ [(c.toNat : Int) + 1], s, by lia, rfl, ⟨rfl, rfl, rfl, rfl, rfl, rfl, trivial⟩, ?_, hrc, by simp; lia, by lia⟩
        · exact ⟨rfl, rfl, rfl, rfl, rfl, rfl, trivial⟩
        · rw [List.map_append]; rfl
      · rw [if_neg h4] at hrc
        unfold rc5 at hrc
        rw [hcc] at hrc
        have h33 : id = 33 := by
          by_cases q : id = 33
          · exact q
          · exact absurd ⟨h4, q⟩ h1'
        have h40 := hC h33
        rw [if_neg h40] at hrc
        have e : ((id : Int) == 3) = false := by subst h33; rfl
        rw [e]
        refine ⟨fun h => (by cases h), fun u₀ => ?_⟩
        repeat walk_at "w"
        refine ITM_bytes (by simp) (by decide) (by simp) ?_
        repeat walk_at "w"
        show ITM G C (.dat (.list (LAD.map .int))) (.int (c.toNat : Int)) _ _
        refine ITM_list_dat (x := .int (dsz (c.toNat : Int))) (by lia) (by lia) ?_ ?_
        · have := lad_get (c := c.toNat) (by lia)
          exact this
        repeat walk_at "w"
        refine ⟨[("octets", .bytes l), ("many", .int many), ("ladder", .dat (.list (LAD.map .int))), ("gaps", .ptr a), ("size", .int (dsz (c.toNat : Int))), ("at", .int (i + k + k2 + sz : Nat))], [_], _, ?_, List.Perm.refl _, t + 1, n, i + k + k2 + sz, gs, dsz (c.toNat : Int), by lia, rfl, ⟨rfl, rfl, rfl, rfl, rfl, rfl, trivial⟩, rfl, hrc, by lia, by lia⟩
        exact ⟨rfl, rfl, rfl, rfl, rfl, rfl, trivial⟩
  · intro loc m hq2
    refine absP fun P₀ hP₀ => ?_
    obtain ⟨t, n, i, gs, s, htn, e2, hls, e3, hrc, hgl, hil⟩ := hq2
    refine hP₀ ?_; clear hP₀ P₀
    walk_at "n"
    subst e3
    cases n with
    | succ n => cases e2
    | zero =>
    walk_at "n"
    refine EX0.weak ?_ hls.get
    walk_at "n"
    refine EX0_consA fun K' hK => (SX.to0 (SX_ret (EV_tuple (EVs_cons (EV_frz ?_) (by intro _; with_unfolding_all rfl)))))
    repeat walk_at "w"
    refine ⟨a, gs.map .int, mh, rfl, .inl (by rw [List.map_map]; exact List.Perm.refl _), ?_⟩
    repeat walk_at "w"
    refine ⟨by rw [sizeLine_eq]; simp, [.list (gs.map .int), .int s, .int (i : Nat)], rfl, [], _, rfl, ?_, rfl⟩
    rw [hrc]; rfl

end

section
set_option tactic.hygienic false
open PySem PySem.W PyProof.Rows
noncomputable def zs (g : Nat) : List UInt8 := List.replicate g 0
noncomputable def pk (g : Nat) (l : List UInt8) : List UInt8 := List.zipWith (· - ·) l (zs g ++ l)
noncomputable def upG : List UInt8 → List UInt8 → Nat → List UInt8
  | acc, [], _ => acc
  | acc, c :: r, i => upG (acc ++ [c + acc.getD i 0]) r (i + 1)
noncomputable def up (g : Nat) (l : List UInt8) : List UInt8 := (upG (zs g) l 0).drop g
theorem upG_unpack : ∀ (r acc : List UInt8) (i : Nat), i < acc.length → ∃ t, upG acc r i = acc ++ t ∧ t.length = r.length ∧ List.zipWith (· - ·) t ((acc ++ t).drop i) = r
  | [], acc, i, h => ⟨[], by simp [upG], rfl, by simp⟩
  | c :: r, acc, i, h => by
    obtain ⟨t, e1, e2, e3⟩ := upG_unpack r (acc ++ [c + acc.getD i 0]) (i + 1) (by simp; lia)
    refine ⟨(c + acc.getD i 0) :: t, by unfold upG; rw [e1, List.append_assoc]; rfl, by simp [e2], ?_⟩
    rw [List.append_assoc, List.singleton_append] at e3
    have hi : i < (acc ++ (c + acc.getD i 0) :: t).length := by simp; lia
    rw [List.drop_eq_getElem_cons hi, List.zipWith_cons_cons, e3]
    have : (acc ++ (c + acc.getD i 0) :: t)[i] = acc.getD i 0 := by
      rw [List.getElem_append_left h, List.getD_eq_getElem?_getD, List.getElem?_eq_getElem h]; rfl
    rw [this, UInt8.add_sub_cancel]
theorem upG_repack : ∀ (t acc : List UInt8) (i : Nat), i < acc.length → upG acc (List.zipWith (· - ·) t ((acc ++ t).drop i)) i = acc ++ t
  | [], acc, i, h => by simp [upG]
  | x :: t, acc, i, h => by
    have hi : i < (acc ++ x :: t).length := by simp; lia
    have e : (acc ++ x :: t)[i] = acc.getD i 0 := by
      rw [List.getElem_append_left h, List.getD_eq_getElem?_getD, List.getElem?_eq_getElem h]; rfl
    rw [List.drop_eq_getElem_cons hi, List.zipWith_cons_cons, e]
    unfold upG
    rw [UInt8.sub_add_cancel]
    have := upG_repack t (acc ++ [x]) (i + 1) (by simp; lia)
    rw [List.append_assoc, List.singleton_append] at this
    exact this
theorem zs_len (g : Nat) : (zs g).length = g := by simp [zs]
theorem up_spec {g : Nat} (hg : 1 ≤ g) (l : List UInt8) : upG (zs g) l 0 = zs g ++ up g l ∧ (up g l).length = l.length ∧ pk g (up g l) = l := by
  obtain ⟨t, e1, e2, e3⟩ := upG_unpack l (zs g) 0 (by rw [zs_len]; lia)
  have : up g l = t := by unfold up; rw [e1, List.drop_left' (zs_len g)]
  rw [this]
  exact ⟨e1, e2, e3⟩
theorem pk_up {g : Nat} (hg : 1 ≤ g) (l : List UInt8) : pk g (up g l) = l := (up_spec hg l).2.2
theorem up_pk {g : Nat} (hg : 1 ≤ g) (l : List UInt8) : up g (pk g l) = l := by
  have := upG_repack l (zs g) 0 (by rw [zs_len]; lia)
  unfold up pk
  rw [List.drop_zero] at this
  rw [this, List.drop_left' (zs_len g)]
theorem pk_len (g : Nat) (l : List UInt8) : (pk g l).length = l.length := by
  unfold pk; rw [List.length_zipWith, List.length_append, zs_len]; lia
theorem up_len {g : Nat} (hg : 1 ≤ g) (l : List UInt8) : (up g l).length = l.length := (up_spec hg l).2.1
noncomputable def prv (g : Nat) (l : List UInt8) (i : Nat) : UInt8 := if i < g then 0 else l.getD (i - g) 0
theorem zs_get (g : Nat) (l : List UInt8) (i : Nat) (h : i < l.length) : (zs g ++ l)[i]? = some (prv g l i) := by
  unfold prv
  by_cases q : i < g
  · rw [if_pos q, List.getElem?_append_left (by rw [zs_len]; exact q)]; simp [zs, q]
  · rw [if_neg q, List.getElem?_append_right (by rw [zs_len]; lia), zs_len, List.getD_eq_getElem?_getD, List.getElem?_eq_getElem (by lia)]; rfl
theorem pk_get (g : Nat) (l : List UInt8) (i : Nat) (h : i < l.length) : (pk g l).getD i 0 = l.getD i 0 - prv g l i := by
  unfold pk
  rw [List.getD_eq_getElem?_getD, List.getElem?_zipWith, List.getElem?_eq_getElem h, zs_get g l i h, List.getD_eq_getElem?_getD, List.getElem?_eq_getElem h]; rfl
theorem up_get {g : Nat} (hg : 1 ≤ g) (l : List UInt8) (i : Nat) (h : i < l.length) : (up g l).getD i 0 = l.getD i 0 + prv g (up g l) i := by
  have h1 := pk_get g (up g l) i (by rw [up_len hg]; exact h)
  rw [pk_up hg] at h1
  rw [h1, UInt8.sub_add_cancel]
noncomputable def apt (total : Bool) (g : Nat) (l : List UInt8) : List UInt8 := if total then up g l else pk g l
theorem apt_len {total : Bool} {g : Nat} (hg : 1 ≤ g) (l : List UInt8) : (apt total g l).length = l.length := by
  unfold apt; split
  · exact up_len hg l
  · exact pk_len g l
theorem sub_int (c a : UInt8) : ((c.toNat : Int) - (a.toNat : Int)) % 256 = ((c - a).toNat : Int) := by
  have h1 := c.toNat_lt; have h2 := a.toNat_lt
  rw [UInt8.toNat_sub]; lia
theorem add_int (c a : UInt8) : ((c.toNat : Int) + (a.toNat : Int)) % 256 = ((c + a).toNat : Int) := by
  rw [UInt8.toNat_add]; rfl
theorem octs_bytes (l : List UInt8) : octs (l.map fun c => (c.toNat : Int)) = l := by
  unfold octs
  rw [List.map_map]
  conv => rhs; rw [← List.map_id l]
  apply List.map_congr_left
  intro c _
  show ((c.toNat : Int).toNat).toUInt8 = c
  rw [Int.toNat_natCast]; exact UInt8.ofNat_toNat

end

section
set_option tactic.hygienic false
open PySem PySem.W PyProof.Rows
variable {G : Glb} {C C' : Cx} {loc loc' : Loc} {tmp tmp' : Tmp} {mh hid l l' : MH} {s s' s₁ : Shared}
variable {X : Addr → Loc → MH → Prop} {Q : D → MH → Prop} {Rt : D → MH → Prop} {N : Loc → MH → Prop}
theorem pairs_drop : ∀ {r : List UInt8} {i : Nat} {d : D} {rem : List D}, d :: rem = pairs i r → ∃ c r', r = c :: r' ∧ d = D.pair i c ∧ rem = pairs (i + 1) r'
  | [], i, d, rem, h => by cases h
  | c :: r, i, d, rem, h => by
    unfold pairs at h
    obtain ⟨h1, h2⟩ := List.cons.inj h
    exact ⟨c, r, rfl, h1, h2⟩
theorem pairs_nil {r : List UInt8} {i : Nat} (h : [] = pairs i r) : r = [] := by
  cases r with
  | nil => rfl
  | cons c r => cases h
theorem pairs_len : ∀ (r : List UInt8) (i : Nat), (pairs i r).length = r.length
  | [], i => rfl
  | c :: r, i => by unfold pairs; rw [List.length_cons, List.length_cons, pairs_len r]
theorem delta_packed_ok (P : PW G) {l : List UInt8} {g : Nat} (hg : 1 ≤ g) (hg2 : g ≤ 256) (hz : l.length ≤ 100000) {X : Addr → MH → Prop} : FN G 2 (.ref 128) [.bytes l, .int g] mh X fun d m => d = .bytes (pk g l) ∧ m = mh := by
  refine (P.fun (x := "delta_packed") (a := 128) (i := 16) (by decide +kernel)).of (ps := ["octets", "distance"]) P.ok rfl rfl rfl (by decide) (by decide) (by decide) rfl (fun fd vs a b c => by obtain ⟨x, y, rfl⟩ := len2 c; unfold bindArgs; rw [a, b]; kernel_rfl) fun C I CN => ?_
  refine EX0.letR ?_; intro X₁ R₁ N₁
  refine EX0_consA fun K' hK => (SX.to0 ?_)
  repeat walk_at "w"
  refine FN.pure (by decide) (fun X => need_distance_ok P (by lia) (by lia) (X := X)) ⟨rfl, ?_⟩
  walk_at "n"
  refine EX0_consA fun K' hK => (SX.to0 ?_)
  repeat walk_at "w"
  refine BF_bytes_int (by lia) (by lia) ?_
  repeat walk_at "w"
  refine BF_bytes_bytes ?_
  refine OP_addb (by simp; lia) ?_
  rw [Int.toNat_natCast, show (List.replicate g 0 ++ l : List UInt8) = zs g ++ l from rfl]
  walk_at "n"
  with_reducible refine EX0.weak (loc' := [("ahead", .bytes (zs g ++ l)), ("octets", .bytes l)]) ?wk1 ?wl1
  case wl1 => exact LS.get ⟨rfl, rfl, trivial⟩
  walk_at "n"
  refine EX0_consA fun K' hK => (SX.to0 (SX_ret ?_))
  repeat walk_at "w"
  refine EV_comp2 (x := "octet") (CompOk.of (locF := [("ahead", .bytes (zs g ++ l))]) I rfl (by decide) (by decide) (by decide) (by decide) (fun p hp => by rw [List.mem_singleton.mp hp]; exact ⟨rfl, by show (("ahead" : Str), NameKind.free) ∈ _; decide⟩)) CN.hand (by rw [I.scope]; rfl)
    (fun rem acc m' => ∃ dn r, l = dn ++ r ∧ rem = pairs dn.length r ∧ acc = ((pk g l).take dn.length).map (fun c => PyData.int (c.toNat : Int)) ∧ m' = mh) ?_ ?_ ?_ (by intro _ _; with_unfolding_all rfl)
  · repeat walk_at "w"
    refine BF_enum fun e it oi t hc hd => ?_
    exact ⟨pairs 0 l, mh, ITB2_enum CN.hand ⟨_, _, _, rfl⟩ hc hd, ⟨[], l, rfl, rfl, rfl, rfl⟩, by rw [pairs_len]; lia⟩
  · intro C2 S d rem acc m' hq1
    refine absP fun P₀ hP₀ => ?_
    obtain ⟨dn, r, e1, e2, e3, e4⟩ := hq1
    refine hP₀ ?_; clear hP₀ P₀
    subst e4
    obtain ⟨c, r, rfl, rfl, rfl⟩ := pairs_drop e2
    have I2 := S.sc I
    have CN2 := S.can CN
    refine ⟨_, ASG_pair (S.A ▸ CN.hand) (.inl ((I2.kindOf _).trans (by rfl))) (.inl ((I2.kindOf _).trans (by rfl))), ?_⟩
    refine ⟨fun u₀ => ?_, fun h => absurd h (by decide)⟩
    have hn : dn.length < l.length := by rw [e1]; simp
    have hc : l.getD dn.length 0 = c := by rw [e1]; simp
    repeat walk_at "w"
    refine ITM_bytes (by rw [List.length_append, zs_len]; lia) (by lia) (by rw [List.length_append, zs_len]; lia) ?_
    repeat walk_at "w"
    refine ⟨dn ++ [c], r, by rw [e1]; simp, by simp, ?_, rfl⟩
    rw [and255, Int.toNat_natCast, show (zs g ++ l).getD dn.length 0 = prv g l dn.length by rw [List.getD_eq_getElem?_getD, zs_get g l _ hn]; rfl, sub_int, e3]
    have hk : dn.length < (pk g l).length := by rw [pk_len]; exact hn
    rw [List.length_append, List.length_singleton, List.take_succ_eq_append_getElem hk, List.map_append]
    have : (pk g l)[dn.length] = c - prv g l dn.length := by
      rw [← hc, ← pk_get g l _ hn, List.getD_eq_getElem?_getD, List.getElem?_eq_getElem hk]; rfl
    rw [this]; rfl
  · intro xs m' hq2
    refine absP fun P₀ hP₀ => ?_
    obtain ⟨dn, r, e1, e2, e3, e4⟩ := hq2
    refine hP₀ ?_; clear hP₀ P₀
    subst e4
    have := pairs_nil e2
    subst this
    rw [List.append_nil] at e1
    repeat walk_at "w"
    have hx : xs = ((pk g l).map fun c => (c.toNat : Int)).map PyData.int := by
      rw [e3, ← e1, List.map_map, show l.length = (pk g l).length from (pk_len g l).symm, List.take_length]; rfl
    rw [hx]
    refine BF_bytes_list CN.hand (fun n hn => ?_) (by rw [List.length_map, pk_len]; lia) ⟨by rw [octs_bytes], rfl⟩
    obtain ⟨c, _, rfl⟩ := List.mem_map.mp hn
    have := c.toNat_lt
    lia
theorem delta_packed_no (P : PW G) {l : List UInt8} {d : D} (h : OddD d) : FN G 4 (.ref 128) [.bytes l, d] mh (fun c m => c = 100 ∧ m = mh) fun u₀ u₀ => False := by
  refine (P.fun (x := "delta_packed") (a := 128) (i := 16) (by decide +kernel)).of (ps := ["octets", "distance"]) P.ok rfl rfl rfl (by decide) (by decide) (by decide) rfl (fun fd vs a b c => by obtain ⟨x, y, rfl⟩ := len2 c; unfold bindArgs; rw [a, b]; kernel_rfl) fun C I CN => ?_
  refine EX0.letR ?_; intro X₁ R₁ N₁
  refine EX0_consA fun K' hK => (SX.to0 ?_)
  repeat walk_at "w"
  exact (need_distance_no P h).mono (fun d m z => z.elim) fun c m z => z

end

section
set_option tactic.hygienic false
open PySem PySem.W PyProof.Rows
variable {G : Glb} {C C' : Cx} {loc loc' : Loc} {tmp tmp' : Tmp} {mh hid l l' : MH} {s s' s₁ : Shared}
variable {X : Addr → Loc → MH → Prop} {Q : D → MH → Prop} {Rt : D → MH → Prop} {N : Loc → MH → Prop}
theorem delta_unpacked_ok (P : PW G) {l : List UInt8} {g : Nat} (hg : 1 ≤ g) (hg2 : g ≤ 256) (hz : l.length ≤ 100000) {X : Addr → MH → Prop} : FNX G 2 (.ref 135) [.bytes l, .int g] mh X fun d m => d = .bytes (up g l) ∧ m = mh := by
  refine FNX.clean ?_
  refine (P.fun (x := "delta_unpacked") (a := 135) (i := 17) (by decide +kernel)).ofX (ps := ["octets", "distance"]) P.ok rfl rfl rfl (by decide) (by decide) (by decide) rfl (fun fd vs a b c => by obtain ⟨x, y, rfl⟩ := len2 c; unfold bindArgs; rw [a, b]; kernel_rfl) fun C I CN => ?_
  refine EXX0.letR ?_; intro X₁ R₁ N₁
  refine EXX0_consA fun K' hK => (SXX.to0 (SX.x ?_))
  repeat walk_at "w"
  refine FN.pure (by decide) (fun X => need_distance_ok P (by lia) (by lia) (X := X)) ⟨rfl, ?_⟩
  walk_at "n"
  refine EXX0_consA fun K' hK => (SXX.to0 (SXX_assign (I.sto (.inl rfl)) (EVX_callt P.ok ((I.kindOf _).trans (by rfl)) (P.nob (("bytearray" : Str), .type "bytearray") (by decide)) (typ_boot (("bytearray" : Str), .type "bytearray") (by decide)) (by decide) ?_) (by intro _; with_unfolding_all rfl)))
  repeat walk_at "x"
  refine BFX_ba1 (by lia) (by lia) fun a => ?_
  rw [Int.toNat_natCast, show (List.replicate g 0 : List UInt8) = zs g from rfl]
  walk_at "n"
  with_reducible refine EXX0.weak (loc' := [("distance", .int g), ("octets", .bytes l), ("found", .ptr a)]) ?wk1 ?wl1
  case wl1 => exact LS.get ⟨rfl, rfl, rfl, trivial⟩
  walk_at "n"
  refine EXX0_consA fun K' hK => (SXX.to0 ?_)
  refine SXX_for CN I (fun rem loc m' => Ex3 fun i r acc => And6 (rem = pairs i r) (LS [("distance", .int g), ("octets", .bytes l), ("found", .ptr a)] loc) (m' = (a, .ba acc) :: mh) (upG acc r i = upG (zs g) l 0) (i < acc.length) (acc.length + r.length ≤ 100256)) ?_ ?_ ?_ (by intro _ _; with_unfolding_all rfl)
  · repeat walk_at "w"
    refine BF_enum fun e it oi t hc hd => ?_
    intro tmp hid s v E R hv
    exact wpAny_mono (ITB2_enum (G := G) CN.hand ⟨_, _, _, rfl⟩ hc hd _ tmp hid s v E R hv) (fun it s' hq3 => by obtain ⟨its, R', Y, _⟩ := hq3; exact ⟨_, _, its, ⟨0, l, zs g, rfl, ⟨rfl, rfl, rfl, trivial⟩, rfl, rfl, by rw [zs_len]; lia, by rw [zs_len]; lia⟩, R', Y⟩) fun u₀ u₀ x => x
  · intro d ds loc m' hq1
    refine absP fun P₀ hP₀ => ?_
    obtain ⟨i, r, acc, e1, hls, e2, e3, e4, e5⟩ := hq1
    refine hP₀ ?_; clear hP₀ P₀
    subst e2
    obtain ⟨c, r, rfl, rfl, rfl⟩ := pairs_drop e1
    refine ⟨_, ASG_pair CN.hand (I.sto (.inl rfl)) (I.sto (.inl rfl)), ?_⟩
    walk_at "n"
    with_reducible refine EXX.weak (loc' := [("octet", .int c.toNat), ("place", .int i), ("distance", .int g), ("octets", .bytes l), ("found", .ptr a)]) ?wk2 ?wl2
    case wl2 => exact LS.get ⟨rfl, rfl, hls.1, hls.2.1, hls.2.2.1, trivial⟩
    walk_at "n"
    with_reducible refine EXX.lax ?_
    walk_at "n"
    refine EXX_consA fun K' hK => (SXX_expr (EVX_meth (EV.x ?_)) (I.inter rfl) (by intro _; with_unfolding_all rfl))
    repeat walk_at "w"
    refine MCX_appU ⟨_, .head _⟩ (EV.x ?_)
    repeat walk_at "w"
    refine ITM_ba (x := acc.getD i 0) (.head _) (by lia) (by lia) (by rw [Int.toNat_natCast, List.getD_eq_getElem?_getD, List.getElem?_eq_getElem e4]; rfl) ?_
    repeat walk_at "w"
    rw [and255, add_int]
    have hb := (c + acc.getD i 0).toNat_lt
    refine ⟨_, _, _, rfl, .head, by lia, by lia, by lia, rfl, ?_⟩
    walk_at "n"
    refine EXX_nil ⟨[("distance", .int g), ("octets", .bytes l), ("found", .ptr a)], ⟨rfl, rfl, rfl, trivial⟩, i + 1, r, acc ++ [c + acc.getD i 0], rfl, ⟨rfl, rfl, rfl, trivial⟩, ?_, ?_, by simp; lia, by simp at e5 ⊢; lia⟩
    · rw [Int.toNat_natCast, show ((c + acc.getD i 0).toNat).toUInt8 = c + acc.getD i 0 from UInt8.ofNat_toNat]
    · rw [← e3]; rfl
  · intro loc m' hq2
    refine absP fun P₀ hP₀ => ?_
    obtain ⟨i, r, acc, e1, hls, e2, e3, e4, e5⟩ := hq2
    refine hP₀ ?_; clear hP₀ P₀
    subst e2
    have := pairs_nil e1
    subst this
    walk_at "n"
    refine EXX0.weak (loc' := [("distance", .int g), ("octets", .bytes l), ("found", .ptr a)]) ?_ hls.get
    walk_at "n"
    refine EXX0_consA fun K' hK => (SXX.to0 (SX.x (SX_ret ?_)))
    have e3' : acc = upG (zs g) l 0 := e3
    simp only [List.length_nil] at e5
    walk_at "w"
    refine EVs_cons (EV_sliceM ?_) (by intro _; with_unfolding_all rfl)
    repeat walk_at "w"
    refine SLM_ba (.head _) (by lia) (by lia) fun b => ?_
    repeat walk_at "w"
    refine BF_bytes_ba (.head _) (by simp; lia) ⟨[_, _], _, rfl, ?_, rfl⟩
    rw [e3', Int.toNat_natCast]; rfl
theorem delta_unpacked_no (P : PW G) {l : List UInt8} {d : D} (h : OddD d) : FNX G 4 (.ref 135) [.bytes l, d] mh (fun c m => c = 100 ∧ m = mh) fun u₀ u₀ => False := by
  refine (P.fun (x := "delta_unpacked") (a := 135) (i := 17) (by decide +kernel)).ofX (ps := ["octets", "distance"]) P.ok rfl rfl rfl (by decide) (by decide) (by decide) rfl (fun fd vs a b c => by obtain ⟨x, y, rfl⟩ := len2 c; unfold bindArgs; rw [a, b]; kernel_rfl) fun C I CN => ?_
  refine EXX0.letR ?_; intro X₁ R₁ N₁
  refine EXX0_consA fun K' hK => (SXX.to0 (SX.x ?_))
  repeat walk_at "w"
  exact (need_distance_no P h).mono (fun d m z => z.elim) fun c m z => z

end

section
set_option tactic.hygienic false
open PySem PySem.W PyProof.Rows
variable {G : Glb} {C C' : Cx} {loc loc' : Loc} {tmp tmp' : Tmp} {mh hid l l' : MH} {s s' s₁ : Shared}
variable {X : Addr → Loc → MH → Prop} {Q : D → MH → Prop} {Rt : D → MH → Prop} {N : Loc → MH → Prop}
theorem EV_revT {o : Expr} {p p1 p2 pos : Pos} {k : Nat} (h : EV G C loc mh o X fun d m => ∃ xs, d = .dat (.list xs) ∧ xs.length ≤ 16777216 ∧ Q (.dat (.list xs.reverse)) m)
    (hs : ∀ v w, subscripted (.Slice none none (some (.UnaryOp .USub (.Constant (.int 1) k p1) p2)) p) false v w = operate [v, w] (getItem v w) := by intro _ _; with_unfolding_all rfl) :
    EV G C loc mh (.Subscript o (.Slice none none (some (.UnaryOp .USub (.Constant (.int 1) k p1) p2)) p) pos) X Q := fun tmp hid s R => by
  refine Subscript_ (h.go R (fun v1 s1 d1 m1 R1 ⟨xs, e, hz, q⟩ => wpAny_Slice ?_))
  subst e
  rw [evalPart_none]
  refine wpAny_pure (wpAny_pure ?_)
  rw [evalPart_some]
  refine wpAny_UnaryOp (wpAny_Constant_int (PyProof.Rows.neg_int ?_))
  have R2 := (R1.toks (s1.toks + 1 + 1)).alloc { cls := .type "slice", data := .fields #[.none, .none, .int (-1) (s1.toks + 1)] } (s1.toks + 1 + 1)
  have T2 := R2.top
  dsimp only at T2
  cases T2 with | dat y => cases y with | @list a _ vs _ _ n e c d f =>
  have hl : Heap.IsList _ _ _ := ⟨_, e, c, _, d⟩
  have hz' := f.length; rw [Array.length_toList] at hz'
  have a2 : Shared.TypeIs { s1 with heap := s1.heap.push { cls := .type "slice", data := .fields #[.none, .none, .int (-1) (s1.toks + 1)] }, toks := s1.toks + 1 + 1 } (.ref a) "list" := hl.typeIs
  have key := fun (E : Value → Shared → Prop) (Qv : Value → Shared → Prop) (hq : _) => wpAny_getItem_list_slice (prog := G.p) (w := G.w) (A := C.A) (E := E) (Q := Qv) (s := { s1 with heap := s1.heap.push { cls := .type "slice", data := .fields #[.none, .none, .int (-1) (s1.toks + 1)] }, toks := s1.toks + 1 + 1 }) hl (Heap.IsSliceOf.new _ _ _ _) .none .none (.int _ _) (by simp) hq (by rw [hz', sizeLine_eq]; exact hz)
  unfold subscriptTail
  refine wpAny_bind ?_
  rw [getitemInPython_of_ne a2.not_modules]
  refine wpAny_bind (wpAny_specialOf a2 slot_list_getitem.lookup ?_)
  have fin : wpAny (Mo G) C.A (subscripted (.Slice none none (some (.UnaryOp .USub (.Constant (.int 1) k p1) p2)) p) false (.ref a) (.ref s1.heap.objs.size)) (fun r s₃ => wpAny (Mo G) C.A (letTemporaryGo o (.ref a) r >>= fun u₀ => pure r) (EVq G C loc tmp hid Q) (EErr G C hid X) s₃) (EErr G C hid X) { s1 with heap := s1.heap.push { cls := .type "slice", data := .fields #[.none, .none, .int (-1) (s1.toks + 1)] }, toks := s1.toks + 1 + 1 } := by
    rw [hs]
    refine wpAny_operating (key _ _ ?_)
    refine wpAny_bind (wpAny_letTemporaryGo (wpAny_pure ⟨_, m1, (R2.pop.alloc _ _).push (.dat (.list (xs := xs.reverse) (fun z => ?_) (Heap.get?_push_size _ rfl) rfl rfl ?_)), q⟩))
    · rcases List.mem_append.mp z with z | z
      · obtain ⟨o, e, _⟩ := R2.there _ z; exact absurd (lt_of_get e) (Nat.lt_irrefl _)
      · exact absurd (R2.lt z) (Nat.lt_irrefl _)
    · rw [krv_pick]
      exact f.reverse.mono (.of (fun b o u₀ e => Heap.get?_push_of_some _ e) fun u₀ h => .inl h)
  first
    | exact wpAny_pure (wpAny_bind fin)
    | exact wpAny_bind (wpAny_pure (wpAny_bind fin))
    | exact wpAny_bind fin
theorem SXX_forN {n : Nat} {sc : Scope} {x : Str} {px pos : Pos} {iter : Expr} {body : List Stmt} (CN : Can G C n) (I : Is C sc) (hx : Sto C x) (J : List D → Loc → MH → Prop)
    (h : EV G C loc mh iter X fun d m => ∃ ds m', ITB G C d ds m m' ∧ J ds loc m')
    (step : ∀ d ds loc m, J (d :: ds) loc m → EXX G C ((x, d) :: loc) m body X Rt fun l' m' => J ds l' m') (fin : ∀ loc m, J [] loc m → N loc m)
    (hs : ∀ env v, foldedSetIterable iter env v = pure v := by intro _ _; with_unfolding_all rfl) : SXX G C loc mh (.For (.Name x px) iter body [] pos) X Rt N :=
  SXX_for CN I J (h.mono (fun d m hq6 => by obtain ⟨ds, m', B, hJ⟩ := hq6; exact fun tmp hid s v E R hv => wpAny_mono (B _ tmp hid s v E R hv) (fun it s' hq7 => by obtain ⟨its, R', Y, _⟩ := hq7; exact ⟨ds, m', its, hJ, R', Y.to2 fun u₀ => rfl⟩) fun u₀ u₀ x => x) fun u₀ u₀ u₀ x => x)
    (fun d ds loc m hJ => ⟨_, ASG_name hx, step d ds loc m hJ⟩) fin hs
noncomputable def pks (gs : List Int) (l : List UInt8) : List UInt8 := gs.foldl (fun a g => pk g.toNat a) l
noncomputable def ups (gs : List Int) (l : List UInt8) : List UInt8 := gs.foldl (fun a g => up g.toNat a) l
theorem ups_pks : ∀ {gs : List Int} (l : List UInt8), (∀ g ∈ gs, 1 ≤ g ∧ g ≤ 256) → ups gs.reverse (pks gs l) = l
  | [], l, _ => rfl
  | g :: gs, l, h => by
    have ih := ups_pks (pk g.toNat l) fun x hx => h x (.tail _ hx)
    have hg := h g (.head _)
    unfold ups at ih ⊢
    rw [List.reverse_cons, List.foldl_append]
    show up g.toNat _ = l
    rw [show pks (g :: gs) l = pks gs (pk g.toNat l) from rfl, ih, up_pk (by lia)]
theorem chain_ahead (P : PW G) {x dx : Addr} {gs : List Int} {s : Int} {l : List UInt8} (hl : gs.length ≤ 3) (hg : ∀ g ∈ gs, 1 ≤ g ∧ g ≤ 256) (hz : l.length ≤ 100000) {X : Addr → MH → Prop} :
    FN G 3 (.ref 203) [.ptr x, .bytes l] [(x, chA 206 gs s dx)] X fun d m => d = .bytes (pks gs l) ∧ m = [(x, chA 206 gs s dx)] := by
  refine (P.mth (206, "ahead", 203, 21, 1) (by decide)).2.of (ps := ["self", "octets"]) P.ok rfl rfl rfl (by decide) (by decide) (by decide) rfl (fun fd vs a b c => by obtain ⟨x, y, rfl⟩ := len2 c; unfold bindArgs; rw [a, b]; kernel_rfl) fun C I CN => ?_
  refine EX0.letR ?_; intro X₁ R₁ N₁
  refine EX0_consA fun K' hK => (SX.to0 ?_)
  refine SX_for CN I (I.sto (.inl rfl)) (fun rem loc m => Ex2 fun (rs : List Int) (u : List UInt8) => And6 (rem = rs.map D.int) ((∀ g ∈ rs, 1 ≤ g ∧ g ≤ 256)) (LS [("octets", .bytes u)] loc) (m = [(x, chA 206 gs s dx)]) (pks rs u = pks gs l) (u.length ≤ 100000)) ?_ ?_ ?_ (by intro _ _; with_unfolding_all rfl)
  · refine EV_fld P ?_ (by intro _; with_unfolding_all rfl) (by intro _ _; with_unfolding_all rfl)
    repeat walk_at "w"
    refine ⟨x, _, _, _, .dat (.list (gs.map .int)), rfl, .head _, by decide, by decide, rfl, (fun u h => by cases h), ?_⟩
    exact ⟨_, _, ITB_list CN.hand, gs, l, by rw [List.map_map]; rfl, hg, ⟨rfl, trivial⟩, rfl, rfl, hz⟩
  · intro d ds loc m hq1
    try ((first | refine EX.letN ?_ | refine EXX.letN ?_); intro N₂)
    refine absP fun P₀ hP₀ => ?_
    obtain ⟨rs, u, e2, hr, hls, e3, e4, e5⟩ := hq1
    refine hP₀ ?_; clear hP₀ P₀
    subst e3
    cases rs with
    | nil => cases e2
    | cons g rs =>
    rw [List.map_cons] at e2
    obtain ⟨rfl, rfl⟩ := List.cons.inj e2
    obtain ⟨k, rfl⟩ : ∃ k : Nat, g = k := ⟨g.toNat, by have := (hr g (.head _)).1; lia⟩
    have hk := hr (k : Int) (.head _)
    walk_at "n"
    with_reducible refine EX.weak (loc' := [("distance", .int k), ("octets", .bytes u)]) ?wk1 ?wl1
    case wl1 => exact LS.get ⟨rfl, hls.1, trivial⟩
    repeat walk_at "w"
    refine FN.pure (by decide) (fun X => delta_packed_ok P (by lia) (by lia) e5 (X := X)) ?_
    walk_at "n"
    refine EX_nil ⟨rs, _, rfl, fun g h => hr g (.tail _ h), ⟨rfl, trivial⟩, rfl, e4, by rw [pk_len]; exact e5⟩
  · intro loc m hq2
    refine absP fun P₀ hP₀ => ?_
    obtain ⟨rs, u, e2, hr, hls, e3, e4, e5⟩ := hq2
    refine hP₀ ?_; clear hP₀ P₀
    walk_at "n"
    subst e3
    cases rs with
    | cons g rs => cases e2
    | nil =>
    walk_at "n"
    refine EX0.weak (loc' := [("octets", .bytes u)]) ?_ hls.get
    walk_at "n"
    refine EX0_consA fun K' hK => (SX.to0 ?_)
    repeat walk_at "w"
    exact ⟨by rw [← e4]; rfl, rfl⟩
theorem chain_back (P : PW G) {x dx : Addr} {gs : List Int} {s : Int} {l : List UInt8} (hl : gs.length ≤ 3) (hg : ∀ g ∈ gs, 1 ≤ g ∧ g ≤ 256) (hz : l.length ≤ 100000) {X : Addr → MH → Prop} :
    FNX G 3 (.ref 175) [.ptr x, .bytes l] [(x, chA 206 gs s dx)] X fun d m => d = .bytes (ups gs.reverse l) ∧ m = [(x, chA 206 gs s dx)] := by
  refine (P.mth (206, "back", 175, 20, 2) (by decide)).2.ofX (ps := ["self", "octets"]) P.ok rfl rfl rfl (by decide) (by decide) (by decide) rfl (fun fd vs a b c => by obtain ⟨x, y, rfl⟩ := len2 c; unfold bindArgs; rw [a, b]; kernel_rfl) fun C I CN => ?_
  refine EXX0.letR ?_; intro X₁ R₁ N₁
  refine EXX0_consA fun K' hK => (SXX.to0 ?_)
  refine SXX_forN CN I (I.sto (.inl rfl)) (fun rem loc m => Ex2 fun (rs : List Int) (u : List UInt8) => And6 (rem = rs.map D.int) ((∀ g ∈ rs, 1 ≤ g ∧ g ≤ 256)) (LS [("octets", .bytes u)] loc) (m = [(x, chA 206 gs s dx)]) (ups rs u = ups gs.reverse l) (u.length ≤ 100000)) ?_ ?_ ?_
  · refine EV_revT ?_
    refine EV_fld P ?_ (by intro _; with_unfolding_all rfl) (by intro _ _; with_unfolding_all rfl)
    repeat walk_at "w"
    refine ⟨x, _, _, _, .dat (.list (gs.map .int)), rfl, .head _, by decide, by decide, rfl, (fun u h => by cases h), ?_⟩
    refine ⟨gs.map .int, rfl, by rw [List.length_map]; lia, ?_⟩
    exact ⟨_, _, ITB_list CN.hand, gs.reverse, l, by rw [← List.map_reverse, List.map_map]; rfl, fun g h => hg g (List.mem_reverse.mp h), ⟨rfl, trivial⟩, rfl, rfl, hz⟩
  · intro d ds loc m hq3
    try ((first | refine EX.letN ?_ | refine EXX.letN ?_); intro N₂)
    refine absP fun P₀ hP₀ => ?_
    obtain ⟨rs, u, e2, hr, hls, e3, e4, e5⟩ := hq3
    refine hP₀ ?_; clear hP₀ P₀
    subst e3
    cases rs with
    | nil => cases e2
    | cons g rs =>
    rw [List.map_cons] at e2
    obtain ⟨rfl, rfl⟩ := List.cons.inj e2
    obtain ⟨k, rfl⟩ : ∃ k : Nat, g = k := ⟨g.toNat, by have := (hr g (.head _)).1; lia⟩
    have hk := hr (k : Int) (.head _)
    walk_at "n"
    with_reducible refine EXX.weak (loc' := [("distance", .int k), ("octets", .bytes u)]) ?wk2 ?wl2
    case wl2 => exact LS.get ⟨rfl, hls.1, trivial⟩
    repeat walk_at "x"
    refine FNX.pure (by decide) (fun X => delta_unpacked_ok P (by lia) (by lia) e5 (X := X)) ?_
    walk_at "n"
    refine EXX_nil ⟨rs, _, rfl, fun g h => hr g (.tail _ h), ⟨rfl, trivial⟩, rfl, e4, by rw [up_len (by lia)]; exact e5⟩
  · intro loc m hq4
    refine absP fun P₀ hP₀ => ?_
    obtain ⟨rs, u, e2, hr, hls, e3, e4, e5⟩ := hq4
    refine hP₀ ?_; clear hP₀ P₀
    walk_at "n"
    subst e3
    cases rs with
    | cons g rs => cases e2
    | nil =>
    walk_at "n"
    refine EXX0.weak (loc' := [("octets", .bytes u)]) ?_ hls.get
    walk_at "n"
    refine EXX0_consA fun K' hK => (SXX.to0 (SX.x ?_))
    repeat walk_at "w"
    exact ⟨by rw [← e4]; rfl, rfl⟩

end

section
set_option tactic.hygienic false
open PySem PySem.W PyProof.Rows
variable {G : Glb} {C C' : Cx} {loc loc' : Loc} {tmp tmp' : Tmp} {mh hid l l' : MH} {s s' s₁ : Shared}
variable {X : Addr → Loc → MH → Prop} {Q : D → MH → Prop} {Rt : D → MH → Prop} {N : Loc → MH → Prop}
noncomputable def desc1 (g : Int) : List UInt8 := [3, 1, (g - 1).toNat.toUInt8]
noncomputable def desc (gs : List Int) (j : Int) : List UInt8 := gs.flatMap desc1 ++ [33, 1, j.toNat.toUInt8]
theorem desc1_len (gs : List Int) : (gs.flatMap desc1).length = 3 * gs.length := by
  induction gs with
  | nil => rfl
  | cons g gs ih => rw [List.flatMap_cons, List.length_append, ih]; simp [desc1]; lia
theorem digs_len (n : Nat) (h : n < 128) : (digs n).length = 1 := by unfold digs; rw [digF_end h]; rfl
theorem chain_described (P : PW G) {x dx : Addr} {gs : List Int} {s j : Int} (hl : gs.length ≤ 3) (hg : ∀ g ∈ gs, 1 ≤ g ∧ g ≤ 256) (h0 : 0 ≤ s) (h1 : s ≤ 4294967295) (hj : ((rng 0 1 41).filter fun i => decide (s ≤ dsz i)).head? = some j) {X : Addr → MH → Prop} :
    FNX G 4 (.ref 196) [.ptr x] [(x, chA 206 gs s dx)] X fun d m => d = .bytes (desc gs j) ∧ m = [(x, chA 206 gs s dx)] := by
  have hjr : 0 ≤ j ∧ j < 41 := by
    have := rng_mem (n := 41) (a := 0) (i := j) (List.mem_filter.mp (List.mem_of_head? hj)).1
    lia
  refine FNX.clean ?_
  refine (P.mth (206, "described", 196, 21, 0) (by decide)).2.ofX (ps := ["self"]) P.ok rfl rfl rfl (by decide) (by decide) (by decide) rfl (fun fd vs a b c => by obtain ⟨x, rfl⟩ := len1 c; unfold bindArgs; rw [a, b]; kernel_rfl) fun C I CN => ?_
  refine EXX0.letR ?_; intro X₁ R₁ N₁
  refine EXX0_consA fun K' hK => (SXX.to0 (SXX_assign (I.sto (.inl rfl)) (EVX_callt0 P.ok ((I.kindOf _).trans (by rfl)) (P.nob (("bytearray" : Str), .type "bytearray") (by decide)) (typ_boot (("bytearray" : Str), .type "bytearray") (by decide)) (by decide) (BFX_ba0 fun a => ?_)) (by intro _; with_unfolding_all rfl)))
  walk_at "n"
  with_reducible refine EXX0.weak (loc' := [("self", .ptr x), ("found", .ptr a)]) ?wk1 ?wl1
  case wl1 => exact LS.get ⟨rfl, rfl, trivial⟩
  walk_at "n"
  refine EXX0_consA fun K' hK => (SXX.to0 ?_)
  refine SXX_forN CN I (I.sto (.inl rfl)) (fun rem loc m => Ex2 fun (dn rs : List Int) => And4 (gs = dn ++ rs) (rem = rs.map D.int) (LS [("self", .ptr x), ("found", .ptr a)] loc) (m = (a, .ba (dn.flatMap desc1)) :: [(x, chA 206 gs s dx)])) ?_ ?_ ?_
  · refine EV_fld P ?_ (by intro _; with_unfolding_all rfl) (by intro _ _; with_unfolding_all rfl)
    repeat walk_at "w"
    refine ⟨x, _, _, _, .dat (.list (gs.map .int)), rfl, .tail _ (.head _), by decide, by decide, rfl, (fun u h => by cases h), ?_⟩
    exact ⟨_, _, ITB_list CN.hand, [], gs, rfl, by rw [List.map_map]; rfl, ⟨rfl, rfl, trivial⟩, rfl⟩
  · intro d ds loc m hq1
    try ((first | refine EX.letN ?_ | refine EXX.letN ?_); intro N₂)
    refine absP fun P₀ hP₀ => ?_
    obtain ⟨dn, rs, e1, e2, hls, e3⟩ := hq1
    refine hP₀ ?_; clear hP₀ P₀
    subst e3
    cases rs with
    | nil => cases e2
    | cons g rs =>
    rw [List.map_cons] at e2
    obtain ⟨rfl, rfl⟩ := List.cons.inj e2
    have hgg := hg g (by rw [e1]; simp)
    have hdl : dn.length < 3 := by have := congrArg List.length e1; simp at this; lia
    walk_at "n"
    with_reducible refine EXX.weak (loc' := [("distance", .int g), ("self", .ptr x), ("found", .ptr a)]) ?wk2 ?wl2
    case wl2 => exact LS.get ⟨rfl, hls.1, hls.2.1, trivial⟩
    walk_at "n"
    with_reducible refine EXX.lax ?_
    walk_at "n"
    refine EXX_consA fun K' hK => (SXX_expr (EVX_meth (EV.x ?_)) (I.inter rfl) (by intro _; with_unfolding_all rfl))
    repeat walk_at "w"
    refine MCX_extU ⟨_, .head _⟩ ?_
    repeat walk_at "x"
    refine FNX.pure (by decide) (fun X => number_ok P (v := 3) (by decide) (X := X)) ?_
    repeat walk_at "x"
    refine FNX.pure (by decide) (fun X => number_ok P (v := 1) (by decide) (X := X)) ?_
    refine OP_addb (by decide) ?_
    repeat walk_at "x"
    refine EV_list_dat ?_
    repeat walk_at "w"
    refine ⟨by rw [sizeLine_eq]; simp, [.int (g - 1)], rfl, ?_⟩
    repeat walk_at "w"
    refine BF_bytes_list (ns := [g - 1]) CN.hand (fun n hn => by rw [List.mem_singleton.mp hn]; lia) (by simp) ?_
    refine OP_addb (by rw [List.length_append, digs_len 3 (by decide), digs_len 1 (by decide)]; simp [octs]) ?_
    refine ⟨_, _, _, rfl, .head, by rw [desc1_len]; simp [octs]; rw [show (digs 3).length = 1 by decide, show (digs 1).length = 1 by decide]; lia, rfl, ?_⟩
    walk_at "n"
    refine EXX_nil ⟨[("self", .ptr x), ("found", .ptr a)], ⟨rfl, rfl, trivial⟩, dn ++ [g], rs, by rw [e1]; simp, rfl, ⟨rfl, rfl, trivial⟩, ?_⟩
    rw [List.flatMap_append, show (digs 3 ++ digs 1 ++ octs [g - 1] : List UInt8) = [g].flatMap desc1 from by rw [show digs 3 = [3] by decide, show digs 1 = [1] by decide]; rfl]
  · intro loc m hq2
    refine absP fun P₀ hP₀ => ?_
    obtain ⟨dn, rs, e1, e2, hls, e3⟩ := hq2
    refine hP₀ ?_; clear hP₀ P₀
    walk_at "n"
    subst e3
    cases rs with
    | cons g rs => cases e2
    | nil =>
    rw [List.append_nil] at e1
    subst e1
    walk_at "n"
    refine EXX0.weak (loc' := [("self", .ptr x), ("found", .ptr a)]) ?_ hls.get
    walk_at "n"
    refine EXX0_consA fun K' hK => (SXX.to0 ?_)
    refine (SXX_expr (EVX_meth (EV.x ?_)) (I.inter rfl) (by intro _; with_unfolding_all rfl))
    repeat walk_at "w"
    refine MCX_extU ⟨_, .head _⟩ ?_
    repeat walk_at "x"
    refine FNX.pure (by decide) (fun X => number_ok P (v := 33) (by decide) (X := X)) ?_
    repeat walk_at "x"
    refine FNX.pure (by decide) (fun X => number_ok P (v := 1) (by decide) (X := X)) ?_
    refine OP_addb (by decide) ?_
    repeat walk_at "x"
    refine EV_list_dat ?_
    repeat walk_at "w"
    refine EV_fld P ?_ (by intro _; with_unfolding_all rfl) (by intro _ _; with_unfolding_all rfl)
    repeat walk_at "w"
    refine ⟨x, _, _, _, .int s, rfl, .tail _ (.head _), by decide, by decide, rfl, (fun u h => by cases h), ?_⟩
    repeat walk_at "w"
    refine FN.pure (by decide) (fun X => dictionary_octet_ok P h0 h1 hj (X := X)) ?_
    repeat walk_at "w"
    refine ⟨by rw [sizeLine_eq]; simp, [.int j], rfl, ?_⟩
    repeat walk_at "w"
    refine BF_bytes_list (ns := [j]) CN.hand (fun n hn => by rw [List.mem_singleton.mp hn]; lia) (by simp) ?_
    refine OP_addb (by rw [List.length_append, digs_len 33 (by decide), digs_len 1 (by decide)]; simp [octs]) ?_
    refine ⟨_, _, _, rfl, .head, by rw [desc1_len]; simp [octs]; rw [show (digs 33).length = 1 by decide, show (digs 1).length = 1 by decide]; lia, rfl, ?_⟩
    walk_at "n"
    refine EXX0_consA fun K' hK => (SXX.to0 (SX.x (SX_ret ?_)))
    repeat walk_at "w"
    refine BF_bytes_ba (.head _) (by rw [List.length_append, desc1_len]; simp [octs]; rw [show (digs 33).length = 1 by decide, show (digs 1).length = 1 by decide]; lia) ⟨[_], _, rfl, ?_, rfl⟩
    rw [show (digs 33 ++ digs 1 ++ octs [j] : List UInt8) = [33, 1, j.toNat.toUInt8] from by rw [show digs 33 = [33] by decide, show digs 1 = [1] by decide]; rfl]
    rfl

end

section
set_option tactic.hygienic false
open PySem PySem.W PyProof.Rows
variable {G : Glb} {C C' : Cx} {loc loc' : Loc} {tmp tmp' : Tmp} {mh hid l l' : MH} {s s' s₁ : Shared}
variable {X : Addr → Loc → MH → Prop} {Q : D → MH → Prop} {Rt : D → MH → Prop} {N : Loc → MH → Prop}
theorem ITM_pool3 {p : Addr} {o : AO} {k : Nat} {d : Int} {Pq : D → Prop} (hp : IsPool k d o) (hm : (p, o) ∈ mh) (h : Pq (.int d)) : ITM G C (.ptr p) (.int 3) mh Pq := by
  obtain ⟨A, B, c, rfl, _⟩ := hp
  exact ITM_list (.inl hm) (by decide) (by decide) rfl h
theorem sto2 {sc : Scope} (I : Is C sc) {x y : Str} (hx : sc.names.lookup x = some .local ∨ sc.names.lookup x = some .cell) (hy : sc.names.lookup y = some .local ∨ sc.names.lookup y = some .cell) : ∀ n ∈ [x, y], Sto C n := fun n hn => by
  rcases List.mem_cons.mp hn with rfl | hn
  · exact I.sto hx
  · rw [List.mem_singleton.mp hn]; exact I.sto hy
theorem fmod_rng {a b : Int} (hb : 0 < b) : 0 ≤ a.fmod b ∧ a.fmod b < b := by
  rw [Int.fmod_eq_emod_of_nonneg _ (by lia)]
  exact ⟨Int.emod_nonneg _ (by lia), Int.emod_lt_of_pos _ hb⟩
theorem octs_len (ns : List Int) : (octs ns).length = ns.length := by simp [octs]
theorem law_text_ok (P : PW G) {p : Addr} {o : AO} {k : Nat} {d : Int} (hp : IsPool k d o) (hk : k < 999990000) (hd0 : 0 ≤ d) (hd4 : d ≤ 4) {X : Addr → MH → Prop} :
    FN G 2 (.ref 376) [.ptr p] [(p, o)] X fun r m => ∃ (l : List UInt8) (o' : AO), r = .bytes l ∧ l.length ≤ 100 ∧ IsPool (k + 100) d o' ∧ m = [(p, o')] := by
  refine (P.fun (x := "_law_text") (a := 376) (i := 38) (by decide +kernel)).of (ps := ["pool"]) P.ok rfl rfl rfl (by decide) (by decide) (by decide) rfl (fun fd vs a b c => by obtain ⟨x, rfl⟩ := len1 c; unfold bindArgs; rw [a, b]; kernel_rfl) fun C I CN => ?_
  refine EX0.letR ?_; intro X₁ R₁ N₁
  refine EX0_consA fun K' hK => (SX.to0 (SX_tuple2O CN.hand (I.sto (by first | exact .inl rfl | exact .inr rfl)) (I.sto (by first | exact .inl rfl | exact .inr rfl)) ?_ (by rw [I.scope]; with_unfolding_all rfl) (by intro _; with_unfolding_all rfl)))
  repeat walk_at "w"
  refine take0 P hp (by lia) (by decide) (by decide) fun v1 o1 a1 b1 p1 => ?_
  repeat walk_at "w"
  refine ITM_pool3 p1 (.head _) ?_
  refine OP_mul (IntMulOk.of_left (by decide)) ?_
  repeat walk_at "w"
  refine take0 P p1 (by lia) (by lia) (by lia) fun v2 o2 a2 b2 p2 => ?_
  repeat walk_at "w"
  refine ⟨_, _, rfl, ?_⟩
  walk_at "n"
  with_reducible refine EX0.weak (loc' := [("pool", .ptr p), ("way", .int v1), ("most", .int v2)]) ?wk1 ?wl1
  case wl1 => exact LS.get ⟨rfl, rfl, rfl, trivial⟩
  obtain ⟨n2, rfl⟩ : ∃ n : Nat, v2 = n := ⟨v2.toNat, by lia⟩
  walk_at "n"
  refine EX0_consA fun K' hK => (SX.to0 (SX_assign_comp (CompOk.of (locF := [("pool", .ptr p), ("way", .int v1)]) I rfl (by decide) (by decide) (by decide) (by decide) ?_) CN.hand (by rw [I.scope]; rfl) (I.sto (by first | exact .inl rfl | exact .inr rfl))
    (fun rem acc m => ∃ (dn rs ns : List Int) (o' : AO), rng 0 1 n2 = dn ++ rs ∧ rem = rs.map D.int ∧ acc = ns.map PyData.int ∧ (∀ n ∈ ns, 0 ≤ n ∧ n < 256) ∧ ns.length = dn.length ∧ IsPool (k + 2 + 2 * dn.length) d o' ∧ m = [(p, o')]) ?_ ?_ ?_ (by rw [I.scope]; with_unfolding_all rfl) (by intro _ _; with_unfolding_all rfl)))
  · intro q hq
    rcases List.mem_cons.mp hq with rfl | hq
    · exact ⟨rfl, by show (("pool" : Str), NameKind.free) ∈ _; decide⟩
    · rw [List.mem_singleton.mp hq]; exact ⟨rfl, by show (("way" : Str), NameKind.free) ∈ _; decide⟩
  · repeat walk_at "w"
    refine BF_range1 fun r t u v => ?_
    exact ⟨_, _, ITB_range CN.hand (rng_small (by lia)) (rng_size _), ⟨[], rng 0 1 n2, [], o2, rfl, rfl, rfl, (fun n h => nomatch h), rfl, p2, rfl⟩, by rw [List.length_map, rng_len]; lia⟩
  · intro C2 S dd rem acc m hq1
    refine absP fun P₀ hP₀ => ?_
    obtain ⟨dn, rs, ns, o', e1, e2, e3, e4, e5, e6, e7⟩ := hq1
    refine hP₀ ?_; clear hP₀ P₀
    subst e7
    cases rs with
    | nil => cases e2
    | cons i rs =>
    rw [List.map_cons] at e2
    obtain ⟨rfl, rfl⟩ := List.cons.inj e2
    have hr := rng_mem (n := n2) (a := 0) (i := i) (by rw [e1]; simp)
    have hdl : dn.length < n2 := by have := congrArg List.length e1; rw [rng_len] at this; simp at this; lia
    have I2 := S.sc I
    have CN2 := S.can CN
    refine ⟨fun u₀ => ?_, fun h => absurd h (by decide)⟩
    refine EV_itemT ?_ (by intro _ _; with_unfolding_all rfl)
    refine EV_list_dat ?_
    repeat walk_at "w"
    refine take0 P e6 (by lia) (by decide) (by decide) fun v3 o3 a3 b3 p3 => ?_
    repeat walk_at "w"
    refine OP_mul (IntMulOk.of_left (by decide)) ?_
    repeat walk_at "w"
    refine OP_mod (by decide) ?_
    repeat walk_at "w"
    refine take0 P p3 (by lia) (by decide) (by decide) fun v4 o4 a4 b4 p4 => ?_
    repeat walk_at "w"
    refine ⟨by rw [sizeLine_eq]; simp, [.int v3, .int ((7 * i).fmod 256), .int (250 + v4)], rfl, ?_⟩
    repeat walk_at "w"
    have hf := fmod_rng (a := 7 * i) (b := 256) (by decide)
    obtain ⟨x, hx, c1, c2⟩ : ∃ x : Int, ([PyData.int v3, .int ((7 * i).fmod 256), .int (250 + v4)] : List PyData)[v1.toNat]? = some (.int x) ∧ 0 ≤ x ∧ x < 256 := by
      rcases (show v1 = 0 ∨ v1 = 1 ∨ v1 = 2 by lia) with rfl | rfl | rfl
      · exact ⟨v3, rfl, a3, b3⟩
      · exact ⟨_, rfl, hf.1, hf.2⟩
      · exact ⟨250 + v4, rfl, by lia, by lia⟩
    refine ITM_list_dat a1 (by lia) hx ?_
    refine ⟨_, rfl, dn ++ [i], rs, ns ++ [x], o4, by rw [e1]; simp, rfl, by rw [e3, List.map_append]; rfl, fun n hn => ?_, by simp [e5], p4.up (by simp; lia), rfl⟩
    rcases List.mem_append.mp hn with hn | hn
    · exact e4 n hn
    · rw [List.mem_singleton.mp hn]; exact ⟨c1, c2⟩
  · intro xs m hq2
    refine absP fun P₀ hP₀ => ?_
    obtain ⟨dn, rs, ns, o', e1, e2, e3, e4, e5, e6, e7⟩ := hq2
    refine hP₀ ?_; clear hP₀ P₀
    subst e7
    cases rs with
    | cons i rs => cases e2
    | nil =>
    have hdl : dn.length = n2 := by have := congrArg List.length e1; rw [rng_len] at this; simp at this; lia
    subst e3
    walk_at "n"
    refine EX0_consA fun K' hK => (SX.to0 ?_)
    repeat walk_at "w"
    refine BF_bytes_list CN.hand e4 (by lia) ?_
    exact ⟨_, o', rfl, by rw [octs_len]; lia, e6.up (by lia), rfl⟩
theorem text_to (P : PW G) {n : Nat} (hn : 2 ≤ n) {p : Addr} {o : AO} {k : Nat} {d : Int} {X : Addr → MH → Prop} {Q : D → MH → Prop} (hp : IsPool k d o) (hk : k < 999990000) (hd0 : 0 ≤ d) (hd4 : d ≤ 4) (h : ∀ (l : List UInt8) o', l.length ≤ 100 → IsPool (k + 100) d o' → Q (.bytes l) [(p, o')]) : FN G n (.ref 376) [.ptr p] [(p, o)] X Q :=
  ((law_text_ok P hp hk hd0 hd4 (X := fun u₀ u₀ => False)).more hn).mono (fun r m hq3 => by obtain ⟨l, o', e1, a, q, e2⟩ := hq3; rw [e1, e2]; exact h l o' a q) fun c m z => z.elim

end

section
set_option tactic.hygienic false
open PySem PySem.W PyProof.Rows
variable {G : Glb} {C C' : Cx} {loc loc' : Loc} {tmp tmp' : Tmp} {mh hid l l' : MH} {s s' s₁ : Shared}
variable {X : Addr → Loc → MH → Prop} {Q : D → MH → Prop} {Rt : D → MH → Prop} {N : Loc → MH → Prop}
theorem digs_le (v : Nat) : (digs v).length ≤ 9 := (digF_len 8 v).2
theorem law_stream_ok (P : PW G) {p : Addr} {o : AO} {k : Nat} {d : Int} (hp : IsPool k d o) (hk : k < 999990000) (hd0 : 0 ≤ d) (hd4 : d ≤ 4) {X : Addr → MH → Prop} :
    FN G 3 (.ref 364) [.ptr p] [(p, o)] X fun r m => ∃ (l : List UInt8) (o' : AO), r = .bytes l ∧ l.length ≤ 100 ∧ IsPool (k + 100) d o' ∧ m = [(p, o')] := by
  refine (P.fun (x := "_law_stream") (a := 364) (i := 36) (by decide +kernel)).of (ps := ["pool"]) P.ok rfl rfl rfl (by decide) (by decide) (by decide) rfl (fun fd vs a b c => by obtain ⟨x, rfl⟩ := len1 c; unfold bindArgs; rw [a, b]; kernel_rfl) fun C I CN => ?_
  refine EX0.letR ?_; intro X₁ R₁ N₁
  refine EX0_consA fun K' hK => (SX.to0 ?_)
  repeat walk_at "w"
  refine take0 P hp (by lia) (by decide) (by decide) fun v1 o1 a1 b1 p1 => ?_
  walk_at "n"
  refine EX0_consA fun K' hK => (SX.to0 ?_)
  repeat walk_at "w"
  refine ⟨fun h => ?_, fun h => ?_⟩
  · clear h
    repeat walk_at "w"
    refine EV_list_dat ?_
    repeat walk_at "w"
    refine ⟨by rw [sizeLine_eq]; simp, [.int 0, .int 255, .int 128, .int 1], rfl, ?_⟩
    repeat walk_at "w"
    refine EV_comp (CompOk.of (locF := [("pool", .ptr p), ("some", .dat (.list [.int 0, .int 255, .int 128, .int 1]))]) I rfl (by decide) (by decide) (by decide) (by decide) ?_) CN.hand (by rw [I.scope]; rfl)
      (fun rem acc m => ∃ (dn rs ns : List Int) (o' : AO), (dn ++ rs).length ≤ 15 ∧ rem = rs.map D.int ∧ acc = ns.map PyData.int ∧ (∀ n ∈ ns, 0 ≤ n ∧ n < 256) ∧ ns.length = dn.length ∧ IsPool (k + 2 + 2 * dn.length) d o' ∧ m = [(p, o')]) ?_ ?_ ?_ (by intro _ _; with_unfolding_all rfl)
    · intro q hq
      rcases List.mem_cons.mp hq with rfl | hq
      · exact ⟨rfl, by show (("pool" : Str), NameKind.free) ∈ _; decide⟩
      · rw [List.mem_singleton.mp hq]; exact ⟨rfl, by show (("some" : Str), NameKind.free) ∈ _; decide⟩
    · repeat walk_at "w"
      refine ITM_pool3 p1 (.head _) ?_
      refine OP_mul (IntMulOk.of_left (by decide)) ?_
      repeat walk_at "w"
      refine take0 P p1 (by lia) (by lia) (by lia) fun v2 o2 a2 b2 p2 => ?_
      repeat walk_at "w"
      obtain ⟨n2, rfl⟩ : ∃ n : Nat, v2 = n := ⟨v2.toNat, by lia⟩
      refine BF_range1 fun r t u v => ?_
      exact ⟨_, _, ITB_range CN.hand (rng_small (by lia)) (rng_size _), ⟨[], rng 0 1 n2, [], o2, by rw [List.nil_append, rng_len]; lia, rfl, rfl, (fun n h => nomatch h), rfl, p2, rfl⟩, by rw [List.length_map, rng_len]; lia⟩
    · intro C2 S dd rem acc m hq1
      refine absP fun P₀ hP₀ => ?_
      obtain ⟨dn, rs, ns, o', e1, e2, e3, e4, e5, e6, e7⟩ := hq1
      refine hP₀ ?_; clear hP₀ P₀
      subst e7
      cases rs with
      | nil => cases e2
      | cons i rs =>
      rw [List.map_cons] at e2
      obtain ⟨rfl, rfl⟩ := List.cons.inj e2
      have hdl : dn.length < 15 := by rw [List.length_append, List.length_cons] at e1; lia
      have I2 := S.sc I
      have CN2 := S.can CN
      refine ⟨fun u₀ => ?_, fun h => absurd h (by decide)⟩
      refine EV_itemT ?_ (by intro _ _; with_unfolding_all rfl)
      refine EV_bin ?_
      repeat walk_at "w"
      refine EV_list_dat ?_
      repeat walk_at "w"
      refine take0 P e6 (by lia) (by decide) (by decide) fun v3 o3 a3 b3 p3 => ?_
      repeat walk_at "w"
      refine ⟨by rw [sizeLine_eq]; simp, [.int v3], rfl, ?_⟩
      repeat walk_at "w"
      refine OP_mull (by decide) (by decide) ?_
      refine OP_addl (by simp) ?_
      repeat walk_at "w"
      refine take0 P p3 (by lia) (by decide) (by decide) fun v4 o4 a4 b4 p4 => ?_
      obtain ⟨x, hx, c1, c2⟩ : ∃ x : Int, ([PyData.int 0, .int 255, .int 128, .int 1] ++ List.replicate (3 : Int).toNat (PyData.int v3))[v4.toNat]? = some (.int x) ∧ 0 ≤ x ∧ x < 256 := by
        rcases (show v4 = 0 ∨ v4 = 1 ∨ v4 = 2 ∨ v4 = 3 ∨ v4 = 4 ∨ v4 = 5 ∨ v4 = 6 by lia) with rfl | rfl | rfl | rfl | rfl | rfl | rfl
        · exact ⟨0, rfl, by decide, by decide⟩
        · exact ⟨255, rfl, by decide, by decide⟩
        · exact ⟨128, rfl, by decide, by decide⟩
        · exact ⟨1, rfl, by decide, by decide⟩
        · exact ⟨v3, rfl, a3, b3⟩
        · exact ⟨v3, rfl, a3, b3⟩
        · exact ⟨v3, rfl, a3, b3⟩
      refine ITM_list_dat a4 (by lia) hx ?_
      refine ⟨_, rfl, dn ++ [i], rs, ns ++ [x], o4, by rw [List.append_assoc]; exact e1, rfl, by rw [e3, List.map_append]; rfl, fun n hn => ?_, by simp [e5], p4.up (by simp; lia), rfl⟩
      rcases List.mem_append.mp hn with hn | hn
      · exact e4 n hn
      · rw [List.mem_singleton.mp hn]; exact ⟨c1, c2⟩
    · intro xs m hq2
      refine absP fun P₀ hP₀ => ?_
      obtain ⟨dn, rs, ns, o', e1, e2, e3, e4, e5, e6, e7⟩ := hq2
      refine hP₀ ?_; clear hP₀ P₀
      subst e7
      cases rs with
      | cons i rs => cases e2
      | nil =>
      rw [List.append_nil] at e1
      subst e3
      repeat walk_at "w"
      refine BF_bytes_list CN.hand e4 (by lia) ?_
      exact ⟨_, o', rfl, by rw [octs_len]; lia, e6.up (by lia), rfl⟩
  clear h
  walk_at "n"
  refine EX_nil ?_
  walk_at "n"
  refine EX0_consA fun K' hK => (SX.to0 ?_)
  repeat walk_at "w"
  refine ⟨fun h => ?_, fun h => ?_⟩
  · clear h
    walk_at "n"
    refine EX_consA fun K' hK => (SX_assign_comp (CompOk.of (locF := [("pool", .ptr p)]) I rfl (by decide) (by decide) (by decide) (by decide) ?_) CN.hand (by rw [I.scope]; rfl) (I.sto (by first | exact .inl rfl | exact .inr rfl))
      (fun rem acc m => ∃ (dn rs ns : List Int) (o' : AO), (dn ++ rs).length ≤ 15 ∧ rem = rs.map D.int ∧ acc = ns.map PyData.int ∧ (∀ n ∈ ns, 0 ≤ n ∧ n < 256) ∧ ns.length = dn.length ∧ IsPool (k + 2 + 2 * dn.length) d o' ∧ m = [(p, o')]) ?_ ?_ ?_ (by rw [I.scope]; with_unfolding_all rfl) (by intro _ _; with_unfolding_all rfl))
    · intro q hq
      rw [List.mem_singleton.mp hq]; exact ⟨rfl, by show (("pool" : Str), NameKind.free) ∈ _; decide⟩
    · repeat walk_at "w"
      refine take0 P p1 (by lia) (by decide) (by decide) fun v2 o2 a2 b2 p2 => ?_
      repeat walk_at "w"
      obtain ⟨n2, rfl⟩ : ∃ n : Nat, v2 = n := ⟨v2.toNat, by lia⟩
      refine BF_range1 fun r t u v => ?_
      exact ⟨_, _, ITB_range CN.hand (rng_small (by lia)) (rng_size _), ⟨[], rng 0 1 n2, [], o2, by rw [List.nil_append, rng_len]; lia, rfl, rfl, (fun n h => nomatch h), rfl, p2, rfl⟩, by rw [List.length_map, rng_len]; lia⟩
    · intro C2 S dd rem acc m hq3
      refine absP fun P₀ hP₀ => ?_
      obtain ⟨dn, rs, ns, o', e1, e2, e3, e4, e5, e6, e7⟩ := hq3
      refine hP₀ ?_; clear hP₀ P₀
      subst e7
      cases rs with
      | nil => cases e2
      | cons i rs =>
      rw [List.map_cons] at e2
      obtain ⟨rfl, rfl⟩ := List.cons.inj e2
      have hdl : dn.length < 15 := by rw [List.length_append, List.length_cons] at e1; lia
      have I2 := S.sc I
      have CN2 := S.can CN
      refine ⟨fun u₀ => ?_, fun h => absurd h (by decide)⟩
      repeat walk_at "w"
      refine take0 P e6 (by lia) (by decide) (by decide) fun v3 o3 a3 b3 p3 => ?_
      repeat walk_at "w"
      refine take0 P p3 (by lia) (by decide) (by decide) fun v4 o4 a4 b4 p4 => ?_
      refine OP_mul (IntMulOk.of_left (intBits_le_64 (by lia) (by lia))) ?_
      repeat walk_at "w"
      have hx : 0 ≤ 128 + v3 * v4 ∧ 128 + v3 * v4 < 256 := by
        rcases (show v4 = 0 ∨ v4 = 1 by lia) with rfl | rfl <;> lia
      refine ⟨dn ++ [i], rs, ns ++ [128 + v3 * v4], o4, by rw [List.append_assoc]; exact e1, rfl, by rw [e3, List.map_append]; rfl, fun n hn => ?_, by simp [e5], p4.up (by simp; lia), rfl⟩
      rcases List.mem_append.mp hn with hn | hn
      · exact e4 n hn
      · rw [List.mem_singleton.mp hn]; exact hx
    · intro xs m hq4
      refine absP fun P₀ hP₀ => ?_
      obtain ⟨dn, rs, ns, o', e1, e2, e3, e4, e5, e6, e7⟩ := hq4
      refine hP₀ ?_; clear hP₀ P₀
      subst e7
      cases rs with
      | cons i rs => cases e2
      | nil =>
      rw [List.append_nil] at e1
      subst e3
      repeat walk_at "w"
      refine EV_list_dat ?_
      walk_at "w"
      refine EV_itemT ?_ (by intro _ _; with_unfolding_all rfl)
      refine EV_list_dat ?_
      repeat walk_at "w"
      refine ⟨by rw [sizeLine_eq]; simp, [.int 0, .int 1, .int 127, .int 5], rfl, ?_⟩
      repeat walk_at "w"
      refine take0 P e6 (by lia) (by decide) (by decide) fun v3 o3 a3 b3 p3 => ?_
      obtain ⟨x, hx, c1, c2⟩ : ∃ x : Int, ([PyData.int 0, .int 1, .int 127, .int 5] : List PyData)[v3.toNat]? = some (.int x) ∧ 0 ≤ x ∧ x < 256 := by
        rcases (show v3 = 0 ∨ v3 = 1 ∨ v3 = 2 ∨ v3 = 3 by lia) with rfl | rfl | rfl | rfl
        · exact ⟨0, rfl, by decide, by decide⟩
        · exact ⟨1, rfl, by decide, by decide⟩
        · exact ⟨127, rfl, by decide, by decide⟩
        · exact ⟨5, rfl, by decide, by decide⟩
      refine ITM_list_dat a3 (by lia) hx ?_
      repeat walk_at "w"
      refine ⟨by rw [sizeLine_eq]; simp, [.int x, .int 7], rfl, ?_⟩
      refine OP_addl (by simp; lia) ?_
      repeat walk_at "w"
      rw [show (ns.map PyData.int ++ [PyData.int x, .int 7]) = (ns ++ [x, 7]).map PyData.int by rw [List.map_append]; rfl]
      refine BF_bytes_list CN.hand (fun n hn => ?_) (by simp; lia) ?_
      · rcases List.mem_append.mp hn with hn | hn
        · exact e4 n hn
        · simp only [List.mem_cons, List.not_mem_nil, or_false] at hn
          rcases hn with rfl | rfl
          · exact ⟨c1, c2⟩
          · decide
      · exact ⟨_, o3, rfl, by rw [octs_len]; simp; lia, p3.up (by lia), rfl⟩
  clear h
  walk_at "n"
  refine EX_nil ?_
  walk_at "n"
  refine EX0_consA fun K' hK => (SX.to0 ?_)
  repeat walk_at "w"
  with_reducible refine SX.weak (loc' := [("pool", .ptr p), ("made", .bytes [])]) ?wk1 ?wl1
  case wl1 => exact LS.get ⟨rfl, rfl, trivial⟩
  refine SX_for CN I (I.sto (.inl rfl)) (fun rem loc m => Ex4 fun (dn rs : List Int) (u : List UInt8) (o' : AO) => And6 ((dn ++ rs).length ≤ 3) (rem = rs.map D.int) (LS [("pool", .ptr p), ("made", .bytes u)] loc) (u.length ≤ 9 * dn.length) (IsPool (k + 2 + 10 * dn.length) d o') (m = [(p, o')])) ?_ ?_ ?_ (by intro _ _; with_unfolding_all rfl)
  · repeat walk_at "w"
    refine take0 P p1 (by lia) (by decide) (by decide) fun v2 o2 a2 b2 p2 => ?_
    repeat walk_at "w"
    obtain ⟨n2, hn2⟩ : ∃ n : Nat, 1 + v2 = n := ⟨(1 + v2).toNat, by lia⟩
    rw [hn2]
    refine BF_range1 fun r t u v => ?_
    exact ⟨_, _, ITB_range CN.hand (rng_small (by lia)) (rng_size _), [], rng 0 1 n2, [], o2, by rw [List.nil_append, rng_len]; lia, rfl, ⟨rfl, rfl, trivial⟩, Nat.zero_le _, p2, rfl⟩
  · intro dd ds loc m hq5
    refine absP fun P₀ hP₀ => ?_
    obtain ⟨dn, rs, u, o', e1, e2, hls, e3, e4, e5⟩ := hq5
    refine hP₀ ?_; clear hP₀ P₀
    subst e5
    cases rs with
    | nil => cases e2
    | cons i rs =>
    rw [List.map_cons] at e2
    obtain ⟨rfl, rfl⟩ := List.cons.inj e2
    have hdl : dn.length < 3 := by rw [List.length_append, List.length_cons] at e1; lia
    walk_at "n"
    with_reducible refine EX.weak (loc' := [("pool", .ptr p), ("made", .bytes u)]) ?wk2 ?wl2
    case wl2 => exact LS.get ⟨hls.1, hls.2.1, trivial⟩
    repeat walk_at "w"
    refine value_to P (by decide) e4 (by lia) fun v o2 f2 f3 f4 => ?_
    repeat walk_at "w"
    refine OP_pow (by decide) (by decide) ?_
    have e63 : (2 : Int) ^ (63 : Int).toNat = 9223372036854775808 := by decide
    rw [e63]
    refine OP_mod (by decide) ?_
    repeat walk_at "w"
    have hf := fmod_rng (a := v) (b := 9223372036854775808) (by decide)
    refine ((law_digits_ok P (X := fun u₀ u₀ => False)).more (by decide)).mono (fun r m hq7 => ?_) fun c m z => z.elim
    obtain ⟨f1, f2⟩ := hq7
    subst f2
    unfold digD at f1
    rw [if_pos ⟨hf.1, by lia⟩] at f1
    subst f1
    have hz := digs_le (v.fmod 9223372036854775808).toNat
    refine OP_addb (by lia) ?_
    walk_at "n"
    refine EX_nil ⟨dn ++ [i], rs, _, o2, by rw [List.append_assoc]; exact e1, rfl, ⟨rfl, rfl, trivial⟩, by simp; lia, f4.up (by simp; lia), rfl⟩
  · intro loc m hq6
    refine absP fun P₀ hP₀ => ?_
    obtain ⟨dn, rs, u, o', e1, e2, hls, e3, e4, e5⟩ := hq6
    refine hP₀ ?_; clear hP₀ P₀
    walk_at "n"
    subst e5
    cases rs with
    | cons i rs => cases e2
    | nil =>
    rw [List.append_nil] at e1
    walk_at "n"
    refine EX0.weak (loc' := [("pool", .ptr p), ("made", .bytes u)]) ?_ hls.get
    walk_at "n"
    refine EX0_consA fun K' hK => (SX.to0 ?_)
    repeat walk_at "w"
    refine BF_len_bytes (by lia) ?_
    repeat walk_at "w"
    refine take0 P e4 (by lia) (by decide) (by decide) fun v2 o2 a2 b2 p2 => ?_
    repeat walk_at "w"
    refine SLC_bytes (by lia) ?_
    refine ⟨_, o2, rfl, ?_, p2.up (by lia), rfl⟩
    exact Nat.le_trans (cut_len _ _ _) (by lia)
theorem stream_to (P : PW G) {n : Nat} (hn : 3 ≤ n) {p : Addr} {o : AO} {k : Nat} {d : Int} {X : Addr → MH → Prop} {Q : D → MH → Prop} (hp : IsPool k d o) (hk : k < 999990000) (hd0 : 0 ≤ d) (hd4 : d ≤ 4) (h : ∀ (l : List UInt8) o', l.length ≤ 100 → IsPool (k + 100) d o' → Q (.bytes l) [(p, o')]) : FN G n (.ref 364) [.ptr p] [(p, o)] X Q :=
  ((law_stream_ok P hp hk hd0 hd4 (X := fun u₀ u₀ => False)).more hn).mono (fun r m hq8 => by obtain ⟨l, o', e1, a, q, e2⟩ := hq8; rw [e1, e2]; exact h l o' a q) fun c m z => z.elim

end

section
set_option tactic.hygienic false
open PySem PySem.W PyProof.Rows
variable {G : Glb} {C C' : Cx} {loc loc' : Loc} {tmp tmp' : Tmp} {mh hid l l' : MH} {s s' s₁ : Shared}
variable {X : Addr → Loc → MH → Prop} {Q : D → MH → Prop} {Rt : D → MH → Prop} {N : Loc → MH → Prop}
theorem new_list (R : Rep G C loc tmp mh s) {vs : Array Value} {ds : List D} (V : VDs s.heap (MM C mh) vs.toList ds) {k : Nat} :
    Rep G C loc ((.ref s.heap.objs.size, .ptr s.heap.objs.size) :: tmp) ((s.heap.objs.size, .list ds) :: mh) { s with heap := s.heap.push { cls := .type "list", data := .seq vs }, toks := k } := by
  have R2 : Rep G C loc tmp ((s.heap.objs.size, .list ds) :: mh) { s with heap := s.heap.push { cls := .type "list", data := .seq vs }, toks := k } := by
    refine R.add (fun b o e => Heap.get?_push_of_some _ e) rfl rfl (fun b hb => ?_) (by simp [foot, AO.more]) ?_
    · simp [foot, AO.more] at hb; exact size_none (Nat.le_of_eq hb.symm)
    · refine ⟨vs, ⟨_, Heap.get?_push_size _ rfl, rfl, _, rfl⟩, ?_⟩
      exact V.mono (.of (fun b o u₀ e => Heap.get?_push_of_some _ e) fun b hb => by
        rcases List.mem_append.mp hb with q | q
        · exact .inl (List.mem_append_left _ q)
        · rw [addrs_cons] at q
          rcases List.mem_append.mp q with q | q
          · simp [foot, AO.more] at q; exact .inr (by subst q; exact size_none (Nat.le_refl _))
          · exact .inl (List.mem_append_right _ q))
  exact R2.push (.ptr _)
theorem EV_mulM {e1 e2 : Expr} {pos : Pos} (h : EV G C loc mh e1 X fun d1 m1 => EV G C loc m1 e2 X fun d2 m2 => ∃ x i, d1 = .dat (.list [x]) ∧ d2 = .int i ∧ 0 ≤ i ∧ i ≤ 16777216 ∧ ∀ a, Q (.ptr a) ((a, .list (List.replicate i.toNat (.dat x))) :: m2)) :
    EV G C loc mh (.BinOp e1 .Mult e2 pos) X Q := fun tmp hid s R =>
  wpAny_BinOp (h.go R (fun v1 s1 d1 m1 R1 h1 => h1.go R1 (fun v2 s2 d2 m2 R2 hq5 => by
    refine absP fun P₀ hP₀ => ?_
    obtain ⟨x, i, q1, q2, h0, hz, hQ⟩ := hq5
    refine hP₀ ?_; clear hP₀ P₀
    subst q1; subst q2
    have vy := R2.top
    have vx := R2.tmp _ (.tail _ (.head _))
    have R := R2.pop.pop
    dsimp only at vx vy
    obtain ⟨u, rfl⟩ := vy.int_inv
    cases vx with | dat vx => cases vx with | @list a o vs n _ na ea ca da fa =>
    refine absP fun P₀ hP₀ => ?_
    obtain ⟨cls, dd, data, sl⟩ := o
    refine hP₀ ?_; clear hP₀ P₀
    simp only at ca da
    subst ca da
    obtain ⟨v, hv⟩ : ∃ v, vs = #[v] := by
      have h1 := fa.length
      cases hvs : vs.toList with
      | nil => rw [hvs] at h1; simp at h1
      | cons v r =>
        rw [hvs] at h1
        have : r = [] := by simpa using h1
        subst this
        exact ⟨v, by rw [← Array.toArray_toList (xs := vs), hvs]⟩
    subst hv
    have hf : FV s2.heap (MM C (m2 ++ hid)) v x := by cases fa with | cons a _ => exact a
    refine wpAny_binaryOp_repeat_ref (T := "list") (U := "int") (by decide) ⟨_, ea, rfl⟩ (fun s' => typeIs_int s' i u) noFill_list_mul F.fills_int_mul F.slot_int_rmul repeat_list F.slot_int_index.lookup
      (call_meets F.slot_int_rmul (typeIs_int s2 i u) F.entry_int_rmul (F.args_int_rmul_2 _ _) (lm_int_rmul_list_any i u a #[v] n dd sl)
        ⟨ea, rfl, ⟨_, ea, rfl⟩, call_meets F.slot_list_mul ⟨_, ea, rfl⟩ F.entry_list_mul (F.args_list_mul_2 _ _)
          (lm_list_mul_any a #[v] n dd sl i u (by simp [Builtin.List.listFitsIndex]; lia) (by simp; lia) (by simp [Builtin.List.listTooLong, sizeLine]; lia))
          ⟨ea, _, _, new_list R (ds := List.replicate i.toNat (.dat x)) ?_, hQ _⟩⟩)
    rw [listMul_foldl_if]
    have e : (List.replicate i.toNat (#[v] : Array Value).toList).flatten = List.replicate i.toNat v := by
      generalize i.toNat = k
      induction k with
      | zero => rfl
      | succ k ih => rw [List.replicate_succ, List.flatten_cons, ih, List.replicate_succ]; rfl
    rw [e]
    show VDs _ _ (List.replicate i.toNat v) _
    generalize i.toNat = k
    induction k with
    | zero => exact .nil
    | succ k ih => rw [List.replicate_succ, List.replicate_succ]; exact .cons (.dat hf) ih)))
theorem rng_get3 (a c : Int) : ∀ (n i : Nat), i < n → (rng a c n)[i]? = some (a + c * i)
  | 0, i, h => by lia
  | n + 1, 0, h => by unfold rng; simp
  | n + 1, i + 1, h => by
    unfold rng
    rw [List.getElem?_cons_succ, rng_get3 (a + c) c n i (by lia)]
    congr 1; push_cast; rw [Int.mul_add]; lia
noncomputable def cntA (n g f : Nat) : Nat := (n - f - 1) / g + 1
theorem cnt_size {n g f : Nat} (hg : 1 ≤ g) (hf : f < n) : Builtin.Range.rangeSize f n g = (cntA n g f : Nat) := by
  unfold Builtin.Range.rangeSize cntA
  rw [if_pos (by lia), if_pos (by lia)]
  have : ((n : Int) - f - 1) = ((n - f - 1 : Nat) : Int) := by lia
  rw [this]; push_cast; rfl
theorem rng_small3 {n g f : Nat} (hg : 1 ≤ g) (hg2 : g ≤ 256) (hf : f < n) (hn : n ≤ 100000) : Builtin.Range.small f n g = true := by
  have hs : ∀ k : Int, 0 ≤ k → k ≤ 1000000 → Builtin.Range.rangeFitsLong k = true := fun k h0 h1 => by
    unfold Builtin.Range.rangeFitsLong
    rw [decide_eq_true (by lia), decide_eq_true (by lia)]; rfl
  have hc : cntA n g f ≤ 100001 := by
    unfold cntA
    have := Nat.div_le_self (n - f - 1) g
    lia
  unfold Builtin.Range.small
  rw [cnt_size hg hf, hs f (by lia) (by lia), hs n (by lia) (by lia), hs g (by lia) (by lia), hs (cntA n g f : Nat) (by lia) (by lia), if_pos (by lia), hs ((n : Int) + ((g : Int) - 1)) (by lia) (by lia)]
  simp
theorem cnt_lt {n g f t : Nat} (hf : f < n) (ht : t < cntA n g f) : f + g * t < n := by
  unfold cntA at ht
  have h1 : t ≤ (n - f - 1) / g := by lia
  have h2 : g * t ≤ g * ((n - f - 1) / g) := Nat.mul_le_mul_left g h1
  have h3 : g * ((n - f - 1) / g) ≤ n - f - 1 := Nat.mul_div_le _ _
  exact Nat.lt_of_le_of_lt (Nat.add_le_add_left (Nat.le_trans h2 h3) f) (by lia)
theorem cnt_end {n g f : Nat} (hg : 1 ≤ g) (hf : f < n) : n ≤ f + g * cntA n g f := by
  unfold cntA
  exact Nat.sub_le_iff_le_add'.mp (Nat.le_of_pred_lt (Nat.lt_mul_div_succ (n - f - 1) hg))
structure InnA (U : List UInt8) (g : Nat) (F : List Int) (f t : Nat) : Prop where
  len : F.length = U.length
  at_ : ∀ i, i < U.length → (i % g < f ∨ (i % g = f ∧ i < f + g * t)) → F.getD i 0 = ((U.getD i 0).toNat : Int)
theorem InnA.step {U : List UInt8} {g f t : Nat} {F : List Int} {v : Int} (hg : 1 ≤ g) (hs : f + g * t < U.length) (hv : v = ((U.getD (f + g * t) 0).toNat : Int)) (H : InnA U g F f t) : InnA U g (F.set (f + g * t) v) f (t + 1) := by
  refine ⟨by rw [List.length_set]; exact H.len, fun i hi h => ?_⟩
  by_cases e : i = f + g * t
  · subst e
    rw [List.getD_eq_getElem?_getD, List.getElem?_set_self (by rw [H.len]; exact hs)]
    exact hv
  · rw [List.getD_eq_getElem?_getD, List.getElem?_set_ne (fun q => e q.symm), ← List.getD_eq_getElem?_getD]
    refine H.at_ i hi (h.imp id fun ⟨h1, h2⟩ => ⟨h1, ?_⟩)
    have hd := Nat.div_add_mod i g
    rw [h1] at hd
    rw [Nat.mul_add, Nat.mul_one] at h2
    have h3 : i / g < t + 1 := Nat.lt_of_mul_lt_mul_left (a := g) (by rw [Nat.mul_add, Nat.mul_one]; lia)
    have h4 : i / g ≠ t := fun q => e (by rw [q] at hd; lia)
    have h5 : g * (i / g + 1) ≤ g * t := Nat.mul_le_mul_left g (by lia)
    rw [Nat.mul_add, Nat.mul_one] at h5
    lia
theorem InnA.next {U : List UInt8} {g f : Nat} {F : List Int} (hg : 1 ≤ g) (hf : f < U.length) (H : InnA U g F f (cntA U.length g f)) : InnA U g F (f + 1) 0 := by
  refine ⟨H.len, fun i hi h => H.at_ i hi ?_⟩
  have := cnt_end hg hf
  rcases h with h | ⟨h1, h2⟩
  · by_cases q : i % g < f
    · exact .inl q
    · exact .inr ⟨by lia, by lia⟩
  · exact .inl (by have := Nat.mod_le i g; lia)
theorem InnA.fin {U : List UInt8} {g f : Nat} {F : List Int} (hg : 1 ≤ g) (hf : f = min g U.length) (H : InnA U g F f 0) : F = U.map fun c => (c.toNat : Int) := by
  apply List.ext_getElem?
  intro i
  by_cases hi : i < U.length
  · have h1 := H.at_ i hi (.inl (by
      have := Nat.mod_lt i (show 0 < g by lia)
      have := Nat.mod_le i g
      lia))
    rw [List.getD_eq_getElem?_getD, List.getElem?_eq_getElem (by rw [H.len]; exact hi), List.getD_eq_getElem?_getD, List.getElem?_eq_getElem hi] at h1
    rw [List.getElem?_eq_getElem (by rw [H.len]; exact hi), List.getElem?_map, List.getElem?_eq_getElem hi]
    exact congrArg some h1
  · rw [List.getElem?_eq_none (by rw [H.len]; lia), List.getElem?_eq_none (by rw [List.length_map]; lia)]
theorem prv_next {g : Nat} (u : List UInt8) (j : Nat) : prv g u (j + g) = u.getD j 0 := by
  unfold prv
  rw [if_neg (by lia), Nat.add_sub_cancel]
theorem prv_first {g f : Nat} (u : List UInt8) (h : f < g) : prv g u f = 0 := if_pos h
noncomputable def bef (total : Bool) (g : Nat) (l : List UInt8) (j : Nat) : UInt8 := prv g (if total then up g l else l) j
theorem law_apart_ok (P : PW G) {l : List UInt8} {g : Nat} {total : Bool} (hg : 1 ≤ g) (hg2 : g ≤ 256) (hz : l.length ≤ 100000) {X : Addr → MH → Prop} :
    FN G 1 (.ref 390) [.bytes l, .int g, .bool total] mh X fun d m => d = .bytes (apt total g l) ∧ m = mh := by
  have hU : (apt total g l).length = l.length := apt_len hg l
  refine (P.fun (x := "_law_apart") (a := 390) (i := 40) (by decide +kernel)).of (ps := ["octets", "gap", "total"]) P.ok rfl rfl rfl (by decide) (by decide) (by decide) rfl (fun fd vs a b c => by obtain ⟨x, y, z, rfl⟩ := len3 c; unfold bindArgs; rw [a, b]; kernel_rfl) fun C I CN => ?_
  refine EX0_consA fun K' hK => (SX.to0 (SX_assign (I.sto (.inl rfl)) (EV_mulM ?_) (by intro _; with_unfolding_all rfl)))
  refine EV_list_dat ?_
  repeat walk_at "w"
  refine ⟨by rw [sizeLine_eq]; simp, [.int 0], rfl, ?_⟩
  repeat walk_at "w"
  refine BF_len_bytes (by lia) ?_
  refine ⟨.int 0, _, rfl, rfl, by lia, by lia, fun a => ?_⟩
  rw [Int.toNat_natCast]
  walk_at "n"
  with_reducible refine EX0.weak (loc' := [("octets", .bytes l), ("gap", .int g), ("total", .bool total), ("found", .ptr a)]) ?wk1 ?wl1
  case wl1 => exact LS.get ⟨rfl, rfl, rfl, rfl, trivial⟩
  walk_at "n"
  refine EX0_consA fun K' hK => (SX.to0 ?_)
  refine SX_for CN I (I.sto (.inl rfl)) (fun rem loc m => Ex2 fun (f : Nat) (F : List Int) => And5 (f ≤ min g l.length) (rem = (rng f 1 (min g l.length - f)).map D.int) (LS [("octets", .bytes l), ("gap", .int g), ("total", .bool total), ("found", .ptr a)] loc) (InnA (apt total g l) g F f 0) (m = (a, .list (F.map D.int)) :: mh)) ?_ ?_ ?_ (by intro _ _; with_unfolding_all rfl)
  · repeat walk_at "w"
    refine BF_len_bytes (by lia) ?_
    repeat walk_at "w"
    refine BF_min CN.hand ?_
    repeat walk_at "w"
    have hm : (if (l.length : Int) < (g : Int) then (l.length : Int) else (g : Int)) = (min g l.length : Nat) := by split <;> lia
    rw [hm]
    refine BF_range1 fun r t u v => ?_
    refine ⟨_, _, ITB_range CN.hand (rng_small (by lia)) (rng_size _), 0, List.replicate l.length 0, Nat.zero_le _, rfl, ⟨rfl, rfl, rfl, rfl, trivial⟩, ⟨by simp [hU], fun i hi h => ?_⟩, by rw [List.map_replicate]⟩
    exfalso; lia
  · intro d ds loc m hq1
    refine absP fun P₀ hP₀ => ?_
    obtain ⟨f, F, h1, e2, hls, H, e3⟩ := hq1
    refine hP₀ ?_; clear hP₀ P₀
    subst e3
    obtain ⟨k, hk⟩ : ∃ k, min g l.length - f = k + 1 := by
      cases q : min g l.length - f with
      | zero => rw [q] at e2; cases e2
      | succ k => exact ⟨k, rfl⟩
    rw [hk] at e2
    unfold rng at e2
    rw [List.map_cons] at e2
    obtain ⟨rfl, rfl⟩ := List.cons.inj e2
    have hfm := Nat.lt_of_sub_eq_succ hk
    have hfg : f < g := Nat.lt_of_lt_of_le hfm (Nat.min_le_left _ _)
    have hfn : f < l.length := Nat.lt_of_lt_of_le hfm (Nat.min_le_right _ _)
    walk_at "n"
    with_reducible refine EX.weak (loc' := [("first", .int f), ("octets", .bytes l), ("gap", .int g), ("total", .bool total), ("found", .ptr a)]) ?wk2 ?wl2
    case wl2 => exact LS.get ⟨rfl, hls.1, hls.2.1, hls.2.2.1, hls.2.2.2.1, trivial⟩
    repeat walk_at "w"
    with_reducible refine SX.weak (loc' := [("before", .int 0), ("first", .int f), ("octets", .bytes l), ("gap", .int g), ("total", .bool total), ("found", .ptr a)]) ?wk3 ?wl3
    case wl3 => exact LS.get ⟨rfl, rfl, rfl, rfl, rfl, rfl, trivial⟩
    refine SX_for CN I (I.sto (.inl rfl)) (fun rem loc m => Ex2 fun (t : Nat) (F : List Int) => And5 (t ≤ cntA l.length g f) (rem = (rng (f + g * t : Nat) g (cntA l.length g f - t)).map D.int) (LS [("before", .int (bef total g l (f + g * t)).toNat), ("octets", .bytes l), ("gap", .int g), ("total", .bool total), ("found", .ptr a)] loc) (InnA (apt total g l) g F f t) (m = (a, .list (F.map D.int)) :: mh)) ?_ ?_ ?_ (by intro _ _; with_unfolding_all rfl)
    · repeat walk_at "w"
      refine BF_len_bytes (by lia) ?_
      repeat walk_at "w"
      refine BF_range3 (by lia) (by
        have : ((g : Int)).natAbs.log2 < 64 := (Nat.log2_lt (by lia)).mpr (by lia)
        lia) fun r t u v => ?_
      refine ⟨_, _, ITB_range CN.hand (rng_small3 hg hg2 hfn hz) (cnt_size hg hfn), 0, F, Nat.zero_le _, rfl, ⟨?_, rfl, rfl, rfl, rfl, trivial⟩, H, rfl⟩
      show some (D.int 0) = _
      unfold bef
      rw [Nat.mul_zero, Nat.add_zero, prv_first _ hfg]; rfl
    · intro d ds loc m hq2
      refine absP fun P₀ hP₀ => ?_
      obtain ⟨t, F, h1, e2, hls, H, e3⟩ := hq2
      refine hP₀ ?_; clear hP₀ P₀
      subst e3
      obtain ⟨k, hk⟩ : ∃ k, cntA l.length g f - t = k + 1 := by
        cases q : cntA l.length g f - t with
        | zero => rw [q] at e2; cases e2
        | succ k => exact ⟨k, rfl⟩
      rw [hk] at e2
      unfold rng at e2
      rw [List.map_cons] at e2
      obtain ⟨rfl, rfl⟩ := List.cons.inj e2
      have hsp : f + g * t < l.length := cnt_lt hfn (Nat.lt_of_sub_eq_succ hk)
      have hFl : F.length = l.length := H.len.trans hU
      have hbn := (bef total g l (f + g * t)).toNat_lt
      have hnx : (f + g * (t + 1) : Nat) = f + g * t + g := by rw [Nat.mul_add, Nat.mul_one]; lia
      have hnx2 : ((f + g * t : Nat) : Int) + (g : Int) = ((f + g * (t + 1) : Nat) : Int) := by rw [hnx]; push_cast; lia
      have hcnt : cntA l.length g f - (t + 1) = k := by rw [Nat.sub_add_eq, hk]; rfl
      walk_at "n"
      with_reducible refine EX.weak (loc' := [("spot", .int (f + g * t : Nat)), ("before", .int (bef total g l (f + g * t)).toNat), ("octets", .bytes l), ("gap", .int g), ("total", .bool total), ("found", .ptr a)]) ?wk4 ?wl4
      case wl4 => exact LS.get ⟨rfl, hls.1, hls.2.1, hls.2.2.1, hls.2.2.2.1, hls.2.2.2.2.1, trivial⟩
      generalize hsg : f + g * t = sp at *
      walk_at "n"
      with_reducible refine EX.lax ?_
      walk_at "n"
      refine EX_consA fun K' hK => (SX_if ?_)
      repeat walk_at "w"
      have done : ∀ (v b : Int) , v = (((apt total g l).getD sp 0).toNat : Int) → b = ((bef total g l (sp + g)).toNat : Int) → ∀ loc', LS [("before", .int b), ("octets", .bytes l), ("gap", .int g), ("total", .bool total), ("found", .ptr a)] loc' →
          ∃ l0, LS l0 loc' ∧ Ex2 fun (t : Nat) (F' : List Int) => And5 (t ≤ cntA l.length g f) ((rng ((sp : Int) + (g : Int)) g k).map D.int = (rng (f + g * t : Nat) g (cntA l.length g f - t)).map D.int) (LS [("before", .int (bef total g l (f + g * t)).toNat), ("octets", .bytes l), ("gap", .int g), ("total", .bool total), ("found", .ptr a)] l0) (InnA (apt total g l) g F' f t) ((a, AO.list ((F.set sp v).map D.int)) :: mh = (a, .list (F'.map D.int)) :: mh) := fun v b hv hb loc' hls => by
        subst hb
        refine ⟨[("before", .int (bef total g l (sp + g)).toNat), ("octets", .bytes l), ("gap", .int g), ("total", .bool total), ("found", .ptr a)], hls, t + 1, F.set sp v, Nat.lt_of_sub_eq_succ hk, ?_, ?_, ?_, rfl⟩
        · rw [hnx2, hcnt]
        · rw [hnx]; exact ⟨rfl, rfl, rfl, rfl, rfl, trivial⟩
        · have := H.step (v := v) hg (by rw [hsg, hU]; exact hsp) (by rw [hsg]; exact hv)
          rwa [hsg] at this
      have hset : ∀ v : Int, (F.map D.int).set (sp : Int).toNat (D.int v) = (F.set sp v).map D.int := fun v => by rw [Int.toNat_natCast, List.map_set]
      refine ⟨fun ht => ?_, fun ht => ?_⟩
      · subst ht
        walk_at "n"
        refine EX_consA fun K' hK => (SX_setItemU ?_ (by intro _; with_unfolding_all rfl))
        repeat walk_at "w"
        refine ITM_bytes (by lia) (by lia) (by lia) ?_
        repeat walk_at "w"
        refine OP_mod (by decide) ?_
        repeat walk_at "w"
        rw [Int.toNat_natCast, Int.fmod_eq_emod_of_nonneg _ (by decide), add_int]
        refine ⟨a, _, _, _, rfl, rfl, .head, by lia, by lia, by rw [List.length_map]; lia, ?_⟩
        rw [hset]
        repeat walk_at "w"
        have hr : (apt true g l).getD sp 0 = bef true g l sp + l.getD sp 0 := by
          show (up g l).getD sp 0 = prv g (up g l) sp + _
          rw [up_get hg l sp hsp, UInt8.add_comm]
        refine ITM_list (x := .int ((bef true g l sp + l.getD sp 0).toNat : Nat)) (.inl (.head _)) (by lia) (by lia) (by
          rw [Int.toNat_natCast, List.getElem?_map, List.getElem?_set_self (by lia)]; rfl) ?_
        repeat walk_at "w"
        refine done _ _ (by rw [hr]) ?_ _ ⟨rfl, rfl, rfl, rfl, rfl, trivial⟩
        rw [show bef true g l (sp + g) = (up g l).getD sp 0 from prv_next _ _]
        exact congrArg (fun c : UInt8 => ((c.toNat : Nat) : Int)) hr.symm
      · subst ht
        walk_at "n"
        refine EX_consA fun K' hK => (SX_setItemU ?_ (by intro _; with_unfolding_all rfl))
        repeat walk_at "w"
        refine ITM_bytes (by lia) (by lia) (by lia) ?_
        repeat walk_at "w"
        refine OP_mod (by decide) ?_
        repeat walk_at "w"
        rw [Int.toNat_natCast, Int.fmod_eq_emod_of_nonneg _ (by decide), sub_int]
        refine ⟨a, _, _, _, rfl, rfl, .head, by lia, by lia, by rw [List.length_map]; lia, ?_⟩
        rw [hset]
        repeat walk_at "w"
        have hr : (apt false g l).getD sp 0 = l.getD sp 0 - bef false g l sp := pk_get g l sp hsp
        refine ITM_bytes (by lia) (by lia) (by lia) ?_
        repeat walk_at "w"
        refine done _ _ (by rw [hr]) ?_ _ ⟨rfl, rfl, rfl, rfl, rfl, trivial⟩
        rw [show bef false g l (sp + g) = l.getD sp 0 from prv_next _ _, Int.toNat_natCast]
    · intro loc m hq3
      refine absP fun P₀ hP₀ => ?_
      obtain ⟨t, F, h1, e2, hls, H, e3⟩ := hq3
      refine hP₀ ?_; clear hP₀ P₀
      walk_at "n"
      subst e3
      have ht : t = cntA l.length g f := by
        cases q : cntA l.length g f - t with
        | zero => lia
        | succ k => rw [q] at e2; cases e2
      subst ht
      walk_at "n"
      refine EX_nil ⟨f + 1, F, hfm, ?_, ⟨hls.2.1, hls.2.2.1, hls.2.2.2.1, hls.2.2.2.2.1, trivial⟩, ?_, rfl⟩
      · have : min g l.length - (f + 1) = k := by rw [Nat.sub_add_eq, hk]; rfl
        rw [this]; push_cast; rfl
      · have := H
        rw [← hU] at this
        exact this.next hg (by rw [hU]; exact hfn)
  · intro loc m hq4
    refine absP fun P₀ hP₀ => ?_
    obtain ⟨f, F, h1, e2, hls, H, e3⟩ := hq4
    refine hP₀ ?_; clear hP₀ P₀
    walk_at "n"
    subst e3
    have hf : f = min g l.length := by
      cases q : min g l.length - f with
      | zero => lia
      | succ k => rw [q] at e2; cases e2
    have hF := H.fin hg (by rw [hU]; exact hf)
    walk_at "n"
    with_reducible refine EX0.weak (loc' := [("found", .ptr a)]) ?wk5 ?wl5
    case wl5 => exact LS.get ⟨hls.2.2.2.1, trivial⟩
    walk_at "n"
    refine EX0_consA fun K' hK => (SX.to0 (SX_ret ?_))
    walk_at "w"
    refine EVs_cons (EV_frz ?_) (by intro _; with_unfolding_all rfl)
    repeat walk_at "w"
    refine ⟨a, F.map PyData.int, mh, rfl, .inr (by rw [List.map_map]; exact List.Perm.refl _), ?_⟩
    repeat walk_at "w"
    rw [hF]
    refine BF_bytes_list CN.hand (fun n hn => ?_) (by rw [List.length_map, hU]; lia) ⟨by rw [octs_bytes], rfl⟩
    obtain ⟨c, _, rfl⟩ := List.mem_map.mp hn
    have := c.toNat_lt
    lia

end

section
set_option tactic.hygienic false
open PySem PySem.W PyProof.Rows
variable {G : Glb} {C C' : Cx} {loc loc' : Loc} {tmp tmp' : Tmp} {mh hid l l' : MH} {s s' s₁ : Shared}
variable {X : Addr → Loc → MH → Prop} {Q : D → MH → Prop} {Rt : D → MH → Prop} {N : Loc → MH → Prop}
inductive Ref : Int → D → Prop
  | pack {d : D} (h : OddD d) : Ref 0 d
  | unpack {d : D} (h : OddD d) : Ref 1 d
  | four {xs : List PyData} (h1 : 4 ≤ xs.length) (h2 : xs.length ≤ 1000) : Ref 2 (.dat (.list xs))
  | odd {gs : List Int} {o : PyData} (h1 : gs.length ≤ 2) (h2 : ∀ g ∈ gs, 1 ≤ g ∧ g ≤ 256) (h3 : OddD (.dat o)) : Ref 2 (.dat (.list (gs.map .int ++ [o])))
  | dict {d : D} (h : (∃ k : Int, d = .int k ∧ (k < 0 ∨ 4294967295 < k)) ∨ d = .none) : Ref 3 d
theorem caughtBA {sc : Scope} (P : PW G) (I : Is C sc) (hk : sc.names.lookup ("BadArgument" : Str) = some .globalImplicit) {p1 p2 p3 p4 : Pos} {k : Nat} (h : Rt (.bool true) mh) :
    HND G C 100 loc mh Rt N [.ExceptHandler (some (.Name "BadArgument" p1)) none [.Return (some (.Constant (.bool true) k p2)) p3] p4] := by
  refine HND.mk ⟨100, 36, 36, (I.kindOf _).trans hk, by decide, P.cls (("BadArgument" : Str), 100) (by decide), P.exc _ (by decide), P.exc _ (by decide), .inl ⟨?_, fun A => EX0_cons (SX.to0 (SX_ret (EV_bool h)))⟩⟩
  rw [P.sub _ (by decide) _ (by decide)]; decide
theorem law_refused_ok (P : PW G) {way : Int} {d : D} (h : Ref way d) {X : Addr → MH → Prop} : FNX G 7 (.ref 397) [.int way, d] mh X fun r m => r = .bool true ∧ m = mh := by
  refine FNX.clean ?_
  refine (P.fun (x := "_law_refused") (a := 397) (i := 41) (by decide +kernel)).ofX (ps := ["way", "thing"]) P.ok rfl rfl rfl (by decide) (by decide) (by decide) rfl (fun fd vs a b c => by obtain ⟨x, y, rfl⟩ := len2 c; unfold bindArgs; rw [a, b]; kernel_rfl) fun C I CN => ?_
  refine EXX0.letR ?_; intro X₁ R₁ N₁
  refine EXX0_consA fun K' hK => (SXX0_try P.ok CN I ?_)
  cases h with
  | pack h =>
    walk_at "n"
    refine EXX0_consA fun K' hK => (SXX.to0 (SXX_if (TT.x ?_)))
    repeat walk_at "w"
    walk_at "n"
    refine EXX_consA fun K' hK => (SX.x ?_)
    repeat walk_at "w"
    refine ((delta_packed_no P h).more (by decide)).mono (fun d m z => z.elim) fun c m hq1 => ?_
    obtain ⟨e1, e2⟩ := hq1
    subst e1; subst e2
    exact caughtBA P I (by rfl) ⟨[], _, rfl, rfl, rfl⟩
  | unpack h =>
    walk_at "n"
    refine EXX0_consA fun K' hK => (SXX.to0 (SXX_if (TT.x ?_)))
    repeat walk_at "w"
    walk_at "n"
    refine EXX_consA fun K' hK => (SXX_if (TT.x ?_))
    repeat walk_at "w"
    repeat walk_at "x"
    refine ((delta_unpacked_no P h).more (by decide)).mono (fun d m z => z.elim) fun c m hq2 => ?_
    obtain ⟨e1, e2⟩ := hq2
    subst e1; subst e2
    exact caughtBA P I (by rfl) ⟨[], _, rfl, rfl, rfl⟩
  | four h1 h2 =>
    walk_at "n"
    refine EXX0_consA fun K' hK => (SXX.to0 (SXX_if (TT.x ?_)))
    repeat walk_at "w"
    walk_at "n"
    refine EXX_consA fun K' hK => (SXX_if (TT.x ?_))
    repeat walk_at "w"
    walk_at "n"
    refine EXX_consA fun K' hK => (SXX_if (TT.x ?_))
    repeat walk_at "w"
    walk_at "n"
    refine EXX_consA fun K' hK => (SX.x (SX_expr (EV_new (n := 4) P.ok (CN.less (by decide)) ((I.kindOf _).trans (by rfl)) (P.cls (("PackingChain" : Str), 206) (by decide)) P.makes.2.1 ?_ (by decide) (by intro _; with_unfolding_all rfl)) (by intro _; with_unfolding_all rfl) (I.inter rfl)))
    repeat walk_at "w"
    intro x dx
    refine ((chain_no4 P h1 h2).more (by decide)).mono (fun d m z => z.elim) fun c m hq3 => ?_
    obtain ⟨e1, e2⟩ := hq3
    subst e1; subst e2
    exact caughtBA P I (by rfl) ⟨[_], _, rfl, rfl, rfl⟩
  | odd h1 h2 h3 =>
    walk_at "n"
    refine EXX0_consA fun K' hK => (SXX.to0 (SXX_if (TT.x ?_)))
    repeat walk_at "w"
    walk_at "n"
    refine EXX_consA fun K' hK => (SXX_if (TT.x ?_))
    repeat walk_at "w"
    walk_at "n"
    refine EXX_consA fun K' hK => (SXX_if (TT.x ?_))
    repeat walk_at "w"
    walk_at "n"
    refine EXX_consA fun K' hK => (SX.x (SX_expr (EV_new (n := 4) P.ok (CN.less (by decide)) ((I.kindOf _).trans (by rfl)) (P.cls (("PackingChain" : Str), 206) (by decide)) P.makes.2.1 ?_ (by decide) (by intro _; with_unfolding_all rfl)) (by intro _; with_unfolding_all rfl) (I.inter rfl)))
    repeat walk_at "w"
    intro x dx
    refine (chain_noO P h1 h2 h3).mono (fun d m z => z.elim) fun c m hq4 => ?_
    obtain ⟨e1, e2⟩ := hq4
    subst e1; subst e2
    exact caughtBA P I (by rfl) ⟨[_], _, rfl, rfl, rfl⟩
  | dict h =>
    walk_at "n"
    refine EXX0_consA fun K' hK => (SXX.to0 (SXX_if (TT.x ?_)))
    repeat walk_at "w"
    walk_at "n"
    refine EXX_consA fun K' hK => (SXX_if (TT.x ?_))
    repeat walk_at "w"
    walk_at "n"
    refine EXX_consA fun K' hK => (SXX_if (TT.x ?_))
    repeat walk_at "w"
    walk_at "n"
    refine EXX_consA fun K' hK => (SX.x ?_)
    repeat walk_at "w"
    refine ((dictionary_octet_no P h).more (by decide)).mono (fun d m z => z.elim) fun c m hq5 => ?_
    obtain ⟨e1, e2⟩ := hq5
    subst e1; subst e2
    exact caughtBA P I (by rfl) ⟨[], _, rfl, rfl, rfl⟩

end

section
set_option tactic.hygienic false
open PySem PySem.W PyProof.Rows
theorem u8_of {n : Nat} (h : n < 256) : (n.toUInt8).toNat = n := by
  show n % 256 = n
  lia
theorem rdG_dig : ∀ (n v k w : Nat) (t : List UInt8), v < 128 ^ (n + 1) → (0 < v ∨ k = 0) → rdG (n + 1) (digF n v ++ t) k w = .ok (w + v * 128 ^ k) (k + (digF n v).length)
  | n, v, k, w, t, h1, h2 => by
    by_cases q : v < 128
    · rw [digF_end q]
      show (if 127 < (v.toUInt8).toNat then _ else if (v.toUInt8).toNat = 0 ∧ 0 < k then _ else _) = _
      rw [u8_of (by lia), if_neg (by lia), if_neg (by lia), Nat.mod_eq_of_lt q]; rfl
    · cases n with
      | zero => exfalso; simp at h1; lia
      | succ n =>
        rw [digF_step q]
        have hm : v % 128 < 128 := Nat.mod_lt _ (by decide)
        show (if 127 < ((v % 128 + 128).toUInt8).toNat then rdG (n + 1) (digF n (v / 128) ++ t) (k + 1) (w + ((v % 128 + 128).toUInt8).toNat % 128 * 128 ^ k) else _) = _
        rw [u8_of (by lia), if_pos (by lia), rdG_dig n (v / 128) (k + 1) _ t (by rw [Nat.div_lt_iff_lt_mul (by decide)]; rw [Nat.pow_succ] at h1; exact h1) (.inl (by lia))]
        have e : (v % 128 + 128) % 128 = v % 128 := by lia
        rw [e]
        congr 1
        · rw [Nat.pow_succ]
          have := Nat.div_add_mod v 128
          calc w + v % 128 * 128 ^ k + v / 128 * (128 ^ k * 128) = w + (128 * (v / 128) + v % 128) * 128 ^ k := by rw [Nat.add_mul, Nat.mul_comm 128 (v / 128), Nat.mul_assoc (v / 128) 128, Nat.mul_comm 128 (128 ^ k)]; lia
            _ = w + v * 128 ^ k := by rw [this]
        · simp; lia
theorem rd_digs {v : Nat} (h : v < 2 ^ 63) (t : List UInt8) : rd (digs v ++ t) = .ok v (digs v).length := by
  have := rdG_dig 8 v 0 0 t (by rw [show (128 : Nat) ^ (8 + 1) = 2 ^ 63 by decide]; exact h) (.inr rfl)
  rw [Nat.pow_zero, Nat.mul_one, Nat.zero_add, Nat.zero_add] at this
  exact this
theorem digs_pos (v : Nat) : 1 ≤ (digs v).length := (digF_len 8 v).1
theorem rdAll_stop (n : Nat) (l : List UInt8) {i : Nat} (h : ¬ i < l.length) : rdAll n l i = (([], "end") : List (Nat × Nat) × Str) := by
  cases n with
  | zero => rfl
  | succ n => unfold rdAll; rw [if_neg h]
theorem rdAll_digs {v : Nat} (h : v < 2 ^ 63) : rdAll (digs v ++ [0]).length (digs v ++ [0]) 0 = (([(v, (digs v).length), (0, (digs v).length + 1)], "end") : List (Nat × Nat) × Str) := by
  have hp := digs_pos v
  rw [List.length_append, List.length_singleton]
  obtain ⟨m, hm⟩ : ∃ m, (digs v).length = m + 1 := ⟨(digs v).length - 1, by lia⟩
  unfold rdAll
  rw [if_pos (by simp), List.drop_zero, rd_digs h [0]]
  dsimp only
  rw [Nat.zero_add, hm]
  unfold rdAll
  have hd : (digs v ++ [0]).drop (m + 1) = [0] := List.drop_left' hm
  rw [if_pos (by simp; lia), hd]
  have h0 : rd [0] = .ok 0 1 := rfl
  rw [h0]
  dsimp only
  rw [rdAll_stop _ _ (by simp; lia)]
theorem lay_prs : ∀ r : List (Nat × Nat), PyData.canLayAll0 (r.map prD) = true
  | [] => by simp [PyData.canLayAll0]
  | p :: r => by rw [List.map_cons]; simp [PyData.canLayAll0, PyData.canLay0, prD, lay_prs r]
theorem lay_all {r : List (Nat × Nat) × Str} (h : PyData.strOk r.2 = true) : (allD r).canLay0 = true := by simp [allD, PyData.canLay0, PyData.canLayAll0, lay_prs, h]
theorem rdAll_str : ∀ (n : Nat) (l : List UInt8) (i : Nat), PyData.strOk (rdAll n l i).2 = true
  | 0, l, i => by show PyData.strOk ("end" : Str) = true; decide +kernel
  | n + 1, l, i => by
    unfold rdAll
    split
    · split
      · show PyData.strOk ("number" : Str) = true; decide +kernel
      · show PyData.strOk ("cut" : Str) = true; decide +kernel
      · exact rdAll_str n l _
    · show PyData.strOk ("end" : Str) = true; decide +kernel
theorem depth_prs : ∀ r : List (Nat × Nat), PyData.depthAll (r.map prD) ≤ 10
  | [] => by simp [PyData.depthAll]
  | p :: r => by
    have := depth_prs r
    rw [List.map_cons]; simp [PyData.depthAll, PyData.depth, prD]; lia
theorem depth_all (r : List (Nat × Nat) × Str) : (allD r).depth ≤ 20 := by
  have := depth_prs r.1
  simp [allD, PyData.depth, PyData.depthAll]; lia

end

section
set_option tactic.hygienic false
open PySem PySem.W PyProof.Rows
variable {G : Glb} {C C' : Cx} {loc loc' : Loc} {tmp tmp' : Tmp} {mh hid l l' : MH} {s s' s₁ : Shared}
variable {X : Addr → Loc → MH → Prop} {Q : D → MH → Prop} {Rt : D → MH → Prop} {N : Loc → MH → Prop}
theorem CMP_allne {n : Nat} {PB : Bool → Prop} (CN : Can G C n) {r : List (Nat × Nat) × Str} (h : PyData.strOk r.2 = true) (hp : PB false) : CMP G C .NotEq (.dat (allD r)) (.dat (allD r)) mh PB := by
  refine CMP_ned CN (lay_all h) (lay_all h) (by have := depth_all r; lia) ?_
  rw [PySem.SeqAt.eqv_refl _ (lay_all h)]; exact hp
theorem CMP_alleq {n : Nat} {PB : Bool → Prop} (CN : Can G C n) {r : List (Nat × Nat) × Str} (h : PyData.strOk r.2 = true) (hp : PB true) : CMP G C .Eq (.dat (allD r)) (.dat (allD r)) mh PB := by
  refine CMP_eqd CN (lay_all h) (lay_all h) (by have := depth_all r; lia) ?_
  rw [PySem.SeqAt.eqv_refl _ (lay_all h)]; exact hp
theorem law_numbers_ok (P : PW G) {p : Addr} {o : AO} {k : Nat} {d : Int} (hp : IsPool k d o) (hk : k < 999980000) (hd0 : 0 ≤ d) (hd4 : d ≤ 4) {X : Addr → MH → Prop} :
    FNX G 7 (.ref 371) [.ptr p] [(p, o)] X fun r m => r = .bool true ∧ ∃ o', IsPool (k + 2000) d o' ∧ m = [(p, o')] := by
  refine (P.fun (x := "_law_numbers_right") (a := 371) (i := 37) (by decide +kernel)).ofX (ps := ["pool"]) P.ok rfl rfl rfl (by decide) (by decide) (by decide) rfl (fun fd vs a b c => by obtain ⟨x, rfl⟩ := len1 c; unfold bindArgs; rw [a, b]; kernel_rfl) fun C I CN => ?_
  refine EXX0.letR ?_; intro X₁ R₁ N₁
  refine EXX0_consA fun K' hK => (SXX.to0 ?_)
  refine SXX_forN CN I (I.sto (.inl rfl)) (fun rem loc m => Ex3 fun (dn rs : List Int) (o' : AO) => And5 ((dn ++ rs).length ≤ 6) (rem = rs.map D.int) (LS [("pool", .ptr p)] loc) (IsPool (k + 100 * dn.length) d o') (m = [(p, o')])) ?_ ?_ ?_
  · repeat walk_at "w"
    refine ITM_pool3 hp (.head _) ?_
    repeat walk_at "w"
    obtain ⟨n2, hn2⟩ : ∃ n : Nat, 2 + d = n := ⟨(2 + d).toNat, by lia⟩
    rw [hn2]
    refine BF_range1 fun r t u v => ?_
    exact ⟨_, _, ITB_range CN.hand (rng_small (by lia)) (rng_size _), [], rng 0 1 n2, o, by rw [List.nil_append, rng_len]; lia, rfl, ⟨rfl, trivial⟩, hp, rfl⟩
  · intro dd ds loc m hq1
    refine absP fun P₀ hP₀ => ?_
    obtain ⟨dn, rs, o1, e1, e2, hls, e4, e5⟩ := hq1
    refine hP₀ ?_; clear hP₀ P₀
    subst e5
    cases rs with
    | nil => cases e2
    | cons i rs =>
    rw [List.map_cons] at e2
    obtain ⟨rfl, rfl⟩ := List.cons.inj e2
    have hdl : dn.length < 6 := by rw [List.length_append, List.length_cons] at e1; lia
    walk_at "n"
    with_reducible refine EXX.weak (loc' := [("pool", .ptr p)]) ?wk1 ?wl1
    case wl1 => exact LS.get ⟨hls.1, trivial⟩
    walk_at "n"
    with_reducible refine EXX.lax ?_
    walk_at "n"
    refine EXX_consA fun K' hK => (SX.x ?_)
    repeat walk_at "w"
    refine value_to P (by decide) e4 (by lia) fun v o2 f2 f3 f4 => ?_
    have again : ∀ loc', LS [("pool", .ptr p)] loc' → ∃ l0, LS l0 loc' ∧ Ex3 fun (dn rs' : List Int) (o' : AO) => And5 ((dn ++ rs').length ≤ 6) (rs.map D.int = rs'.map D.int) (LS [("pool", .ptr p)] l0) (IsPool (k + 100 * dn.length) d o') ([(p, o2)] = [(p, o')]) := fun loc' hls => ⟨[("pool", .ptr p)], hls, dn ++ [i], rs, o2, by rw [List.append_assoc]; exact e1, rfl, ⟨rfl, trivial⟩, f4.up (by simp; lia), rfl⟩
    walk_at "n"
    refine EXX_consA fun K' hK => (SXX_tuple (names := ["due", "found"]) CN.hand (sto2 I (by first | exact .inl rfl | exact .inr rfl) (by first | exact .inl rfl | exact .inr rfl)) ?_ (by rw [I.scope]; with_unfolding_all rfl) (by intro _; with_unfolding_all rfl))
    refine EVsX_cons (EV.x ?_) (by intro _; with_unfolding_all rfl)
    repeat walk_at "w"
    refine FN.pure (by decide) (fun X => law_digits_ok P (X := X)) ?_
    repeat walk_at "x"
    refine FNX.pure (by decide) (fun X => law_written_ok P (X := X)) ?_
    repeat walk_at "x"
    refine ⟨by rw [sizeLine_eq]; simp, rfl, ?_⟩
    unfold digD
    by_cases hv : 0 ≤ v ∧ v < 2 ^ 63
    · rw [if_pos hv]
      obtain ⟨nv, rfl⟩ : ∃ n : Nat, v = n := ⟨v.toNat, by lia⟩
      rw [Int.toNat_natCast]
      have hz := digs_le nv
      have hnv : nv < 2 ^ 63 := by lia
      walk_at "n"
      with_reducible refine EXX.weak (loc' := [("value", .int (nv : Nat)), ("due", .bytes (digs nv)), ("found", .bytes (digs nv)), ("pool", .ptr p)]) ?wk2 ?wl2
      case wl2 => exact LS.get ⟨rfl, rfl, rfl, rfl, trivial⟩
      walk_at "n"
      refine EXX_consA fun K' hK => (SX.x (SX_if ?_))
      repeat walk_at "w"
      refine CMP_nebs ?_
      rw [show (digs nv != digs nv) = false by simp]
      repeat walk_at "w"
      refine CMP_isnot (c := false) (fun u₀ u₀ u₀ x => none_bytes x) ?_
      repeat walk_at "w"
      refine BF_isinst (fun u₀ u₀ u₀ => ii_bytes_bytes) ?_
      repeat walk_at "w"
      walk_at "n"
      refine EXX_consA fun K' hK => (SX.x (SX_if ?_))
      repeat walk_at "w"
      refine CMP_isnot (c := false) (fun u₀ u₀ u₀ x => none_bytes x) ?_
      repeat walk_at "w"
      refine OP_addb (by simp; lia) ?_
      repeat walk_at "w"
      refine FN.pure (by decide) (fun X => law_told_ok P (by simp; lia) (X := X)) ?_
      rw [rdAll_digs hnv]
      refine EV_tuple ?_
      refine EVs_cons (EV_list_dat ?_) (by intro _; with_unfolding_all rfl)
      refine EVs_cons (EV_tuple ?_) (by intro _; with_unfolding_all rfl)
      repeat walk_at "w"
      refine BF_len_bytes (by lia) ?_
      repeat walk_at "w"
      refine ⟨by rw [sizeLine_eq]; simp, [.int (nv : Nat), .int ((digs nv).length : Nat)], rfl, ?_⟩
      refine EVs_cons (EV_tuple ?_) (by intro _; with_unfolding_all rfl)
      repeat walk_at "w"
      refine BF_len_bytes (by lia) ?_
      repeat walk_at "w"
      refine ⟨by rw [sizeLine_eq]; simp, [.int 0, .int (((digs nv).length : Nat) + 1)], rfl, ?_⟩
      repeat walk_at "w"
      refine ⟨by rw [sizeLine_eq]; simp, [.tuple [.int (nv : Nat), .int ((digs nv).length : Nat)], .tuple [.int 0, .int (((digs nv).length : Nat) + 1)]], rfl, ?_⟩
      repeat walk_at "w"
      refine ⟨by rw [sizeLine_eq]; simp, [.list [.tuple [.int (nv : Nat), .int ((digs nv).length : Nat)], .tuple [.int 0, .int (((digs nv).length : Nat) + 1)]], .str "end"], rfl, ?_⟩
      refine CMP_allne (r := ([(nv, (digs nv).length), (0, (digs nv).length + 1)], "end")) CN (by show PyData.strOk ("end" : Str) = true; decide +kernel) ?_
      repeat walk_at "w"
      walk_at "n"
      exact EXX_nil (again _ ⟨rfl, trivial⟩)
    · rw [if_neg hv]
      walk_at "n"
      with_reducible refine EXX.weak (loc' := [("value", .int v), ("due", .none), ("found", .none), ("pool", .ptr p)]) ?wk3 ?wl3
      case wl3 => exact LS.get ⟨rfl, rfl, rfl, rfl, trivial⟩
      walk_at "n"
      refine EXX_consA fun K' hK => (SX.x (SX_if ?_))
      repeat walk_at "w"
      refine CMP_ned CN rfl rfl (by decide) ?_
      rw [show (!PyData.eqv .none .none) = false by rfl]
      repeat walk_at "w"
      refine CMP_isnot (c := true) (fun u₀ u₀ u₀ x => none_none x) ?_
      repeat walk_at "w"
      walk_at "n"
      refine EXX_consA fun K' hK => (SX.x (SX_if ?_))
      repeat walk_at "w"
      refine CMP_isnot (c := true) (fun u₀ u₀ u₀ x => none_none x) ?_
      repeat walk_at "w"
      walk_at "n"
      exact EXX_nil (again _ ⟨rfl, trivial⟩)
  · intro loc m hq2
    refine absP fun P₀ hP₀ => ?_
    obtain ⟨dn, rs, o1, e1, e2, hls, e4, e5⟩ := hq2
    refine hP₀ ?_; clear hP₀ P₀
    walk_at "n"
    subst e5
    cases rs with
    | cons i rs => cases e2
    | nil =>
    rw [List.append_nil] at e1
    walk_at "n"
    refine EXX0.weak (loc' := [("pool", .ptr p)]) ?_ hls.get
    walk_at "n"
    refine EXX0_consA fun K' hK => (SXX.to0 ?_)
    refine SXX_forN CN I (I.sto (.inl rfl)) (fun rem loc m => Ex3 fun (dn rs : List Int) (o' : AO) => And5 ((dn ++ rs).length ≤ 3) (rem = rs.map D.int) (LS [("pool", .ptr p)] loc) (IsPool (k + 600 + 200 * dn.length) d o') (m = [(p, o')])) ?_ ?_ ?_
    · repeat walk_at "w"
      refine ITM_pool3 e4 (.head _) ?_
      repeat walk_at "w"
      refine OP_floordiv (by decide) (by decide) ?_
      repeat walk_at "w"
      have hd2 : 0 ≤ d.fdiv 2 ∧ d.fdiv 2 ≤ 2 := by rw [Int.fdiv_eq_ediv_of_nonneg _ (by decide)]; lia
      obtain ⟨n2, hn2⟩ : ∃ n : Nat, 1 + d.fdiv 2 = n := ⟨(1 + d.fdiv 2).toNat, by lia⟩
      rw [hn2]
      refine BF_range1 fun r t u v => ?_
      exact ⟨_, _, ITB_range CN.hand (rng_small (by lia)) (rng_size _), [], rng 0 1 n2, o1, by rw [List.nil_append, rng_len]; lia, rfl, ⟨rfl, trivial⟩, e4.up (by simp; lia), rfl⟩
    · intro dd ds loc m hq3
      refine absP fun P₀ hP₀ => ?_
      obtain ⟨dn, rs, o2, e1, e2, hls, e4, e5⟩ := hq3
      refine hP₀ ?_; clear hP₀ P₀
      subst e5
      cases rs with
      | nil => cases e2
      | cons i rs =>
      rw [List.map_cons] at e2
      obtain ⟨rfl, rfl⟩ := List.cons.inj e2
      have hdl : dn.length < 3 := by rw [List.length_append, List.length_cons] at e1; lia
      walk_at "n"
      with_reducible refine EXX.weak (loc' := [("pool", .ptr p)]) ?wk4 ?wl4
      case wl4 => exact LS.get ⟨hls.1, trivial⟩
      walk_at "n"
      with_reducible refine EXX.lax ?_
      walk_at "n"
      refine EXX_consA fun K' hK => (SX.x ?_)
      repeat walk_at "w"
      refine stream_to P (by decide) e4 (by lia) hd0 hd4 fun l o3 f2 f3 => ?_
      walk_at "n"
      refine EXX_consA fun K' hK => (SX.x (SX_if ?_))
      repeat walk_at "w"
      refine FN.pure (by decide) (fun X => law_told_ok P (by lia) (X := X)) ?_
      repeat walk_at "w"
      refine FN.pure (by decide) (fun X => law_all_ok P (by lia) (X := X)) ?_
      refine CMP_allne CN (rdAll_str _ _ _) ?_
      repeat walk_at "w"
      walk_at "n"
      exact EXX_nil ⟨[("pool", .ptr p)], ⟨rfl, trivial⟩, dn ++ [i], rs, o3, by rw [List.append_assoc]; exact e1, rfl, ⟨rfl, trivial⟩, f3.up (by simp; lia), rfl⟩
    · intro loc m hq4
      refine absP fun P₀ hP₀ => ?_
      obtain ⟨dn, rs, o2, e1, e2, hls, e4, e5⟩ := hq4
      refine hP₀ ?_; clear hP₀ P₀
      walk_at "n"
      subst e5
      cases rs with
      | cons i rs => cases e2
      | nil =>
      rw [List.append_nil] at e1
      walk_at "n"
      refine EXX0.weak (loc' := [("pool", .ptr p)]) ?_ hls.get
      walk_at "n"
      refine EXX0_consA fun K' hK => (SXX.to0 (SX.x ?_))
      repeat walk_at "w"
      refine FN.pure (by decide) (fun X => law_told_ok P (by decide) (X := X)) ?_
      refine EV_tuple ?_
      refine EVs_cons (EV_list_dat ?_) (by intro _; with_unfolding_all rfl)
      repeat walk_at "w"
      refine ⟨Nat.zero_le _, [], rfl, ?_⟩
      repeat walk_at "w"
      refine ⟨by rw [sizeLine_eq]; simp, [.list [], .str "end"], rfl, ?_⟩
      refine CMP_alleq (r := ([], "end")) CN (by decide +kernel) ?_
      exact ⟨rfl, o2, e4.up (by lia), rfl⟩

end

section
set_option tactic.hygienic false
open PySem PySem.W PyProof.Rows
variable {G : Glb} {C C' : Cx} {loc loc' : Loc} {tmp tmp' : Tmp} {mh hid l l' : MH} {s s' s₁ : Shared}
variable {X : Addr → Loc → MH → Prop} {Q : D → MH → Prop} {Rt : D → MH → Prop} {N : Loc → MH → Prop}
theorem FNX.loose {n : Nat} {f : Value} {ds : List D} {X X' : Addr → MH → Prop} {Q Q' : D → MH → Prop} (h : FNX G n f ds mh X Q) (hq : ∀ d m, Q d m → ∃ g m0, m.Perm (g ++ m0) ∧ Q' d m0) (hx : ∀ c m, X c m → ∃ g m0, m.Perm (g ++ m0) ∧ X' c m0) : FNX G n f ds mh X' Q' :=
  fun C loc tmp hid s vs c R V => codeX_mono (h C loc tmp hid s vs c R V) fun r s' q => by
    cases r with
    | ok f => cases f with
      | ret v =>
        refine absP fun P₀ hP₀ => ?_
        obtain ⟨d, m, R', q⟩ := q
        refine hP₀ ?_; clear hP₀ P₀
        refine absP fun P₀ hP₀ => ?_
        obtain ⟨g, m0, P, q'⟩ := hq d m q
        refine hP₀ ?_; clear hP₀ P₀
        refine ⟨d, m0, ?_, q'⟩
        have R2 := R'.perm (P.append_right hid)
        rw [List.append_assoc] at R2
        have V2 := R2.top
        refine (R2.dropAll (l := g)).withTmp fun p hp => ?_
        exact (R2.dropAll (l := g)).tmp p hp
      | _ => exact q
    | error v => exact EErr.loose (fun c l m hq1 => by obtain ⟨e, z⟩ := hq1; exact let ⟨g, m0, P, q⟩ := hx c m z; ⟨g, m0, P, e, q⟩) q
theorem FNX.frame {n : Nat} {f : Value} {ds : List D} {X : Addr → MH → Prop} {Q : D → MH → Prop} (h : FNX G n f ds mh X Q) {mh' rest : MH} (P : mh'.Perm (mh ++ rest)) {Q' : D → MH → Prop} {X' : Addr → MH → Prop}
    (hq : ∀ d m, Q d m → Q' d (m ++ rest)) (hx : ∀ c m, X c m → X' c (m ++ rest)) : FNX G n f ds mh' X' Q' := fun C loc tmp hid s vs c R V => by
  have P' : (mh' ++ hid).Perm (mh ++ (rest ++ hid)) := by rw [← List.append_assoc]; exact P.append_right hid
  have R' := R.perm P'
  have V' : VDs s.heap (MM C (mh ++ (rest ++ hid))) vs ds := V.mono (.of (fun u₀ u₀ u₀ e => e) fun b h => .inl ((List.mem_append.mp h).elim (fun q => List.mem_append_left _ q) fun q => List.mem_append_right _ ((P'.flatMap_right foot).mem_iff.mpr q)))
  refine codeX_mono (h C loc tmp (rest ++ hid) s vs c R' V') fun r s' q => ?_
  cases r with
  | ok f => cases f with
    | ret v => obtain ⟨d, m, a, b⟩ := q; exact ⟨d, m ++ rest, by rw [List.append_assoc]; exact a, hq _ _ b⟩
    | _ => exact q
  | error v => obtain ⟨e, c, T, l, m, a, b, z⟩ := q; exact ⟨e, c, T, l, m ++ rest, a, by simpa using b, z.1, hx _ _ z.2⟩
theorem FNX.at0 {n : Nat} {f : Value} {ds : List D} {p : Addr} {o : AO} {mh2 : MH} {X0 X : Addr → MH → Prop} {R0 Q : D → MH → Prop} (h : FNX G n f ds [(p, o)] X0 R0)
    (hq : ∀ r m, R0 r m → ∃ o', m = [(p, o')] ∧ Q r ((p, o') :: mh2)) (hx : ∀ c m, X0 c m → ∃ o', m = [(p, o')] ∧ X c ((p, o') :: mh2)) : FNX G n f ds ((p, o) :: mh2) X Q :=
  h.frame (mh' := (p, o) :: mh2) (rest := mh2) (List.Perm.refl _) (fun r m z => by obtain ⟨o', rfl, q⟩ := hq r m z; exact q) (fun c m z => by obtain ⟨o', rfl, q⟩ := hx c m z; exact q)
theorem MCX_m {n : Nat} {a Cl dx f : Addr} {i j : Nat} {fs : List (Str × D)} {x : Str} {pos : Pos} {e : Expr} {args : List Expr} {Pq : D → MH → Prop} (P : PW G) (CN : Can G C n) (hm : (Cl, x, f, i, j) ∈ methTab) (hi : (a, AO.inst Cl dx fs) ∈ mh) (hx : fs.lookup x = none)
    (h : EVsX G C loc mh (e :: args) X fun ds m => FNX G n (.ref f) (.ptr a :: ds) m (fun c m' => X c loc m') Pq) (hplain : ∀ env, starEach (e :: args) env = (false, eval e env) :: starEach args env := by intro _; rfl) : MCX G C (.ptr a) x pos (e :: args) loc mh X Pq := by
  obtain ⟨T, F⟩ := P.mth _ hm
  obtain ⟨fd, A, _⟩ := F.ex
  exact MCX_own P.ok CN T A hi hx h hplain

end

section
set_option tactic.hygienic false
open PySem PySem.W PyProof.Rows
variable {G : Glb} {C C' : Cx} {loc loc' : Loc} {tmp tmp' : Tmp} {mh hid l l' : MH} {s s' s₁ : Shared}
variable {X : Addr → Loc → MH → Prop} {Q : D → MH → Prop} {Rt : D → MH → Prop} {N : Loc → MH → Prop}
theorem bne_self (l : List UInt8) : (l != l) = false := by simp
theorem cut_take {α : Type} (l : List α) (n : Nat) : cut l none (some (n : Int)) = l.take n := by
  unfold cut
  show (l.drop 0).take (clipAt l.length n - 0) = _
  rw [List.drop_zero, Nat.sub_zero]
  have : clipAt l.length n = min n l.length := clip_nn _ n
  rw [this]
  by_cases h : n ≤ l.length
  · rw [Nat.min_eq_left h]
  · rw [Nat.min_eq_right (by lia), List.take_length, List.take_of_length_le (by lia)]
theorem law_deltas_ok (P : PW G) {p : Addr} {o : AO} {k : Nat} {d : Int} (hp : IsPool k d o) (hk : k < 999980000) (hd0 : 0 ≤ d) (hd4 : d ≤ 4) {X : Addr → MH → Prop} :
    FNX G 8 (.ref 402) [.ptr p] [(p, o)] X fun r m => r = .bool true ∧ ∃ o', IsPool (k + 2000) d o' ∧ m = [(p, o')] := by
  refine FNX.loose (Q := fun r m => ∃ g o', r = .bool true ∧ IsPool (k + 2000) d o' ∧ m = g ++ [(p, o')]) (X := X) ?_ (fun r m hq7 => by obtain ⟨g, o', e1, e2, e3⟩ := hq7; exact ⟨g, [(p, o')], by rw [e3], e1, o', e2, rfl⟩) (fun c m z => ⟨[], m, List.Perm.refl _, z⟩)
  refine (P.fun (x := "_law_deltas_right") (a := 402) (i := 42) (by decide +kernel)).ofX (ps := ["pool"]) P.ok rfl rfl rfl (by decide) (by decide) (by decide) rfl (fun fd vs a b c => by obtain ⟨x, rfl⟩ := len1 c; unfold bindArgs; rw [a, b]; kernel_rfl) fun C I CN => ?_
  refine EXX0.letR ?_; intro X₁ R₁ N₁
  refine EXX0_consA fun K' hK => (SXX.to0 (SX.x (SX_tuple (names := ["text", "gaps"]) CN.hand (sto2 I (by first | exact .inl rfl | exact .inr rfl) (by first | exact .inl rfl | exact .inr rfl)) ?_ (by rw [I.scope]; with_unfolding_all rfl) (by intro _; with_unfolding_all rfl))))
  repeat walk_at "w"
  refine text_to P (by decide) hp (by lia) hd0 hd4 fun t o1 ht p1 => ?_
  walk_at "w"
  refine EV_comp (CompOk.of (locF := [("pool", .ptr p)]) I rfl (by decide) (by decide) (by decide) (by decide) ?_) CN.hand (by rw [I.scope]; rfl)
    (fun rem acc m => ∃ (dn rs gs : List Int) (o' : AO), (dn ++ rs).length ≤ 3 ∧ rem = rs.map D.int ∧ acc = gs.map PyData.int ∧ (∀ g ∈ gs, 1 ≤ g ∧ g ≤ 256) ∧ gs.length = dn.length ∧ IsPool (k + 110 + 20 * dn.length) d o' ∧ m = [(p, o')]) ?_ ?_ ?_ (by intro _ _; with_unfolding_all rfl)
  · intro q hq
    rw [List.mem_singleton.mp hq]; exact ⟨rfl, by show (("pool" : Str), NameKind.free) ∈ _; decide⟩
  · repeat walk_at "w"
    refine ITM_pool3 p1 (.head _) ?_
    repeat walk_at "w"
    refine BF_min CN.hand ?_
    repeat walk_at "w"
    have hm : (if d < 2 then d else 2) ≤ 2 ∧ 0 ≤ (if d < 2 then d else 2) := by split <;> lia
    generalize (if d < 2 then d else 2) = y at hm
    refine take0 P p1 (by lia) (by lia) (by lia) fun v2 o2 a2 b2 p2 => ?_
    repeat walk_at "w"
    obtain ⟨n2, rfl⟩ : ∃ n : Nat, v2 = n := ⟨v2.toNat, by lia⟩
    refine BF_range1 fun r t u v => ?_
    exact ⟨_, _, ITB_range CN.hand (rng_small (by lia)) (rng_size _), ⟨[], rng 0 1 n2, [], o2, by rw [List.nil_append, rng_len]; lia, rfl, rfl, (fun n h => nomatch h), rfl, p2.up (by simp only [List.length_nil]; lia), rfl⟩, by rw [List.length_map, rng_len]; lia⟩
  · intro C2 S dd rem acc m hq1
    refine absP fun P₀ hP₀ => ?_
    obtain ⟨dn, rs, gs, o', e1, e2, e3, e4, e5, e6, e7⟩ := hq1
    refine hP₀ ?_; clear hP₀ P₀
    subst e7
    cases rs with
    | nil => cases e2
    | cons i rs =>
    rw [List.map_cons] at e2
    obtain ⟨rfl, rfl⟩ := List.cons.inj e2
    have hdl : dn.length < 3 := by rw [List.length_append, List.length_cons] at e1; lia
    have I2 := S.sc I
    have CN2 := S.can CN
    refine ⟨fun u₀ => ?_, fun h => absurd h (by decide)⟩
    repeat walk_at "w"
    refine gap_to P (by decide) e6 (by lia) fun v o3 f2 f3 f4 => ?_
    refine ⟨_, rfl, dn ++ [i], rs, gs ++ [v], o3, by rw [List.append_assoc]; exact e1, rfl, by rw [e3, List.map_append]; rfl, fun n hn => ?_, by simp [e5], f4.up (by simp; lia), rfl⟩
    rcases List.mem_append.mp hn with hn | hn
    · exact e4 n hn
    · rw [List.mem_singleton.mp hn]; exact ⟨f2, f3⟩
  intro xs m hq2
  refine absP fun P₀ hP₀ => ?_
  obtain ⟨dn, rs, gs, o2, e1, e2, e3, hg, e5, p2, e7⟩ := hq2
  refine hP₀ ?_; clear hP₀ P₀
  subst e7
  cases rs with
  | cons i rs => cases e2
  | nil =>
  rw [List.append_nil] at e1
  subst e3
  have hgl : gs.length ≤ 3 := by lia
  repeat walk_at "w"
  refine ⟨by rw [sizeLine_eq]; simp, rfl, ?_⟩
  walk_at "n"
  with_reducible refine EXX0.weak (loc' := [("pool", .ptr p), ("text", .bytes t), ("gaps", .dat (.list (gs.map .int)))]) ?wk1 ?wl1
  case wl1 => exact LS.get ⟨rfl, rfl, rfl, trivial⟩
  walk_at "n"
  refine EXX0_consA fun K' hK => (SXX.to0 ?_)
  refine SXX_forN CN I (I.sto (.inl rfl)) (fun rem loc m => Ex2 fun (rs : List Int) (o' : AO) => And5 (rem = rs.map D.int) ((∀ g ∈ rs, 1 ≤ g ∧ g ≤ 256)) (LS [("pool", .ptr p), ("text", .bytes t), ("gaps", .dat (.list (gs.map .int)))] loc) (IsPool (k + 300) d o') (m = [(p, o')])) ?_ ?_ ?_
  · repeat walk_at "w"
    refine EV_list_dat ?_
    repeat walk_at "w"
    refine gap_to P (by decide) p2 (by lia) fun v o3 f2 f3 f4 => ?_
    repeat walk_at "w"
    refine ⟨by rw [sizeLine_eq]; simp, [.int v], rfl, ?_⟩
    refine OP_addl (by simp; lia) ?_
    rw [show (gs.map PyData.int ++ [PyData.int v]) = (gs ++ [v]).map PyData.int by rw [List.map_append]; rfl]
    refine ⟨_, _, ITB_list CN.hand, gs ++ [v], o3, by rw [List.map_map]; rfl, fun g h => ?_, ⟨rfl, rfl, rfl, trivial⟩, f4.up (by lia), rfl⟩
    rcases List.mem_append.mp h with h | h
    · exact hg g h
    · rw [List.mem_singleton.mp h]; exact ⟨f2, f3⟩
  · intro dd ds loc m hq3
    refine absP fun P₀ hP₀ => ?_
    obtain ⟨rs, o', e2, hr, hls, e4, e5⟩ := hq3
    refine hP₀ ?_; clear hP₀ P₀
    subst e5
    cases rs with
    | nil => cases e2
    | cons g rs =>
    rw [List.map_cons] at e2
    obtain ⟨rfl, rfl⟩ := List.cons.inj e2
    obtain ⟨n, rfl⟩ : ∃ n : Nat, g = n := ⟨g.toNat, by have := (hr g (.head _)).1; lia⟩
    have hn := hr (n : Int) (.head _)
    have hn1 : 1 ≤ n := by lia
    have hn2 : n ≤ 256 := by lia
    walk_at "n"
    with_reducible refine EXX.weak (loc' := [("gap", .int (n : Nat)), ("pool", .ptr p), ("text", .bytes t), ("gaps", .dat (.list (gs.map .int)))]) ?wk2 ?wl2
    case wl2 => exact LS.get ⟨rfl, hls.1, hls.2.1, hls.2.2.1, trivial⟩
    walk_at "n"
    with_reducible refine EXX.lax ?_
    walk_at "n"
    refine EXX_consA fun K' hK => (SX.x (SX_tuple (names := ["apart", "totals"]) CN.hand (sto2 I (by first | exact .inl rfl | exact .inr rfl) (by first | exact .inl rfl | exact .inr rfl)) ?_ (by rw [I.scope]; with_unfolding_all rfl) (by intro _; with_unfolding_all rfl)))
    repeat walk_at "w"
    refine FN.pure (by decide) (fun X => law_apart_ok P hn1 hn2 (by lia) (X := X)) ?_
    repeat walk_at "w"
    refine FN.pure (by decide) (fun X => law_apart_ok P hn1 hn2 (by lia) (X := X)) ?_
    repeat walk_at "w"
    refine ⟨by rw [sizeLine_eq]; simp, rfl, ?_⟩
    have hpk : apt false n t = pk n t := rfl
    have hup : apt true n t = up n t := rfl
    rw [hpk, hup]
    have l1 := pk_len n t
    have l2 := up_len hn1 t
    walk_at "n"
    with_reducible refine EXX.weak (loc' := [("apart", .bytes (pk n t)), ("totals", .bytes (up n t)), ("gap", .int (n : Nat)), ("pool", .ptr p), ("text", .bytes t), ("gaps", .dat (.list (gs.map .int)))]) ?wk3 ?wl3
    case wl3 => exact LS.get ⟨rfl, rfl, rfl, rfl, rfl, rfl, trivial⟩
    walk_at "n"
    refine EXX_consA fun K' hK => (SXX_if ?_)
    repeat walk_at "x"
    refine FN.pure (by decide) (fun X => delta_packed_ok P hn1 hn2 (by lia) (X := X)) ?_
    repeat walk_at "x"
    refine CMP_nebs ?_
    rw [bne_self]
    repeat walk_at "x"
    refine FNX.pure (by decide) (fun X => delta_unpacked_ok P hn1 hn2 (by lia) (X := X)) ?_
    repeat walk_at "x"
    refine CMP_nebs ?_
    rw [bne_self]
    repeat walk_at "x"
    refine FNX.pure (by decide) (fun X => delta_unpacked_ok P hn1 hn2 (by lia) (X := X)) ?_
    repeat walk_at "x"
    refine CMP_nebs ?_
    rw [up_pk hn1, bne_self]
    repeat walk_at "x"
    refine FN.pure (by decide) (fun X => delta_packed_ok P hn1 hn2 (by lia) (X := X)) ?_
    repeat walk_at "x"
    refine CMP_nebs ?_
    rw [pk_up hn1, bne_self]
    repeat walk_at "x"
    exact ⟨[("pool", .ptr p), ("text", .bytes t), ("gaps", .dat (.list (gs.map .int)))], ⟨rfl, rfl, rfl, trivial⟩, rs, o', rfl, fun g h => hr g (.tail _ h), ⟨rfl, rfl, rfl, trivial⟩, e4, rfl⟩
  · intro loc m hq4
    refine absP fun P₀ hP₀ => ?_
    obtain ⟨rs, o3, e2, hr, hls, p3, e5⟩ := hq4
    refine hP₀ ?_; clear hP₀ P₀
    walk_at "n"
    subst e5
    walk_at "n"
    refine EXX0.weak (loc' := [("pool", .ptr p), ("text", .bytes t), ("gaps", .dat (.list (gs.map .int)))]) ?_ hls.get
    walk_at "n"
    refine EXX0_consA fun K' hK => (SXX.to0 (SX.x (SX_tuple (names := ["due", "own"]) CN.hand (sto2 I (by first | exact .inl rfl | exact .inr rfl) (by first | exact .inl rfl | exact .inr rfl)) ?_ (by rw [I.scope]; with_unfolding_all rfl) (by intro _; with_unfolding_all rfl))))
    repeat walk_at "w"
    refine EV_new (n := 4) P.ok (CN.less (by decide)) ((I.kindOf _).trans (by rfl)) (P.cls (("PackingChain" : Str), 206) (by decide)) P.makes.2.1 ?_ (by decide) (by intro _; with_unfolding_all rfl)
    repeat walk_at "w"
    intro x dx
    refine FN.pure (by decide) (fun X => chain_init P (.inl rfl) hgl hg (X := X)) ⟨rfl, ?_⟩
    repeat walk_at "w"
    refine ⟨by rw [sizeLine_eq]; simp, rfl, ?_⟩
    walk_at "n"
    with_reducible refine EXX0.weak (loc' := [("due", .bytes t), ("own", .ptr x), ("pool", .ptr p), ("text", .bytes t), ("gaps", .dat (.list (gs.map .int)))]) ?wk4 ?wl4
    case wl4 => exact LS.get ⟨rfl, rfl, rfl, rfl, rfl, trivial⟩
    walk_at "n"
    refine EXX0_consA fun K' hK => (SXX.to0 (SX.x ?_))
    refine SX_for CN I (I.sto (.inl rfl)) (fun rem loc m => Ex2 fun (rs : List Int) (u : List UInt8) => And6 (rem = rs.map D.int) ((∀ g ∈ rs, 1 ≤ g ∧ g ≤ 256)) (LS [("due", .bytes u), ("own", .ptr x), ("pool", .ptr p), ("text", .bytes t), ("gaps", .dat (.list (gs.map .int)))] loc) (pks rs u = pks gs t) (u.length ≤ 100) (m = [(x, chA 206 gs 4096 dx), (p, o3)])) ?_ ?_ ?_ (by intro _ _; with_unfolding_all rfl)
    · repeat walk_at "w"
      exact ⟨_, _, ITB_list CN.hand, gs, t, by rw [List.map_map]; rfl, hg, ⟨rfl, rfl, rfl, rfl, rfl, trivial⟩, rfl, ht, rfl⟩
    · intro dd ds loc m hq5
      refine absP fun P₀ hP₀ => ?_
      obtain ⟨rs, u, e2, hr, hls, e3, e4, e5⟩ := hq5
      refine hP₀ ?_; clear hP₀ P₀
      subst e5
      cases rs with
      | nil => cases e2
      | cons g rs =>
      rw [List.map_cons] at e2
      obtain ⟨rfl, rfl⟩ := List.cons.inj e2
      obtain ⟨n, rfl⟩ : ∃ n : Nat, g = n := ⟨g.toNat, by have := (hr g (.head _)).1; lia⟩
      have hn := hr (n : Int) (.head _)
      walk_at "n"
      with_reducible refine EX.weak (loc' := [("gap", .int (n : Nat)), ("due", .bytes u), ("own", .ptr x), ("pool", .ptr p), ("text", .bytes t), ("gaps", .dat (.list (gs.map .int)))]) ?wk5 ?wl5
      case wl5 => exact LS.get ⟨rfl, hls.1, hls.2.1, hls.2.2.1, hls.2.2.2.1, hls.2.2.2.2.1, trivial⟩
      walk_at "n"
      with_reducible refine EX.lax ?_
      repeat walk_at "w"
      refine FN.pure (by decide) (fun X => law_apart_ok P (show 1 ≤ n by lia) (by lia) (by lia) (X := X)) ?_
      walk_at "n"
      exact EX_nil ⟨[("due", .bytes (pk n u)), ("own", .ptr x), ("pool", .ptr p), ("text", .bytes t), ("gaps", .dat (.list (gs.map .int)))], ⟨rfl, rfl, rfl, rfl, rfl, trivial⟩, rs, pk n u, rfl, fun g h => hr g (.tail _ h), ⟨rfl, rfl, rfl, rfl, rfl, trivial⟩, e3, by rw [pk_len]; exact e4, rfl⟩
    · intro loc m hq6
      refine absP fun P₀ hP₀ => ?_
      obtain ⟨rs, u, e2, hr, hls, e3, e4, e5⟩ := hq6
      refine hP₀ ?_; clear hP₀ P₀
      walk_at "n"
      subst e5
      cases rs with
      | cons g rs => cases e2
      | nil =>
      have e3' : u = pks gs t := e3
      subst e3'
      walk_at "n"
      refine EXX0.weak (loc' := [("due", .bytes (pks gs t)), ("own", .ptr x), ("pool", .ptr p), ("text", .bytes t), ("gaps", .dat (.list (gs.map .int)))]) ?_ hls.get
      walk_at "n"
      refine EXX0_consA fun K' hK => (SXX.to0 (SXX_if ?_))
      repeat walk_at "x"
      refine EV.x (EV_meth ?_ (by intro _; exact ⟨_, rfl⟩))
      repeat walk_at "w"
      refine MC_m P CN (i := 21) (j := 1) (f := 203) (by decide) (.head _) rfl ?_ (by intro _; with_unfolding_all rfl)
      repeat walk_at "w"
      refine FN.at (mh1 := []) ((chain_ahead P hgl hg (by lia) (X := fun u₀ u₀ => False)).more (by decide)) (fun d m ⟨f1, f2⟩ => ⟨_, f2, ?_⟩) fun c m z => z.elim
      subst f1
      repeat walk_at "x"
      refine CMP_nebs ?_
      rw [bne_self]
      repeat walk_at "x"
      refine EVX_meth ?_ (by intro _; exact ⟨_, rfl⟩)
      repeat walk_at "x"
      refine MCX_m P CN (i := 20) (j := 2) (f := 175) (by decide) (.head _) rfl ?_ (by intro _; with_unfolding_all rfl)
      repeat walk_at "x"
      refine FNX.at0 ((chain_back P hgl hg (by lia) (X := fun u₀ u₀ => False)).more (by decide)) (fun d m ⟨f1, f2⟩ => ⟨_, f2, ?_⟩) fun c m z => z.elim
      subst f1
      rw [ups_pks t hg]
      repeat walk_at "x"
      refine CMP_nebs ?_
      rw [bne_self]
      repeat walk_at "x"
      refine EV.x (EV_meth ?_ (by intro _; exact ⟨_, rfl⟩))
      repeat walk_at "w"
      refine MC_m0 P CN (i := 20) (j := 1) (f := 168) (by decide) (.head _) rfl ?_
      refine FN.at (mh1 := []) ((chain_count P (by lia) (X := fun u₀ u₀ => False)).more (by decide)) (fun d m ⟨f1, f2⟩ => ⟨_, f2, ?_⟩) fun c m z => z.elim
      subst f1
      repeat walk_at "x"
      refine BF_len_list (by rw [List.length_map]; lia) ?_
      rw [List.length_map]
      repeat walk_at "x"
      rw [show (((gs.length : Int) + 1) != (gs.length : Int) + 1) = false by simp]
      repeat walk_at "x"
      refine EV.x (EV_itemT ?_ (by intro _ _; with_unfolding_all rfl))
      refine EV_list_dat ?_
      repeat walk_at "w"
      refine OP_pow (by decide) (by decide) ?_
      repeat walk_at "w"
      refine ⟨by rw [sizeLine_eq]; simp, [.int 0, .int 257, .int (-1), .int (256 + 10 ^ (20 : Int).toNat), .none, .str "1"], rfl, ?_⟩
      repeat walk_at "w"
      refine take1 P p3 (by lia) (by decide) (by decide) fun v4 o4 a4 b4 p4 => ?_
      obtain ⟨xo, hx, hodd⟩ : ∃ xo : PyData, ([.int 0, .int 257, .int (-1), .int (256 + 10 ^ (20 : Int).toNat), .none, .str "1"] : List PyData)[v4.toNat]? = some xo ∧ OddD (.dat xo) := by
        rcases (show v4 = 0 ∨ v4 = 1 ∨ v4 = 2 ∨ v4 = 3 ∨ v4 = 4 ∨ v4 = 5 by lia) with rfl | rfl | rfl | rfl | rfl | rfl
        · exact ⟨_, rfl, .inl ⟨0, rfl, by decide⟩⟩
        · exact ⟨_, rfl, .inl ⟨257, rfl, by decide⟩⟩
        · exact ⟨_, rfl, .inl ⟨-1, rfl, by decide⟩⟩
        · exact ⟨_, rfl, .inl ⟨_, rfl, by decide⟩⟩
        · exact ⟨_, rfl, .inr (.inl rfl)⟩
        · exact ⟨_, rfl, .inr (.inr ⟨_, rfl⟩)⟩
      refine ITM_list_dat a4 (by lia) hx ?_
      walk_at "n"
      with_reducible refine EXX0.weak (loc' := [("odd", .dat xo), ("gaps", .dat (.list (gs.map .int)))]) ?wk6 ?wl6
      case wl6 => exact LS.get ⟨rfl, rfl, trivial⟩
      walk_at "n"
      refine EXX0_consA fun K' hK => (SXX.to0 (SXX_if ?_))
      repeat walk_at "x"
      refine FNX.pure (by decide) (fun X => law_refused_ok P (.pack hodd) (X := X)) ?_
      repeat walk_at "x"
      refine FNX.pure (by decide) (fun X => law_refused_ok P (.unpack hodd) (X := X)) ?_
      repeat walk_at "x"
      refine EVX_and ?_
      repeat walk_at "x"
      refine EV.x (EV_list_dat ?_)
      repeat walk_at "w"
      refine ⟨by rw [sizeLine_eq]; simp, [xo], rfl, ?_⟩
      repeat walk_at "x"
      refine FNX.pure (by decide) (fun X => law_refused_ok P (.odd (gs := []) (by decide) (fun g h => nomatch h) hodd) (X := X)) ?_
      repeat walk_at "x"
      refine EVX_and ?_
      repeat walk_at "x"
      refine EV.x ?_
      repeat walk_at "w"
      refine SLC_list (by rw [List.length_map]; lia) ?_
      rw [show cut (gs.map PyData.int) none (some 2) = (gs.take 2).map PyData.int from (cut_take (gs.map PyData.int) 2).trans List.map_take.symm]
      refine EV.x (EV_list_dat ?_)
      repeat walk_at "w"
      refine ⟨by rw [sizeLine_eq]; simp, [xo], rfl, ?_⟩
      refine OP_addl (by simp; lia) ?_
      repeat walk_at "x"
      refine FNX.pure (by decide) (fun X => law_refused_ok P (.odd (gs := gs.take 2) (by rw [List.length_take]; lia) (fun g h => hg g (List.mem_of_mem_take h)) hodd) (X := X)) ?_
      repeat walk_at "x"
      refine EVX_bool_one ?_
      repeat walk_at "x"
      refine EV.x (EV_list_dat ?_)
      repeat walk_at "w"
      refine ⟨by rw [sizeLine_eq]; simp, [.int 1, .int 2, .int 3, .int 4], rfl, ?_⟩
      repeat walk_at "x"
      refine FNX.pure (by decide) (fun X => law_refused_ok P (.four (xs := [.int 1, .int 2, .int 3, .int 4]) (by decide) (by decide)) (X := X)) ?_
      exact ⟨[(x, chA 206 gs 4096 dx)], o4, rfl, p4.up (by lia), rfl⟩

end

section
set_option tactic.hygienic false
open PySem PySem.W PyProof.Rows
variable {G : Glb} {C C' : Cx} {loc loc' : Loc} {tmp tmp' : Tmp} {mh hid l l' : MH} {s s' s₁ : Shared}
variable {X : Addr → Loc → MH → Prop} {Q : D → MH → Prop} {Rt : D → MH → Prop} {N : Loc → MH → Prop}
theorem lad_getD {i : Int} (h0 : 0 ≤ i) (h1 : i < 41) : LAD.getD i.toNat 0 = dsz i := by
  unfold LAD
  rw [List.getD_eq_getElem?_getD, List.getElem?_map, rng_get 0 41 i.toNat (by lia)]
  show dsz (0 + (i.toNat : Int)) = dsz i
  congr 1; lia
theorem least_filter (s : Int) : ((rng 0 1 41).filter fun i => decide (s ≤ LAD.getD i.toNat 0)) = ((rng 0 1 41).filter fun i => decide (s ≤ dsz i)) := by
  apply List.filter_congr
  intro i hi
  have := rng_mem hi
  rw [lad_getD this.1 (by lia)]
theorem dsz_top : dsz 40 = 4294967295 := rfl
theorem least_some {s : Int} (h : s ≤ 4294967295) : ∃ j, ((rng 0 1 41).filter fun i => decide (s ≤ dsz i)).head? = some j := by
  cases e : ((rng 0 1 41).filter fun i => decide (s ≤ dsz i)).head? with
  | some j => exact ⟨j, rfl⟩
  | none =>
    exfalso
    rw [List.head?_eq_none_iff, List.filter_eq_nil_iff] at e
    exact e 40 (by decide) (by rw [dsz_top]; exact decide_eq_true h)
theorem dsz_le : ∀ i ∈ rng 0 1 41, dsz i ≤ 4294967295 := by decide +kernel
theorem least_none {s : Int} (h : 4294967295 < s) : ((rng 0 1 41).filter fun i => decide (s ≤ dsz i)).head? = none := by
  rw [List.head?_eq_none_iff, List.filter_eq_nil_iff]
  intro i hi
  have := dsz_le i hi
  simp; lia
theorem fm_none {α β : Type} : ∀ l : List α, l.filterMap (fun u₀ => (none : Option β)) = []
  | [] => rfl
  | x :: l => by rw [List.filterMap_cons]; exact fm_none l
theorem octet_least (P : PW G) (s : Int) :
    ∃ r : PyData, r.canLay0 = true ∧ r.depth = 0 ∧ (∀ X : Addr → MH → Prop, FN G 4 (.ref 421) [.int s] mh X fun d m => d = .dat r ∧ m = mh) ∧ (∀ X : Addr → MH → Prop, FN G 2 (.ref 414) [.int s, .dat (.list (LAD.map .int))] mh X fun d m => d = .dat r ∧ m = mh) := by
  by_cases h : 0 ≤ s ∧ s ≤ 4294967295
  · obtain ⟨j, hj⟩ := least_some h.2
    refine ⟨.int j, rfl, rfl, fun X => law_octet_ok P h.1 h.2 hj, fun X => (law_least_ok P lad_len (X := X)).mono (fun d m ⟨e1, e2⟩ => ⟨?_, e2⟩) fun c m z => z⟩
    rw [e1, if_pos h.1, least_filter, hj]
  · have ho : s < 0 ∨ 4294967295 < s := by lia
    refine ⟨.none, rfl, rfl, fun X => law_octet_no P (.inl ⟨s, rfl, ho⟩), fun X => (law_least_ok P lad_len (X := X)).mono (fun d m ⟨e1, e2⟩ => ⟨?_, e2⟩) fun c m z => z⟩
    rw [e1]
    by_cases h0 : 0 ≤ s
    · rw [if_pos h0, least_filter, least_none (by lia)]
    · rw [if_neg h0]
theorem LAD_depth : (PyData.list (LAD.map PyData.int)).depth ≤ 64 := by decide +kernel
theorem law_dicts_ok (P : PW G) {p : Addr} {o : AO} {k : Nat} {d : Int} (hp : IsPool k d o) (hk : k < 999980000) (hd0 : 0 ≤ d) (hd4 : d ≤ 4) {X : Addr → MH → Prop} :
    FNX G 8 (.ref 433) [.ptr p, .dat (.list (LAD.map .int))] [(p, o)] X fun r m => r = .bool true ∧ ∃ o', IsPool (k + 2000) d o' ∧ m = [(p, o')] := by
  refine (P.fun (x := "_law_dictionaries_right") (a := 433) (i := 47) (by decide +kernel)).ofX (ps := ["pool", "ladder"]) P.ok rfl rfl rfl (by decide) (by decide) (by decide) rfl (fun fd vs a b c => by obtain ⟨x, y, rfl⟩ := len2 c; unfold bindArgs; rw [a, b]; kernel_rfl) fun C I CN => ?_
  refine EXX0.letR ?_; intro X₁ R₁ N₁
  refine EXX0_consA fun K' hK => (SXX.to0 (SX.x (SX_if (TT_cmp ?_))))
  refine EV_compP (ds := (rng 0 1 41).map D.int) (gfun dsz) (CompOk.of (locF := []) I rfl (by decide) (by decide) (by decide) (by decide) (fun q hq => nomatch hq)) CN.hand (by rw [I.scope]; rfl) ?_ (by decide) ?_ ?_
  · repeat walk_at "w"
    refine BF_range1 fun r t u v => ?_
    exact ITB_range CN.hand (by decide) (by decide)
  · intro C2 S dd hdd
    obtain ⟨i, hi, rfl⟩ := List.mem_map.mp hdd
    have hr := rng_mem hi
    have I2 := S.sc I
    have CN2 := S.can CN
    refine ⟨fun u₀ => ?_, fun h => absurd h (by decide)⟩
    repeat walk_at "w"
    refine ((law_size_ok P hr.1 (X := fun u₀ u₀ => False)).more (by decide)).mono (fun r m hq3 => ?_) fun c m z => z.elim
    obtain ⟨f1, f2⟩ := hq3
    rw [if_pos (by lia)] at f1
    exact ⟨_, f1, rfl, f2⟩
  rw [gfun_map, show ((rng 0 1 41).map dsz) = LAD from rfl]
  repeat walk_at "w"
  refine CMP_ned CN lay_list lay_list (Nat.le_trans (Nat.min_le_left _ _) LAD_depth) ?_
  rw [eqv_list, show (!decide (LAD = LAD)) = false by simp]
  repeat walk_at "w"
  repeat walk_at "x"
  with_reducible refine EV.x (EV_list_dat ?_)
  repeat walk_at "w"
  refine take0 P hp (by lia) (by decide) (by decide) fun v1 o1 a1 b1 p1 => ?_
  repeat walk_at "w"
  refine ⟨by rw [sizeLine_eq]; simp, [.int 41, .int 42, .int 63, .int 64, .int 128, .int 255, .int (41 + v1)], rfl, ?_⟩
  walk_at "n"
  with_reducible refine EXX0.weak (loc' := [("odd", .dat (.list [.int 41, .int 42, .int 63, .int 64, .int 128, .int 255, .int (41 + v1)])), ("pool", .ptr p), ("ladder", .dat (.list (LAD.map .int)))]) ?wk1 ?wl1
  case wl1 => exact LS.get ⟨rfl, rfl, rfl, trivial⟩
  walk_at "n"
  refine EXX0_consA fun K' hK => (SXX.to0 (SX.x (SX_if (TT_cmp ?_))))
  refine EV_compP (ds := ([.int 41, .int 42, .int 63, .int 64, .int 128, .int 255, .int (41 + v1)] : List PyData).map D.dat) (fun u₀ => none) (CompOk.of (locF := []) I rfl (by decide) (by decide) (by decide) (by decide) (fun q hq => nomatch hq)) CN.hand (by rw [I.scope]; rfl) ?_ (by simp) ?_ ?_
  · repeat walk_at "w"
    exact ITB_list CN.hand
  · intro C2 S dd hdd
    obtain ⟨i, hi, rfl⟩ : ∃ i : Int, 41 ≤ i ∧ dd = .int i := by
      simp only [List.map_cons, List.map_nil, List.mem_cons, List.not_mem_nil, or_false] at hdd
      rcases hdd with rfl | rfl | rfl | rfl | rfl | rfl | rfl
      · exact ⟨_, by decide, rfl⟩
      · exact ⟨_, by decide, rfl⟩
      · exact ⟨_, by decide, rfl⟩
      · exact ⟨_, by decide, rfl⟩
      · exact ⟨_, by decide, rfl⟩
      · exact ⟨_, by decide, rfl⟩
      · exact ⟨_, by lia, rfl⟩
    have I2 := S.sc I
    have CN2 := S.can CN
    refine TT_cmp ?_
    repeat walk_at "w"
    refine ((law_size_ok P (by lia) (X := fun u₀ u₀ => False)).more (by decide)).mono (fun r m hq4 => ?_) fun c m z => z.elim
    obtain ⟨f1, f2⟩ := hq4
    rw [if_neg (by lia)] at f1
    subst f1; subst f2
    repeat walk_at "w"
    refine CMP_isnot (c := true) (fun u₀ u₀ u₀ x => none_none x) ?_
    exact ⟨fun h => absurd h (by decide), fun u₀ => ⟨rfl, rfl⟩⟩
  rw [fm_none]
  refine EV_list_dat ?_
  repeat walk_at "w"
  refine ⟨Nat.zero_le _, [], rfl, ?_⟩
  refine CMP_ned CN lay_nil lay_nil (by simp [PyData.depth, PyData.depthAll]) ?_
  rw [show (!PyData.eqv (.list []) (.list [])) = false by simp [PyData.eqv, PyData.eqvAll]]
  repeat walk_at "w"
  walk_at "n"
  refine EXX0_consA fun K' hK => (SXX.to0 (SX.x ?_))
  repeat walk_at "w"
  refine take0 P p1 (by lia) (by decide) (by decide) fun v2 o2 a2 b2 p2 => ?_
  have hx := lad_get (c := v2.toNat) (by lia)
  refine ITM_list_dat a2 (by lia) hx ?_
  generalize dsz ((v2.toNat : Nat) : Int) = near
  repeat walk_at "x"
  with_reducible refine EV.x ?_
  walk_at "w"
  with_reducible refine EV_list_dat ?_
  repeat walk_at "w"
  refine OP_pow (by decide) (by decide) ?_
  repeat walk_at "w"
  refine take0 P p2 (by lia) (by decide) (by decide) fun v3 o3 a3 b3 p3 => ?_
  repeat walk_at "w"
  refine OP_pow (by decide) (by decide) ?_
  repeat walk_at "w"
  refine OP_pow (by decide) (by decide) ?_
  repeat walk_at "w"
  obtain ⟨many, hmany, hml⟩ : ∃ many : List Int, ([near, near + 1, v3, near - 1, 2 ^ (32 : Int).toNat, -1, 0, 1, 2 ^ (32 : Int).toNat - 1] : List Int) = many ∧ many.length ≤ 9 := ⟨_, rfl, by simp⟩
  refine ⟨by rw [sizeLine_eq]; simp, many.map PyData.int, by rw [← hmany]; rfl, ?_⟩
  clear hmany
  repeat walk_at "w"
  refine ITM_pool3 p3 (.head _) ?_
  refine OP_mul (IntMulOk.of_left (by decide)) ?_
  repeat walk_at "w"
  refine SLC_list (by rw [List.length_map]; lia) ?_
  obtain ⟨sz, hsz, hsl⟩ : ∃ sz : List Int, cut (many.map PyData.int) none (some (3 + 2 * d)) = sz.map PyData.int ∧ sz.length ≤ 9 := by
    refine ⟨cut many none (some (3 + 2 * d)), ?_, ?_⟩
    · unfold cut; rw [List.length_map, List.map_take, List.map_drop]
    · exact Nat.le_trans (cut_len _ _ _) hml
  rw [hsz]
  walk_at "n"
  with_reducible refine EXX0.weak (loc' := [("some", .dat (.list (sz.map .int))), ("pool", .ptr p), ("ladder", .dat (.list (LAD.map .int)))]) ?wk2 ?wl2
  case wl2 => exact LS.get ⟨rfl, rfl, rfl, trivial⟩
  walk_at "n"
  refine EXX0_consA fun K' hK => (SXX.to0 (SX.x (SX_if (TT_cmp ?_))))
  refine EV_compP (ds := sz.map D.int) (fun u₀ => none) (CompOk.of (locF := [("ladder", .dat (.list (LAD.map .int)))]) I rfl (by decide) (by decide) (by decide) (by decide) (fun q hq => by rw [List.mem_singleton.mp hq]; exact ⟨rfl, by show (("ladder" : Str), NameKind.free) ∈ _; decide⟩)) CN.hand (by rw [I.scope]; rfl) ?_ (by rw [List.length_map]; lia) ?_ ?_
  · repeat walk_at "w"
    have := ITB_list (G := G) (C := C) (mh := [(p, o3)]) (xs := sz.map PyData.int) CN.hand
    rwa [List.map_map] at this
  · intro C2 S dd hdd
    obtain ⟨s, hs, rfl⟩ := List.mem_map.mp hdd
    refine absP fun P₀ hP₀ => ?_
    obtain ⟨r, r1, r2, r3, r4⟩ := octet_least (mh := [(p, o3)]) P s
    refine hP₀ ?_; clear hP₀ P₀
    have I2 := S.sc I
    have CN2 := S.can CN
    refine TT_cmp ?_
    repeat walk_at "w"
    refine ((r3 (fun u₀ u₀ => False)).more (by decide)).mono (fun r m hq5 => ?_) fun c m z => z.elim
    obtain ⟨f1, f2⟩ := hq5
    subst f1; subst f2
    repeat walk_at "w"
    refine ((r4 (fun u₀ u₀ => False)).more (by decide)).mono (fun r m hq6 => ?_) fun c m z => z.elim
    obtain ⟨f1, f2⟩ := hq6
    subst f1; subst f2
    refine CMP_ned CN2 r1 r1 (by lia) ?_
    rw [PySem.SeqAt.eqv_refl _ r1]
    exact ⟨fun h => absurd h (by decide), fun u₀ => ⟨rfl, rfl⟩⟩
  rw [fm_none]
  refine EV_list_dat ?_
  repeat walk_at "w"
  refine ⟨Nat.zero_le _, [], rfl, ?_⟩
  refine CMP_ned CN lay_nil lay_nil (by simp [PyData.depth, PyData.depthAll]) ?_
  rw [show (!PyData.eqv (.list []) (.list [])) = false by simp [PyData.eqv, PyData.eqvAll]]
  repeat walk_at "w"
  walk_at "n"
  refine EXX0_consA fun K' hK => (SXX.to0 (SXX_ret (EVX_and ?_)))
  repeat walk_at "x"
  refine FNX.pure (by decide) (fun X => law_refused_ok P (.dict (.inr rfl)) (X := X)) ?_
  repeat walk_at "x"
  refine EVX_bool_one ?_
  repeat walk_at "x"
  repeat walk_at "w"
  repeat walk_at "x"
  refine OP_pow (by decide) (by decide) ?_
  repeat walk_at "w"
  refine take0 P p3 (by lia) (by decide) (by decide) fun v5 o5 a5 b5 p5 => ?_
  repeat walk_at "x"
  refine FNX.pure (by decide) (fun X => law_refused_ok P (.dict (.inl ⟨_, rfl, .inl (by lia)⟩)) (X := X)) ?_
  exact ⟨rfl, o5, p5.up (by lia), rfl⟩

end

section
set_option tactic.hygienic false
open PySem PySem.W PyProof.Rows
theorem drop_at {α : Type} (a b : List α) (n : Nat) (h : a.length = n) : (a ++ b).drop n = b := by subst h; exact List.drop_left
theorem getD_at {α : Type} (a b : List α) (x z : α) (n : Nat) (h : a.length = n) : (a ++ x :: b).getD n z = x := by
  subst h; rw [List.getD_eq_getElem?_getD, List.getElem?_append_right (Nat.le_refl _)]; simp
theorem rcG_desc (gs : List Int) : ∀ (pre t : List UInt8) (acc : List Int) (j : Int), 0 ≤ j → j ≤ 40 → (∀ g ∈ gs, 1 ≤ g ∧ g ≤ 256) →
    rcG (gs.length + 1) (pre ++ (gs.flatMap desc1 ++ [33, 1, j.toNat.toUInt8]) ++ t) pre.length acc 0 = .ok (acc ++ gs) (dsz j) (pre.length + 3 * gs.length + 3) := by
  induction gs with
  | nil =>
    exact fun pre t acc j h0 h1 hg => by
      have e0 : pre ++ (([] : List Int).flatMap desc1 ++ [33, 1, j.toNat.toUInt8]) ++ t = pre ++ 33 :: 1 :: j.toNat.toUInt8 :: t := by simp
      rw [e0]
      have d1 : (pre ++ 33 :: 1 :: j.toNat.toUInt8 :: t).drop pre.length = 33 :: 1 :: j.toNat.toUInt8 :: t := drop_at _ _ _ rfl
      have d2 : (pre ++ 33 :: 1 :: j.toNat.toUInt8 :: t).drop (pre.length + 1) = 1 :: j.toNat.toUInt8 :: t := by
        have := drop_at (pre ++ [33]) (1 :: j.toNat.toUInt8 :: t) (pre.length + 1) (by simp)
        simpa using this
      have d3 : (pre ++ 33 :: 1 :: j.toNat.toUInt8 :: t).getD (pre.length + 1 + 1) 0 = j.toNat.toUInt8 := by
        have := getD_at (pre ++ [33, 1]) t j.toNat.toUInt8 0 (pre.length + 1 + 1) (by simp)
        simpa using this
      have r1 : rd (33 :: 1 :: j.toNat.toUInt8 :: t) = .ok 33 1 := rfl
      have r2 : rd (1 :: j.toNat.toUInt8 :: t) = .ok 1 1 := rfl
      show rcG (0 + 1) _ _ _ _ = _
      unfold rcG
      rw [d1, r1]
      dsimp only
      unfold rcB
      rw [d2, r2]
      dsimp only
      unfold rc0
      rw [if_neg (by simp; lia)]
      unfold rc1
      rw [if_neg (by simp)]
      unfold rc2
      rw [if_neg (by simp)]
      unfold rc3
      rw [if_neg (by simp)]
      unfold rc4
      rw [if_neg (by simp)]
      unfold rc5
      rw [d3, u8_of (by lia), if_neg (by lia), List.append_nil]
      have ej : ((j.toNat : Nat) : Int) = j := by lia
      rw [ej]; rfl
  | cons g gs ih =>
    exact fun pre t acc j h0 h1 hg => by
      have hgg := hg g (.head _)
      generalize hR : gs.flatMap desc1 ++ [33, 1, j.toNat.toUInt8] ++ t = R
      have e0 : pre ++ ((g :: gs).flatMap desc1 ++ [33, 1, j.toNat.toUInt8]) ++ t = pre ++ 3 :: 1 :: (g - 1).toNat.toUInt8 :: R := by
        rw [← hR, List.flatMap_cons]; simp [desc1]
      have ih := ih (pre ++ [3, 1, (g - 1).toNat.toUInt8]) t (acc ++ [g]) j h0 h1 (fun x hx => hg x (.tail _ hx))
      have e1 : pre ++ [3, 1, (g - 1).toNat.toUInt8] ++ (gs.flatMap desc1 ++ [33, 1, j.toNat.toUInt8]) ++ t = pre ++ 3 :: 1 :: (g - 1).toNat.toUInt8 :: R := by
        rw [← hR]; simp
      rw [e1] at ih
      rw [e0]
      generalize hb : (g - 1).toNat.toUInt8 = b at *
      have hbn : b.toNat = (g - 1).toNat := by rw [← hb]; exact u8_of (by lia)
      have d1 : (pre ++ 3 :: 1 :: b :: R).drop pre.length = 3 :: 1 :: b :: R := drop_at _ _ _ rfl
      have d2 : (pre ++ 3 :: 1 :: b :: R).drop (pre.length + 1) = 1 :: b :: R := by
        have := drop_at (pre ++ [3]) (1 :: b :: R) (pre.length + 1) (by simp)
        simpa using this
      have d3 : (pre ++ 3 :: 1 :: b :: R).getD (pre.length + 1 + 1) 0 = b := by
        have := getD_at (pre ++ [3, 1]) R b 0 (pre.length + 1 + 1) (by simp)
        simpa using this
      have r1 : rd (3 :: 1 :: b :: R) = .ok 3 1 := rfl
      have r2 : rd (1 :: b :: R) = .ok 1 1 := rfl
      show rcG (gs.length + 1 + 1) _ _ _ _ = _
      unfold rcG
      rw [d1, r1]
      dsimp only
      unfold rcB
      rw [d2, r2]
      dsimp only
      unfold rc0
      rw [if_neg (by simp; lia)]
      unfold rc1
      rw [if_neg (by simp)]
      unfold rc2
      rw [if_neg (by simp)]
      unfold rc3
      rw [if_neg (by simp)]
      unfold rc4
      rw [if_pos rfl, d3, hbn]
      have eg : (((g - 1).toNat : Nat) : Int) + 1 = g := by lia
      rw [eg]
      rw [show (pre ++ [3, 1, b]).length = pre.length + 1 + 1 + 1 by simp] at ih
      rw [ih, List.append_assoc, List.singleton_append, List.length_cons]
      congr 1; lia
theorem desc_len (gs : List Int) (j : Int) : (desc gs j).length = 3 * gs.length + 3 := by
  unfold desc; rw [List.length_append, desc1_len]; rfl
theorem rc_desc {gs : List Int} {j : Int} (h0 : 0 ≤ j) (h1 : j ≤ 40) (hg : ∀ g ∈ gs, 1 ≤ g ∧ g ≤ 256) (t : List UInt8) : rcG (gs.length + 1) (desc gs j ++ t) 0 [] 0 = .ok gs (dsz j) (desc gs j).length := by
  have := rcG_desc gs [] t [] j h0 h1 hg
  rw [List.nil_append, List.nil_append, List.length_nil, Nat.zero_add] at this
  rw [desc_len]; exact this
theorem lay_rc : ∀ W : RC, (rcD W).canLay0 = true
  | .cut => by show PyData.canLay0 (.str "cut") = true; decide +kernel
  | .bad => by show PyData.canLay0 (.str "number") = true; decide +kernel
  | .filter => by show PyData.canLay0 (.str "filter") = true; decide +kernel
  | .head => by show PyData.canLay0 (.str "head") = true; decide +kernel
  | .ok gs s i => by simp [rcD, PyData.canLay0, PyData.canLayAll0, lay_ints]
theorem depth_ints : ∀ xs : List Int, PyData.depthAll (xs.map .int) = 0
  | [] => by simp [PyData.depthAll]
  | x :: xs => by rw [List.map_cons]; simp [PyData.depthAll, PyData.depth, depth_ints xs]
theorem depth_rc : ∀ W : RC, (rcD W).depth ≤ 10
  | .cut => by simp [rcD, PyData.depth]
  | .bad => by simp [rcD, PyData.depth]
  | .filter => by simp [rcD, PyData.depth]
  | .head => by simp [rcD, PyData.depth]
  | .ok gs s i => by simp [rcD, PyData.depth, PyData.depthAll, depth_ints]
theorem dsz_nn : ∀ i ∈ rng 0 1 41, 0 ≤ dsz i := by decide +kernel

end

section
set_option tactic.hygienic false
open PySem PySem.W PyProof.Rows
variable {G : Glb} {C C' : Cx} {loc loc' : Loc} {tmp tmp' : Tmp} {mh hid l l' : MH} {s s' s₁ : Shared}
variable {X : Addr → Loc → MH → Prop} {Q : D → MH → Prop} {Rt : D → MH → Prop} {N : Loc → MH → Prop}
theorem SX_mono {st : Stmt} {N' : Loc → MH → Prop} (h : SX G C loc mh st X Rt N') (k : ∀ l m, N' l m → N l m) : SX G C loc mh st X Rt N := fun tmp hid s R =>
  wpAny_mono (h tmp hid s R) (fun f s1 q => by
    cases f with
    | next => obtain ⟨l, m, R1, h1⟩ := q; exact ⟨l, m, R1, k l m h1⟩
    | ret v => exact q
    | _ => exact q) fun u₀ u₀ x => x
theorem MCX_m0 {n : Nat} {a Cl dx f : Addr} {i j : Nat} {fs : List (Str × D)} {x : Str} {pos : Pos} {Pq : D → MH → Prop} (P : PW G) (CN : Can G C n) (hm : (Cl, x, f, i, j) ∈ methTab) (hi : (a, AO.inst Cl dx fs) ∈ mh) (hx : fs.lookup x = none)
    (h : FNX G n (.ref f) [.ptr a] mh (fun c m' => X c loc m') Pq) : MCX G C (.ptr a) x pos [] loc mh X Pq := by
  obtain ⟨T, F⟩ := P.mth _ hm
  obtain ⟨fd, A, _⟩ := F.ex
  exact MCX_own0 P.ok CN T A hi hx h
theorem CMP_rc {n : Nat} {PB : Bool → Prop} (CN : Can G C n) (W : RC) (hp : PB false) : CMP G C .NotEq (.dat (rcD W)) (.dat (rcD W)) mh PB := by
  refine CMP_ned CN (lay_rc W) (lay_rc W) (by have := depth_rc W; lia) ?_
  rw [PySem.SeqAt.eqv_refl _ (lay_rc W)]; exact hp
theorem least_dat (P : PW G) {s j : Int} (h0 : 0 ≤ s) (hj : ((rng 0 1 41).filter fun i => decide (s ≤ dsz i)).head? = some j) {X : Addr → MH → Prop} : FN G 2 (.ref 414) [.int s, .dat (.list (LAD.map .int))] mh X fun d m => d = .int j ∧ m = mh :=
  (law_least_ok P lad_len (X := X)).mono (fun d m hq8 => by obtain ⟨e1, e2⟩ := hq8; exact ⟨by rw [e1, if_pos h0, least_filter, hj], e2⟩) fun c m z => z
theorem law_filt_ok (P : PW G) {p : Addr} {o : AO} {k : Nat} {d : Int} (hp : IsPool k d o) (hk : k < 999980000) (hd0 : 0 ≤ d) (hd4 : d ≤ 4) {X : Addr → MH → Prop} :
    FNX G 9 (.ref 452) [.ptr p, .dat (.list (LAD.map .int))] [(p, o)] X fun r m => r = .bool true := by
  refine (P.fun (x := "_law_filters_right") (a := 452) (i := 50) (by decide +kernel)).ofX (ps := ["pool", "ladder"]) P.ok rfl rfl rfl (by decide) (by decide) (by decide) rfl (fun fd vs a b c => by obtain ⟨x, y, rfl⟩ := len2 c; unfold bindArgs; rw [a, b]; kernel_rfl) fun C I CN => ?_
  refine EXX0.letR ?_; intro X₁ R₁ N₁
  refine EXX0_consA fun K' hK => (SXX.to0 (SX.x ?_))
  refine SX_assign_comp (CompOk.of (locF := [("pool", .ptr p)]) I rfl (by decide) (by decide) (by decide) (by decide) ?_) CN.hand (by rw [I.scope]; rfl) (I.sto (by first | exact .inl rfl | exact .inr rfl))
    (fun rem acc m => ∃ (dn rs gs : List Int) (o' : AO), (dn ++ rs).length ≤ 3 ∧ rem = rs.map D.int ∧ acc = gs.map PyData.int ∧ (∀ g ∈ gs, 1 ≤ g ∧ g ≤ 256) ∧ gs.length = dn.length ∧ IsPool (k + 10 + 20 * dn.length) d o' ∧ m = [(p, o')]) ?_ ?_ ?_ (by rw [I.scope]; with_unfolding_all rfl) (by intro _ _; with_unfolding_all rfl)
  · intro q hq
    rw [List.mem_singleton.mp hq]; exact ⟨rfl, by show (("pool" : Str), NameKind.free) ∈ _; decide⟩
  · repeat walk_at "w"
    refine take0 P hp (by lia) (by decide) (by decide) fun v2 o2 a2 b2 p2 => ?_
    repeat walk_at "w"
    obtain ⟨n2, rfl⟩ : ∃ n : Nat, v2 = n := ⟨v2.toNat, by lia⟩
    refine BF_range1 fun r t u v => ?_
    exact ⟨_, _, ITB_range CN.hand (rng_small (by lia)) (rng_size _), ⟨[], rng 0 1 n2, [], o2, by rw [List.nil_append, rng_len]; lia, rfl, rfl, (fun n h => nomatch h), rfl, p2.up (by simp only [List.length_nil]; lia), rfl⟩, by rw [List.length_map, rng_len]; lia⟩
  · intro C2 S dd rem acc m hq1
    refine absP fun P₀ hP₀ => ?_
    obtain ⟨dn, rs, gs, o', e1, e2, e3, e4, e5, e6, e7⟩ := hq1
    refine hP₀ ?_; clear hP₀ P₀
    subst e7
    cases rs with
    | nil => cases e2
    | cons i rs =>
    rw [List.map_cons] at e2
    obtain ⟨rfl, rfl⟩ := List.cons.inj e2
    have hdl : dn.length < 3 := by rw [List.length_append, List.length_cons] at e1; lia
    have I2 := S.sc I
    have CN2 := S.can CN
    refine ⟨fun u₀ => ?_, fun h => absurd h (by decide)⟩
    repeat walk_at "w"
    refine gap_to P (by decide) e6 (by lia) fun v o3 f2 f3 f4 => ?_
    refine ⟨_, rfl, dn ++ [i], rs, gs ++ [v], o3, by rw [List.append_assoc]; exact e1, rfl, by rw [e3, List.map_append]; rfl, fun n hn => ?_, by simp [e5], f4.up (by simp; lia), rfl⟩
    rcases List.mem_append.mp hn with hn | hn
    · exact e4 n hn
    · rw [List.mem_singleton.mp hn]; exact ⟨f2, f3⟩
  intro xs m hq2
  refine absP fun P₀ hP₀ => ?_
  obtain ⟨dn, rs, gs, o2, e1, e2, e3, hg, e5, p2, e7⟩ := hq2
  refine hP₀ ?_; clear hP₀ P₀
  subst e7
  cases rs with
  | cons i rs => cases e2
  | nil =>
  rw [List.append_nil] at e1
  subst e3
  have hgl : gs.length ≤ 3 := by lia
  have p2 := p2.up (k' := k + 100) (by lia)
  clear e1 e5 e2
  repeat walk_at "x"
  with_reducible refine EV.x ?_
  walk_at "w"
  with_reducible refine EV_list_dat ?_
  repeat walk_at "w"
  refine take0 P p2 (by lia) (by decide) (by decide) fun v1 o3 a3 b3 p3 => ?_
  refine ITM_list_dat a3 (by lia) (lad_get (c := v1.toNat) (by lia)) ?_
  repeat walk_at "w"
  refine OP_pow (by decide) (by decide) ?_
  repeat walk_at "w"
  refine take0 P p3 (by lia) (by decide) (by decide) fun v4 o4 a4 b4 p4 => ?_
  repeat walk_at "w"
  refine ⟨by rw [sizeLine_eq]; simp, [.int (dsz ((v1.toNat : Nat) : Int)), .int v4], rfl, ?_⟩
  repeat walk_at "w"
  refine take0 P p4 (by lia) (by decide) (by decide) fun v5 o5 a5 b5 p5 => ?_
  obtain ⟨sz, hsz, s0, s1⟩ : ∃ sz : Int, ([.int (dsz ((v1.toNat : Nat) : Int)), .int v4] : List PyData)[v5.toNat]? = some (.int sz) ∧ 0 ≤ sz ∧ sz ≤ 4294967295 := by
    have hm : ((v1.toNat : Nat) : Int) ∈ rng 0 1 41 := List.mem_of_getElem? (rng_get3 0 1 41 v1.toNat (by lia) |>.trans (by congr 1; lia))
    have e32 : (2 : Int) ^ (32 : Int).toNat = 4294967296 := by decide
    rw [e32] at b4
    rcases (show v5 = 0 ∨ v5 = 1 by lia) with rfl | rfl
    · exact ⟨_, rfl, dsz_nn _ hm, dsz_le _ hm⟩
    · exact ⟨v4, rfl, a4, by lia⟩
  refine ITM_list_dat a5 (by lia) hsz ?_
  clear hsz
  obtain ⟨j, hj⟩ := least_some s1
  have hjr : 0 ≤ j ∧ j ≤ 40 := by
    have := rng_mem (n := 41) (a := 0) (i := j) (List.mem_filter.mp (List.mem_of_head? hj)).1
    lia
  repeat walk_at "x"
  with_reducible refine SXX.weak (loc' := [("pool", .ptr p), ("ladder", .dat (.list (LAD.map .int))), ("gaps", .dat (.list (gs.map .int))), ("size", .int sz), ("due", .bytes [])]) ?wk1 ?wl1
  case wl1 => exact LS.get ⟨rfl, rfl, rfl, rfl, rfl, trivial⟩
  refine SX.x (SX_for CN I (I.sto (.inl rfl)) (fun rem loc m => Ex2 fun (dn rs : List Int) => And4 (gs = dn ++ rs) (rem = rs.map D.int) (LS [("pool", .ptr p), ("ladder", .dat (.list (LAD.map .int))), ("gaps", .dat (.list (gs.map .int))), ("size", .int sz), ("due", .bytes (dn.flatMap desc1))] loc) (m = [(p, o5)])) ?_ ?_ ?_ (by intro _ _; with_unfolding_all rfl))
  · repeat walk_at "w"
    exact ⟨_, _, ITB_list CN.hand, [], gs, rfl, by rw [List.map_map]; rfl, ⟨rfl, rfl, rfl, rfl, rfl, trivial⟩, rfl⟩
  · intro dd ds loc m hq3
    refine absP fun P₀ hP₀ => ?_
    obtain ⟨dn, rs, e1, e2, hls, e5⟩ := hq3
    refine hP₀ ?_; clear hP₀ P₀
    subst e5
    cases rs with
    | nil => cases e2
    | cons g rs =>
    rw [List.map_cons] at e2
    obtain ⟨rfl, rfl⟩ := List.cons.inj e2
    have hgg := hg g (by rw [e1]; simp)
    have hdl : dn.length < 3 := by have := congrArg List.length e1; simp at this; lia
    walk_at "n"
    with_reducible refine EX.weak (loc' := ("gap", .int g) :: [("pool", .ptr p), ("ladder", .dat (.list (LAD.map .int))), ("gaps", .dat (.list (gs.map .int))), ("size", .int sz), ("due", .bytes (dn.flatMap desc1))]) ?wk2 ?wl2
    case wl2 => exact LS.get ⟨rfl, hls⟩
    walk_at "n"
    with_reducible refine EX.lax ?_
    repeat walk_at "w"
    with_reducible refine EV_list_dat ?_
    repeat walk_at "w"
    refine ⟨by rw [sizeLine_eq]; simp, [.int 3, .int 1, .int (g - 1)], rfl, ?_⟩
    repeat walk_at "w"
    refine BF_bytes_list (ns := [3, 1, g - 1]) CN.hand (fun n hn => by
      simp only [List.mem_cons, List.not_mem_nil, or_false] at hn
      rcases hn with rfl | rfl | rfl <;> lia) (by simp) ?_
    refine OP_addb (by rw [desc1_len, octs_len]; simp; lia) ?_
    rw [show (dn.flatMap desc1 ++ octs [3, 1, g - 1] : List UInt8) = (dn ++ [g]).flatMap desc1 by rw [List.flatMap_append]; rfl]
    walk_at "n"
    exact EX_nil ⟨[("pool", .ptr p), ("ladder", .dat (.list (LAD.map .int))), ("gaps", .dat (.list (gs.map .int))), ("size", .int sz), ("due", .bytes ((dn ++ [g]).flatMap desc1))], ⟨rfl, rfl, rfl, rfl, rfl, trivial⟩, dn ++ [g], rs, by rw [e1]; simp, rfl, ⟨rfl, rfl, rfl, rfl, rfl, trivial⟩, rfl⟩
  intro loc m hq4
  refine absP fun P₀ hP₀ => ?_
  obtain ⟨dn, rs, e1, e2, hls, e5⟩ := hq4
  refine hP₀ ?_; clear hP₀ P₀
  walk_at "n"
  subst e5
  cases rs with
  | cons g rs => cases e2
  | nil =>
  rw [List.append_nil] at e1
  subst e1
  walk_at "n"
  with_reducible refine EXX0.weak ?_ hls.get
  clear hls
  repeat walk_at "x"
  with_reducible refine EV_list_dat ?_
  repeat walk_at "w"
  refine FN.pure (by decide) (fun X => least_dat P s0 hj (X := X)) ?_
  repeat walk_at "w"
  refine ⟨by rw [sizeLine_eq]; simp, [.int 33, .int 1, .int j], rfl, ?_⟩
  repeat walk_at "w"
  refine BF_bytes_list (ns := [33, 1, j]) CN.hand (fun n hn => by
    simp only [List.mem_cons, List.not_mem_nil, or_false] at hn
    rcases hn with rfl | rfl | rfl <;> lia) (by simp) ?_
  refine OP_addb (by rw [desc1_len, octs_len]; simp; lia) ?_
  have hdz := desc_len gs j
  walk_at "n"
  with_reducible refine EXX0.weak (loc' := [("pool", .ptr p), ("ladder", .dat (.list (LAD.map .int))), ("gaps", .dat (.list (gs.map .int))), ("size", .int sz), ("due", .bytes (desc gs j))]) ?wk3 ?wl3
  case wl3 => exact LS.get ⟨rfl, rfl, rfl, rfl, rfl, trivial⟩
  walk_at "n"
  with_reducible refine EXX0_consA fun K' hK => (SXX.to0 (SXX_if (TTX_cmp ?_ ?_)))
  rotate_left
  · with_unfolding_all rfl
  refine EVX_meth (EV.x (EV_new (n := 4) P.ok (CN.less (by decide)) ((I.kindOf _).trans (by rfl)) (P.cls (("PackingChain" : Str), 206) (by decide)) P.makes.2.1 ?_ (by decide) (by intro _; with_unfolding_all rfl))) (by intro _; exact ⟨_, rfl⟩)
  repeat walk_at "w"
  intro x dx
  refine FN.pure (by decide) (fun X => chain_init P (.inl rfl) hgl hg (X := X)) ⟨rfl, ?_⟩
  refine MCX_m0 P CN (i := 21) (j := 0) (f := 196) (by decide) (.head _) rfl ?_
  refine FNX.at0 ((chain_described P hgl hg s0 s1 hj (X := fun u₀ u₀ => False)).more (by decide)) (fun d m ⟨f1, f2⟩ => ⟨_, f2, ?_⟩) fun c m z => z.elim
  subst f1
  repeat walk_at "x"
  refine CMP_nebs ?_
  rw [bne_self]
  repeat walk_at "x"
  refine OP_addb (by rw [hdz]; simp; lia) ?_
  repeat walk_at "w"
  refine BF_len_list (by rw [List.length_map]; lia) ?_
  rw [List.length_map]
  repeat walk_at "w"
  rw [show ((gs.length : Int) + 1) = ((gs.length + 1 : Nat) : Int) by push_cast; rfl]
  refine FN.pure (by decide) (fun X => law_read_ok P (by rw [List.length_append, hdz]; simp; lia) (by lia) (X := X)) ?_
  rw [rc_desc hjr.1 hjr.2 hg]
  repeat walk_at "x"
  with_reducible refine EV.x (EV_tuple ?_)
  repeat walk_at "w"
  refine FN.pure (by decide) (fun X => least_dat P s0 hj (X := X)) ?_
  have hlj : (LAD.map PyData.int)[j.toNat]? = some (.int (dsz j)) := by
    have := lad_get (c := j.toNat) (by lia)
    rwa [show ((j.toNat : Nat) : Int) = j by lia] at this
  refine ITM_list_dat hjr.1 (by lia) hlj ?_
  repeat walk_at "w"
  refine BF_len_bytes (by lia) ?_
  repeat walk_at "w"
  refine ⟨by rw [sizeLine_eq]; simp, [.list (gs.map .int), .int (dsz j), .int ((desc gs j).length : Nat)], rfl, ?_⟩
  refine CMP_rc CN (.ok gs (dsz j) (desc gs j).length) ?_
  repeat walk_at "x"
  with_reducible refine SXX.weak (loc' := [("pool", .ptr p), ("ladder", .dat (.list (LAD.map .int))), ("gaps", .dat (.list (gs.map .int))), ("due", .bytes (desc gs j))]) ?wk4 ?wl4
  case wl4 => exact LS.get ⟨rfl, rfl, rfl, rfl, trivial⟩
  refine SX.x (SX_for CN I (I.sto (.inl rfl)) (fun rem loc m => Ex3 fun (dn rs : List Int) (o' : AO) => And5 ((dn ++ rs).length ≤ 3) (rem = rs.map D.int) (LS [("pool", .ptr p), ("ladder", .dat (.list (LAD.map .int))), ("gaps", .dat (.list (gs.map .int))), ("due", .bytes (desc gs j))] loc) (IsPool (k + 200 + 20 * dn.length) d o') (m = [(x, chA 206 gs sz dx), (p, o')])) ?_ ?_ ?_ (by intro _ _; with_unfolding_all rfl))
  · repeat walk_at "w"
    refine ITM_pool3 p5 (.tail _ (.head _)) ?_
    repeat walk_at "w"
    refine OP_floordiv (by decide) (by decide) ?_
    repeat walk_at "w"
    have hd2 : 0 ≤ d.fdiv 2 ∧ d.fdiv 2 ≤ 2 := by rw [Int.fdiv_eq_ediv_of_nonneg _ (by decide)]; lia
    obtain ⟨n2, hn2⟩ : ∃ n : Nat, 1 + d.fdiv 2 = n := ⟨(1 + d.fdiv 2).toNat, by lia⟩
    rw [hn2]
    refine BF_range1 fun r t u v => ?_
    exact ⟨_, _, ITB_range CN.hand (rng_small (by lia)) (rng_size _), [], rng 0 1 n2, o5, by rw [List.nil_append, rng_len]; lia, rfl, ⟨rfl, rfl, rfl, rfl, trivial⟩, p5.up (by simp only [List.length_nil]; lia), rfl⟩
  · intro dd ds loc m hq5
    refine absP fun P₀ hP₀ => ?_
    obtain ⟨dn, rs, o1, e1, e2, hls, q0, e5⟩ := hq5
    refine hP₀ ?_; clear hP₀ P₀
    subst e5
    cases rs with
    | nil => cases e2
    | cons i rs =>
    rw [List.map_cons] at e2
    obtain ⟨rfl, rfl⟩ := List.cons.inj e2
    have hdl : dn.length < 3 := by rw [List.length_append, List.length_cons] at e1; lia
    walk_at "n"
    with_reducible refine EX.weak (loc' := [("pool", .ptr p), ("ladder", .dat (.list (LAD.map .int))), ("gaps", .dat (.list (gs.map .int))), ("due", .bytes (desc gs j))]) ?wk5 ?wl5
    case wl5 => exact LS.get ⟨hls.1, hls.2.1, hls.2.2.1, hls.2.2.2.1, trivial⟩
    walk_at "n"
    with_reducible refine EX.lax ?_
    walk_at "n"
    with_reducible refine EX_consA fun K' hK => (SX_tuple (names := ["spot", "octets"]) CN.hand ?hn ?hh ?hw ?hs)
    case hn => exact sto2 I (by first | exact .inl rfl | exact .inr rfl) (by first | exact .inl rfl | exact .inr rfl)
    case hw => rw [I.scope]; with_unfolding_all rfl
    case hs => intro _; with_unfolding_all rfl
    repeat walk_at "w"
    refine BF_len_bytes (by lia) ?_
    repeat walk_at "w"
    refine take1 P q0 (by lia) (by lia) (by lia) fun v1 o2 a1 b1 q1 => ?_
    repeat walk_at "w"
    with_reducible refine EV_list_dat ?_
    repeat walk_at "w"
    refine ⟨by rw [sizeLine_eq]; simp, [.int 33, .int 1, .int 9], rfl, ?_⟩
    repeat walk_at "w"
    refine BF_bytes_list (ns := [33, 1, 9]) CN.hand (by decide) (by decide) ?_
    refine OP_addb (by rw [hdz, octs_len]; simp; lia) ?_
    repeat walk_at "w"
    refine ⟨by rw [sizeLine_eq]; simp, rfl, ?_⟩
    obtain ⟨oc, hoc, hol⟩ : ∃ oc : List UInt8, desc gs j ++ octs [33, 1, 9] = oc ∧ oc.length ≤ 15 := ⟨_, rfl, by rw [List.length_append, hdz, octs_len]; simp; lia⟩
    rw [hoc]
    walk_at "n"
    with_reducible refine EX.weak (loc' := ("spot", .int v1) :: [("octets", .bytes oc), ("pool", .ptr p), ("ladder", .dat (.list (LAD.map .int))), ("gaps", .dat (.list (gs.map .int))), ("due", .bytes (desc gs j))]) ?wk6 ?wl6
    case wl6 => exact LS.get ⟨rfl, rfl, rfl, rfl, rfl, rfl, trivial⟩
    repeat walk_at "w"
    with_reducible refine EV_list_dat ?_
    repeat walk_at "w"
    refine take1 P q1 (by lia) (by decide) (by decide) fun v2 o3 a2 b2 q2 => ?_
    repeat walk_at "w"
    refine ⟨by rw [sizeLine_eq]; simp, ([0, 1, 2, 3, 33, 40, 41, 128, 255, v2] : List Int).map PyData.int, rfl, ?_⟩
    repeat walk_at "w"
    refine take1 P q2 (by lia) (by decide) (by decide) fun v3 o4 a3 b3 q3 => ?_
    obtain ⟨y, hy, y0, y1⟩ : ∃ y : Int, (([0, 1, 2, 3, 33, 40, 41, 128, 255, v2] : List Int).map PyData.int)[v3.toNat]? = some (.int y) ∧ 0 ≤ y ∧ y < 256 := by
      have hl : v3.toNat < ([0, 1, 2, 3, 33, 40, 41, 128, 255, v2] : List Int).length := by simp; lia
      refine ⟨_, by rw [List.getElem?_map, List.getElem?_eq_getElem hl]; rfl, ?_⟩
      have hm := List.getElem_mem hl
      generalize ([0, 1, 2, 3, 33, 40, 41, 128, 255, v2] : List Int)[v3.toNat] = z at hm
      simp only [List.mem_cons, List.not_mem_nil, or_false] at hm
      rcases hm with rfl | rfl | rfl | rfl | rfl | rfl | rfl | rfl | rfl | rfl
      iterate 9 exact ⟨by decide, by decide⟩
      exact ⟨a2, b2⟩
    refine ITM_list_dat a3 (by lia) hy ?_
    repeat walk_at "w"
    refine SLC_bytes (by lia) ?_
    repeat walk_at "w"
    with_reducible refine EV_list_dat ?_
    repeat walk_at "w"
    refine ⟨by rw [sizeLine_eq]; simp, [.int y], rfl, ?_⟩
    repeat walk_at "w"
    have c1 := cut_len oc none (some v1)
    have c2 := cut_len oc (some (v1 + 1)) none
    refine BF_bytes_list (ns := [y]) CN.hand (fun n hn => by rw [List.mem_singleton.mp hn]; exact ⟨y0, y1⟩) (by simp) ?_
    refine OP_addb (by rw [octs_len]; simp; lia) ?_
    repeat walk_at "w"
    refine SLC_bytes (by lia) ?_
    refine OP_addb (by rw [List.length_append, octs_len]; simp; lia) ?_
    obtain ⟨ob, hob, hbl⟩ : ∃ ob : List UInt8, cut oc none (some v1) ++ octs [y] ++ cut oc (some (v1 + 1)) none = ob ∧ ob.length ≤ 50 := ⟨_, rfl, by rw [List.length_append, List.length_append, octs_len]; simp; lia⟩
    rw [hob]
    clear hob hoc
    walk_at "n"
    with_reducible refine EX.weak (loc' := [("octets", .bytes ob), ("pool", .ptr p), ("ladder", .dat (.list (LAD.map .int))), ("gaps", .dat (.list (gs.map .int))), ("due", .bytes (desc gs j))]) ?wk7 ?wl7
    case wl7 => exact LS.get ⟨rfl, rfl, rfl, rfl, rfl, trivial⟩
    walk_at "n"
    with_reducible refine EX_consA fun K' hK => (SX_mono (N' := fun l m => ∃ (oe : List UInt8) (o' : AO), LS [("octets", .bytes oe), ("pool", .ptr p), ("ladder", .dat (.list (LAD.map .int))), ("gaps", .dat (.list (gs.map .int))), ("due", .bytes (desc gs j))] l ∧ oe.length ≤ 50 ∧ IsPool (k + 210 + 20 * dn.length) d o' ∧ m = [(x, chA 206 gs sz dx), (p, o')]) ?_ ?_)
    · with_reducible refine SX_if ?_
      repeat walk_at "w"
      refine take1 P q3 (by lia) (by decide) (by decide) fun v4 o5 a4 b4 q4 => ?_
      repeat walk_at "w"
      refine ⟨fun h => ?_, fun h => ?_⟩
      · repeat walk_at "w"
        refine BF_len_bytes (by lia) ?_
        repeat walk_at "w"
        refine take1 P q4 (by lia) (by lia) (by lia) fun v5 o6 a5 b5 q5 => ?_
        repeat walk_at "w"
        refine SLC_bytes (by lia) ?_
        have c3 := cut_len ob none (some v5)
        walk_at "n"
        exact EX_nil ⟨_, o6, ⟨rfl, rfl, rfl, rfl, rfl, trivial⟩, by lia, q5.up (by lia), rfl⟩
      · exact EX_nil ⟨ob, o5, ⟨rfl, rfl, rfl, rfl, rfl, trivial⟩, hbl, q4.up (by lia), rfl⟩
    · intro l m hq6
      refine absP fun P₀ hP₀ => ?_
      obtain ⟨oe, o5, hl, hel, q4, e⟩ := hq6
      refine hP₀ ?_; clear hP₀ P₀
      walk_at "n"
      subst e
      walk_at "n"
      with_reducible refine EX.weak ?_ hl.get
      repeat walk_at "w"
      with_reducible refine EV_list_dat ?_
      repeat walk_at "w"
      refine BF_len_list (by rw [List.length_map]; lia) ?_
      rw [List.length_map]
      repeat walk_at "w"
      refine take1 P q4 (by lia) (by decide) (by decide) fun v6 o6 a6 b6 q6 => ?_
      repeat walk_at "w"
      refine ⟨by rw [sizeLine_eq]; simp, [.int ((gs.length : Int) + 1), .int (1 + v6)], rfl, ?_⟩
      repeat walk_at "w"
      refine take1 P q6 (by lia) (by decide) (by decide) fun v7 o7 a7 b7 q7 => ?_
      obtain ⟨mn, hmn, hm4⟩ : ∃ mn : Nat, ([.int ((gs.length : Int) + 1), .int (1 + v6)] : List PyData)[v7.toNat]? = some (.int (mn : Nat)) ∧ mn ≤ 4 := by
        rcases (show v7 = 0 ∨ v7 = 1 by lia) with rfl | rfl
        · exact ⟨gs.length + 1, by push_cast; rfl, by lia⟩
        · exact ⟨(1 + v6).toNat, by rw [show (((1 + v6).toNat : Nat) : Int) = 1 + v6 by lia]; rfl, by lia⟩
      refine ITM_list_dat a7 (by lia) hmn ?_
      repeat walk_at "w"
      refine FN.pure (by decide) (fun X => law_read_ok P (by lia) hm4 (X := X)) ?_
      repeat walk_at "w"
      refine FN.pure (by decide) (fun X => law_filters_ok P (by lia) hm4 (X := X)) ?_
      refine CMP_rc CN _ ?_
      repeat walk_at "w"
      exact ⟨[("pool", .ptr p), ("ladder", .dat (.list (LAD.map .int))), ("gaps", .dat (.list (gs.map .int))), ("due", .bytes (desc gs j))], ⟨rfl, rfl, rfl, rfl, trivial⟩, dn ++ [i], rs, o7, by rw [List.append_assoc]; exact e1, rfl, ⟨rfl, rfl, rfl, rfl, trivial⟩, q7.up (by simp; lia), rfl⟩
  · intro loc m hq7
    refine absP fun P₀ hP₀ => ?_
    obtain ⟨dn, rs, o1, e1, e2, hls, q0, e5⟩ := hq7
    refine hP₀ ?_; clear hP₀ P₀
    walk_at "n"
    subst e5
    repeat walk_at "x"
    rfl

end

section
set_option tactic.hygienic false
open PySem PySem.W PyProof.Rows
variable {G : Glb} {C C' : Cx} {loc loc' : Loc} {tmp tmp' : Tmp} {mh hid l l' : MH} {s s' s₁ : Shared}
variable {X : Addr → Loc → MH → Prop} {Q : D → MH → Prop} {Rt : D → MH → Prop} {N : Loc → MH → Prop}
theorem law_ok (P : PW G) (xs : List Int) (hx : xs.length ≤ 63) : SEXX G 12 (scopeOf (st 51)) [("script", .dat (.list (xs.map .int)))] [] (bodyOf (st 51)) (fun u₀ u₀ => False) (fun d u₀ => d = .bool true) := fun C I CN => by
  refine EXX0_consA fun K' hK => (SXX.to0 (SX.x (SX_tuple (names := ["pool", "ladder"]) CN.hand (sto2 I (by first | exact .inl rfl | exact .inr rfl) (by first | exact .inl rfl | exact .inr rfl)) ?_ (by rw [I.scope]; with_unfolding_all rfl) (by intro _; with_unfolding_all rfl))))
  repeat walk_at "w"
  refine ((law_pool_ok P hx (X := fun u₀ u₀ => False)).more (by decide)).mono (fun r m hq1 => ?_) fun c m z => z.elim
  refine absP fun P₀ hP₀ => ?_
  obtain ⟨p, o, f1, f2, f3⟩ := hq1
  refine hP₀ ?_; clear hP₀ P₀
  subst f1; subst f3
  have hd : 0 ≤ (if (xs.length : Int) < 4 then (xs.length : Int) else 4) ∧ (if (xs.length : Int) < 4 then (xs.length : Int) else 4) ≤ 4 := by split <;> lia
  generalize (if (xs.length : Int) < 4 then (xs.length : Int) else 4) = d at hd f2
  refine EVs_cons (EV_fn0 (x := "_law_sizes") (a := 409) (i := 43) P I.sc CN (by decide +kernel) (by with_unfolding_all rfl) ?_) (by intro _; with_unfolding_all rfl)
  refine FN.pure (by decide) (fun X => law_sizes_ok P (X := X)) ?_
  repeat walk_at "w"
  refine ⟨by rw [sizeLine_eq]; simp, rfl, ?_⟩
  walk_at "n"
  with_reducible refine EXX0.weak (loc' := [("pool", .ptr p), ("ladder", .dat (.list (LAD.map .int)))]) ?wk1 ?wl1
  case wl1 => exact LS.get ⟨rfl, rfl, trivial⟩
  repeat walk_at "x"
  refine ((law_numbers_ok P f2 (by lia) hd.1 hd.2 (X := fun u₀ u₀ => False)).more (by decide)).mono (fun r m hq2 => ?_) fun c m z => z.elim
  refine absP fun P₀ hP₀ => ?_
  obtain ⟨f1, o1, p1, f2⟩ := hq2
  refine hP₀ ?_; clear hP₀ P₀
  subst f1; subst f2
  repeat walk_at "x"
  refine ((law_deltas_ok P p1 (by lia) hd.1 hd.2 (X := fun u₀ u₀ => False)).more (by decide)).mono (fun r m hq3 => ?_) fun c m z => z.elim
  refine absP fun P₀ hP₀ => ?_
  obtain ⟨f1, o2, p2, f2⟩ := hq3
  refine hP₀ ?_; clear hP₀ P₀
  subst f1; subst f2
  repeat walk_at "x"
  refine EVX_and ?_
  repeat walk_at "x"
  refine ((law_dicts_ok P p2 (by lia) hd.1 hd.2 (X := fun u₀ u₀ => False)).more (by decide)).mono (fun r m hq4 => ?_) fun c m z => z.elim
  refine absP fun P₀ hP₀ => ?_
  obtain ⟨f1, o3, p3, f2⟩ := hq4
  refine hP₀ ?_; clear hP₀ P₀
  subst f1; subst f2
  repeat walk_at "x"
  refine EVX_bool_one ?_
  repeat walk_at "x"
  exact ((law_filt_ok P p3 (by lia) hd.1 hd.2 (X := fun u₀ u₀ => False)).more (by decide)).mono (fun r m f1 => f1) fun c m z => z.elim

end

section
open PySem PySem.W PyProof.Rows
theorem code_of_ok {h : Heap} {cd : Value} {q : Str} (e : codeOk h cd q = true) : h.CodeRec cd q := by
  unfold codeOk at e
  split at e
  · rename_i c
    split at e
    · rename_i o ho
      split at e
      · rename_i vs hd
        split at e
        · rename_i u x t r hv
          have : x = q := beq_iff_eq.mp e
          subst this
          refine ⟨c, o, vs, t, rfl, ho, hd, ?_⟩
          rw [← Array.getElem?_toList, hv]; rfl
        · cases e
      · cases e
    · cases e
  · cases e
theorem fn_of_chk {G : Glb} {a : Addr} {dv : Value} (e : fnChk G.h a dv = true) : ∃ fd, fnGet G.h a = some fd ∧ FnAt G a fd ∧ fd.defaults = dv := by
  unfold fnChk at e
  split at e
  · rename_i fd hf
    simp only [Bool.and_eq_true, beq_iff_eq] at e
    obtain ⟨⟨⟨⟨e1, e2⟩, e3⟩, e4⟩, e5⟩ := e
    refine ⟨fd, hf, ⟨?_, code_of_ok e5, e1, e2, List.isEmpty_iff.mp e3⟩, e4⟩
    unfold fnGet at hf
    split at hf
    · rename_i o ho
      split at hf
      · rename_i fd' hd
        cases hf; exact ⟨o, ho, hd⟩
      · cases hf
    · cases hf
  · cases e
theorem plainA_eq : plainA = plainFns.map (·.1) := by unfold plainA plainFns; rw [List.map_append, List.map_append, List.map_map, List.map_map]; rfl
theorem map_eq_mem {α β : Type} {f g : α → β} : ∀ {l : List α}, l.map f = l.map g → ∀ x ∈ l, f x = g x
  | [], _, x, hx => (nomatch hx)
  | y :: l, h, x, hx => by
    simp only [List.map_cons, List.cons.injEq] at h
    rcases List.mem_cons.mp hx with rfl | hx
    · exact h.1
    · exact map_eq_mem h.2 x hx
theorem fn_said {h : Heap} (e : fnLook h = fnExp) : ∀ p ∈ plainFns ++ dfltFns, ∃ fd, fnGet h p.1 = some fd ∧ fd.body = .stmts (bodyOf p.2) ∧ fd.scope = scopeOf p.2 ∧ fd.params = argsOf p.2 := fun p hp => by
  have e' : (plainFns ++ dfltFns).map (fun p : Addr × Stmt => (fnGet h p.1).map fun fd => (fd.body, fd.scope, fd.params)) = fnExp := by
    rw [← e]; unfold fnLook; rw [plainA_eq, show ([36, 244] : List Addr) = dfltFns.map (·.1) from rfl, ← List.map_append, List.map_map]; rfl
  have := map_eq_mem e' p hp
  obtain ⟨fd, h1, h2⟩ := Option.map_eq_some_iff.mp this
  simp only [Prod.mk.injEq] at h2
  exact ⟨fd, h1, h2⟩
theorem fragL_in (h : Heap) : ∀ (l : List Addr) (a : Addr) (o : Obj), (fragL h l).lookup a = some o → h.get? a = some o
  | [], a, o, e => by cases e
  | b :: r, a, o, e => by
    unfold fragL at e
    split at e
    · rename_i ob hb
      rw [List.lookup_cons] at e
      cases q : a == b with
      | true => rw [q] at e; cases e; rw [beq_iff_eq.mp q]; exact hb
      | false => rw [q] at e; exact fragL_in h r a o e
    · exact fragL_in h r a o e
theorem frag_in (h : Heap) : (frag h).In h := fun a o e => fragL_in h kAddrs a o e
theorem opIs_eq {x : Option (Option Value)} {y : Option Value} (e : opIs x y = true) : x = some y := by
  unfold opIs at e
  split at e
  · rw [beq_iff_eq.mp e]
  · cases e
theorem refuse_ok (Cl : Addr) (e : Addr) : refuseLoop (.ref e) "__setattr__" (.ref Cl :: excB) = pure () := by
  unfold excB; first | rfl | kernel_rfl
theorem excB_has : excB.contains (.type "ValueError") = true ∧ excB.contains (.type "AttributeError") = false ∧ excB.contains (.type "NameError") = false ∧ excB.contains (.type "BaseException") = true ∧ excB.contains (.type "object") = true := by decide +kernel
theorem exc_of {K : Frag} {Cl : Addr} (e : excAll K Cl = true) : ExcC K Cl 36 := by
  unfold excAll at e
  simp only [Bool.and_eq_true, beq_iff_eq] at e
  obtain ⟨⟨⟨⟨⟨e0, e1⟩, e2⟩, e3⟩, e4⟩, e5⟩ := e
  refine ⟨?_, opIs_eq e1, e2, opIs_eq e3, opIs_eq e4, e5⟩
  unfold excOk at e0
  split at e0
  · rename_i c dd cd sl hK
    simp only [Bool.and_eq_true, beq_iff_eq, Bool.not_eq_true'] at e0
    obtain ⟨⟨⟨⟨a1, a2⟩, a3⟩, a4⟩, a5⟩ := e0
    split at a5
    · rename_i k0 k1 k2 k3 k k5 hs
      have hk : k = some (.builtin "ValueError.__new__") := beq_iff_eq.mp a5
      have hsl : sl = #[k0, k1, k2, k3, k, k5] := by rw [← Array.toArray_toList (xs := sl), hs]
      refine absP fun P₀ hP₀ => ?_
      obtain ⟨b1, b2, b3, b4, b5⟩ := excB_has
      obtain ⟨nm, bs, mro, ns, q, hd, sn, sub, ab, col, del⟩ := cd
      refine hP₀ ?_; clear hP₀ P₀
      dsimp only at a2 a3 a4
      subst a1; subst a2; subst a3; subst a4; subst hk; subst hsl
      exact ⟨nm, q, ns, bs, excB, sn, sub, ab, col, dd, k0, k1, k2, k3, k5, hK, b1, b2, b3, b4, b5, refuse_ok Cl⟩
    · cases a5
  · cases e0
theorem meth_of {K : Frag} {Cl : Addr} {x : Str} {f : Addr} (e : methAll K Cl x f = true) : MethC K Cl x f := by
  unfold methAll at e
  simp only [Bool.and_eq_true, beq_iff_eq] at e
  obtain ⟨⟨⟨e0, e1⟩, e2⟩, e3⟩ := e
  exact ⟨opIs_eq e0, opIs_eq e1, opIs_eq e2, e3⟩
theorem makes_of_all {K : Frag} {Cl f : Addr} (e : makesAll K Cl f = true) : MakesC K Cl f := by
  unfold makesAll at e
  simp only [Bool.and_eq_true, beq_iff_eq] at e
  obtain ⟨⟨⟨e0, e1⟩, e2⟩, e3⟩ := e
  exact ⟨e0, opIs_eq e1, e2, e3⟩
theorem rds_of {K : Frag} {Cl : Addr} (e : rdsAll K Cl = true) : Reads1 K Cl ∧ Stores1 K Cl := by
  unfold rdsAll at e
  simp only [Bool.and_eq_true] at e
  obtain ⟨⟨⟨⟨e0, e1⟩, e2⟩, e3⟩, e4⟩ := e
  exact ⟨⟨opIs_eq e0, opIs_eq e1, e2⟩, ⟨opIs_eq e3, e4, e2⟩⟩
theorem intIs_eq {x : Option Value} {k : Int} (e : intIs x k = true) : ∃ t, x = some (.int k t) := by
  unfold intIs at e
  split at e
  · rename_i i t; exact ⟨t, by rw [beq_iff_eq.mp e]⟩
  · cases e
theorem dflt1_of {h : Heap} (e : dflt1 h = true) : ∃ oT v n, h.get? 29 = some oT ∧ oT.data = .seq #[v] n := by
  unfold dflt1 at e
  split at e
  · rename_i o ho
    split at e
    · rename_i vs n hd
      obtain ⟨v, rfl⟩ : ∃ v, vs = #[v] := by
        have := beq_iff_eq.mp e
        exact Array.size_eq_one_iff.mp this
      exact ⟨o, v, n, ho, hd⟩
    · cases e
  · cases e
theorem dflt2_of {h : Heap} (e : dflt2 h = true) : ∃ oT t n, h.get? 237 = some oT ∧ oT.data = .seq #[.int 0 t, .none] n := by
  unfold dflt2 at e
  split at e
  · rename_i o ho
    split at e
    · rename_i vs n hd
      split at e
      · rename_i i t v hv
        simp only [Bool.and_eq_true, beq_iff_eq] at e
        obtain ⟨rfl, rfl⟩ := e
        refine ⟨o, t, n, ho, ?_⟩
        rw [hd, ← Array.toArray_toList (xs := vs), hv]
      · cases e
    · cases e
  · cases e
theorem PW_of {G : Glb} (ok : G.Ok) (e : headChk G.mg G.h G.K = true) (f : fnLook G.h = fnExp) : PW G := by
  unfold headChk at e
  simp only [Bool.and_eq_true, List.all_eq_true, beq_iff_eq] at e
  obtain ⟨⟨⟨⟨⟨⟨⟨⟨⟨⟨⟨⟨⟨⟨⟨⟨⟨⟨⟨e1, e2⟩, e3⟩, e4⟩, e5⟩, e6⟩, e7⟩, e8⟩, e9⟩, e10⟩, e11⟩, e12⟩, e13⟩, e14⟩, e15⟩, e16⟩, e17⟩, e18⟩, e19⟩, e20⟩ := e
  have S := fn_said f
  have pf : ∀ p ∈ plainFns, Fun G p.1 p.2 := fun p hp => by
    obtain ⟨fd, h1, h2, h3⟩ := fn_of_chk (e6 p.1 (by rw [plainA_eq]; exact List.mem_map_of_mem hp))
    refine absP fun P₀ hP₀ => ?_
    obtain ⟨fd', h4, h5, h6, h7⟩ := S p (List.mem_append_left _ hp)
    refine hP₀ ?_; clear hP₀ P₀
    rw [h1] at h4; cases h4
    exact ⟨fd, h2, h5, h6, h7, h3⟩
  have df : ∀ p ∈ dfltFns, ∀ T, fnChk G.h p.1 (.ref T) = true → FunD G p.1 p.2 T := fun p hp T hT => by
    refine absP fun P₀ hP₀ => ?_
    obtain ⟨fd, h1, h2, h3⟩ := fn_of_chk hT
    obtain ⟨fd', h4, h5, h6, h7⟩ := S p (List.mem_append_right _ hp)
    refine hP₀ ?_; clear hP₀ P₀
    rw [h1] at h4; cases h4
    exact ⟨fd, h2, h5, h6, h7, h3⟩
  refine ⟨ok, fun p hp => ⟨e1 p hp, pf (p.2.1, st p.2.2) ?_⟩, fun p hp => e2 p hp, fun p hp => e3 p hp, fun p hp => intIs_eq (e4 p hp), fun c hc => exc_of (e11 c hc), ?_, e5, fun c hc t ht => e12 c hc t ht, fun p hp => ⟨meth_of (e13 p hp), pf (p.2.2.1, meth p.2.2.2.1 p.2.2.2.2) ?_⟩,
    ⟨makes_of_all e14, makes_of_all e15, makes_of_all e16⟩, pf (161, meth 20 0) ?_, ?_, fun c hc => ?_, fun p hp => ?_⟩
  · exact List.mem_append_left _ (List.mem_append_left _ (List.mem_map.mpr ⟨p, hp, rfl⟩))
  · refine absP fun P₀ hP₀ => ?_
    obtain ⟨oT, v, n, a, b⟩ := dflt1_of e9
    refine hP₀ ?_; clear hP₀ P₀
    exact ⟨29, oT, v, n, df (36, meth 2 0) (.head _) 29 e7, a, b⟩
  · exact List.mem_append_left _ (List.mem_append_right _ (List.mem_map.mpr ⟨p, hp, rfl⟩))
  · exact List.mem_append_right _ (.head _)
  · refine absP fun P₀ hP₀ => ?_
    obtain ⟨oT, t, n, a, b⟩ := dflt2_of e10
    refine hP₀ ?_; clear hP₀ P₀
    exact ⟨237, oT, t, n, df (244, meth 26 0) (.tail _ (.head _)) 237 e8, a, b⟩
  · simp only [List.mem_cons, List.not_mem_nil, or_false] at hc
    rcases hc with rfl | rfl | rfl
    · exact rds_of e17
    · exact rds_of e18
    · exact rds_of e19
  · exact ⟨opIs_eq (e20 p hp).1, opIs_eq (e20 p hp).2⟩

end

section
set_option tactic.hygienic false

end

section
set_option tactic.hygienic false
open PySem PySem.W PyProof.Rows
theorem size_boot (w : World) : ((boot_heap w.params).isNs mainGlobals && (#[] : Array GenState).size == 0, (boot_heap w.params).objs.size, (boot_heap w.params).nsMap mainGlobals "__annotations__") = (true, 11, some (.ref 6)) := by kernel_rfl
theorem op_eq : opening pw = plainProg pw.main.scope.names := by kernel_rfl
theorem fen_eq (s : Shared) : fenceModules? pw s = some s := by kernel_rfl
theorem topRunT_of {tb : String → Option Builtin} {p : Program} {w : World} {n₀ : Nat} {ann : Option Value} {n : Nat} : ∀ {s s' : SharedT} {t : Thread}, topRunT tb p w n₀ ann n s t = some s' → topRun tb p w n₀ ann n s.abs t = some s'.abs := by
  induction n with
  | zero => intro s s' t h; exact nomatch h
  | succ n ih =>
    intro s s' t h
    unfold topRunT at h
    dsimp only at h
    cases he : through t with
    | true => rw [he] at h; cases h; simp only [topRun, he]
    | false =>
      rw [he] at h
      cases hk : stepOk n₀ ann t with
      | false => rw [hk] at h; cases h
      | true =>
        rw [hk] at h
        cases hs : stepT (denote tb) p w s t with
        | none => rw [hs] at h; cases h
        | some r => rw [hs] at h; simp only [topRun, he, hk, stepT_spec (t' := r.2) (s' := r.1) hs]; exact ih h
theorem boot_abs (w : World) (os : OsState) : (bootT w os).abs = ⟨boot_heap w.params, #[], boot_drawn, boot_toks, os⟩ := by kernel_rfl
theorem left_ok : LeftO pw qv looseL Xt (fun s => fnLook s.heap) (fun u₀ => fnExp) 4000 := fun w => by
  have ho := boot_open (p := pw) (N := 4000) op_eq (by decide) fen_eq w
  refine absP fun P₀ hP₀ => ?_
  obtain ⟨⟨h, gs, d, k, os⟩, e, e'⟩ := Option.map_eq_some_iff.mp ho
  refine hP₀ ?_; clear hP₀ P₀
  obtain ⟨rfl, rfl, rfl, rfl⟩ : h = boot_heap w.params ∧ gs = #[] ∧ d = boot_drawn ∧ k = boot_toks := by simpa using e'
  have hs := shot_eq w os
  unfold shotP shotE at hs
  obtain ⟨s₁, r₁, z⟩ := Option.map_eq_some_iff.mp hs
  obtain ⟨s₂, r₂, e₂⟩ := Option.map_eq_some_iff.mp r₁
  have r := topRunT_of r₂
  rw [boot_abs, e₂] at r
  obtain ⟨z1, z2, z3⟩ : _ ∧ _ ∧ _ := by simpa only [Prod.mk.injEq] using z
  have r' := topRun_mono (4000 - 3500) _ _ _ _ r
  obtain ⟨b1, b2, b3⟩ : _ ∧ _ ∧ _ := by simpa only [Prod.mk.injEq] using size_boot w
  have t : topFrom treeTable pw w 4000 ⟨boot_heap w.params, #[], boot_drawn, boot_toks, os⟩ = some s₁ := by
    unfold topFrom
    dsimp only
    rw [b1, b2, b3, r']
    simp only [Option.bind_some, z1]
  unfold openEnds
  rw [e, Option.bind_some, t, Option.map_some]
  exact congrArg some (Prod.ext z2 z3)

end

section
set_option tactic.hygienic false
open PySem PySem.W PyProof.Rows
variable {G : Glb} {s s' s₁ : Shared} {loc' : Loc}
theorem clean_caller : clean (.builtin "claim.caller" {}) = true := by decide +kernel
theorem thread_X {prog : Program} {w : World} {t : Sem Fin} {R : Result → Shared → Prop} (hreg : s.asleep)
    (h : wpX (model prog w) callerA t (fun fin s' => ∃ f, fin = .done f ∧ (R (.ok f) s' ∧ leftWithCleanup s'.gens = false)) (fun e s' => R (.error e) s' ∧ leftWithCleanup s'.gens = false) s) :
    ∃ n r s' s'', runN (denote table) prog w n s ⟨t, .builtin "claim.caller" {}, default, []⟩ = .halted (outcomeOf r) s' ∧
      schedN (denote table) prog w n (.single s ⟨t, .builtin "claim.caller" {}, default, []⟩) = .halted (outcomeOf r) s' ∧ s'.forget = s''.forget ∧ R r s'' := by
  obtain ⟨n, r, a, b, hs, hn, hfo, hR⟩ := wp_halts_full (M := model prog w) (R := R) (c := .builtin "claim.caller" {}) (p := default) hreg
    (Sem.wp_mono _ _ _ (fun fin p' s' ⟨f, e, q⟩ => by subst e; exact q) (fun u₀ u₀ u₀ q => q) _ _ (h _ default caller_in clean_caller (fun u₀ x => nomatch x)))
  exact ⟨n, r, b, a, hn, hs, hfo, hR⟩
theorem callFrom_X {c : ClaimW} {tree : List Value → Sem Fin} {w : World} {free : Addr → Prop} {gens : Prop} {kept : Heap → Prop} (hz : s.asleep) (hgens : s.gens = #[])
    (hr : ∀ args cls, c.raises args cls = false) (hp : ∀ args ds, c.post args (.bool true) ds = true) (hsame : c.same = none) (hwi : c.within = []) (hi : ∀ a b, c.ident a b = true)
    (spec : ∀ args, c.pre args = true → WData.layableAll args = true → ∀ ord : List DictEntry → List DictEntry, (∀ l, (ord l).Perm l) →
      ∃ vs s₁, layAllW c.records (classAt s.heap) w.params ord args s = some (vs, s₁) ∧
        wpX (model c.prog w) callerA (tree vs) (fun fin s' => fin = .done (.ret (.bool true)) ∧ (∀ b o, s₁.heap.get? b = some o → s'.heap.get? b = some o) ∧ s'.os = s₁.os ∧ s'.gens = s₁.gens ∧ kept s'.heap) (fun u₀ u₀ => False) s₁) :
    c.CallFrom (fun vs => ⟨tree vs, .builtin "claim.caller" {}, default, []⟩) w free gens kept s := fun args hpre hlay ord hord => by
  refine absP fun P₀ hP₀ => ?_
  obtain ⟨vs, s₁, hlaid, hc⟩ := spec args hpre hlay ord hord
  have al := layAllW_rest _ _ _ hlaid
  obtain ⟨n, r, s', s'', hrun, hsched, hfo, er, hk, ho, hK⟩ := thread_X (prog := c.prog) (w := w) (t := tree vs) (s := s₁)
    (R := fun r s' => r = .ok (.ret (.bool true)) ∧ (∀ b o, s₁.heap.get? b = some o → s'.heap.get? b = some o) ∧ s'.os = s₁.os ∧ kept s'.heap) (Shared.asleep_of_life al.2.2.2 hz)
    (wpX_mono hc (fun fin s' ⟨a, b, d, e, f⟩ => ⟨_, a, ⟨rfl, b, d, f⟩, by rw [e, al.1, hgens]; exact leftWithCleanup_false_of_bare (fun x h => by simp at h)⟩) fun u₀ u₀ x => x.elim)
  subst er
  obtain ⟨eh, _, _, eo, _⟩ := Shared.forget_eq hfo
  rw [← eh] at hk hK
  rw [← eo] at ho
  obtain ⟨bs, rd, _, _⟩ := reads_layAllW hord _ _ _ hlaid hlay s'.heap hk
  have hlife : s'.heap.life = s.heap.life := (runN_life _ _ _ hrun).trans al.2.2.2
  refine hP₀ ?_; clear hP₀ P₀
  refine ⟨vs, s₁, hlaid, n, _, s', hsched, .inl ⟨.bool true, rfl, hr args, ⟨.bool true, args, [], bs, .bool true, rd, hp args args, fun u₀ => ⟨List.nodup_nil, fun u₀ h => (nomatch h), fun u₀ h => (nomatch h)⟩, fun u₀ u₀ => hi _ _⟩, (fun i h => by rw [hsame] at h; cases h), (fun b o h u₀ u₀ u₀ => .inl (hk b o h)), (fun i h => by rw [hwi] at h; cases h)⟩, (fun u₀ i x h => by rw [hgens] at h; simp at h), hK, by rw [hlife], Shared.rest_eq (ho.trans al.2.2.1)⟩

noncomputable def topCx (s : Shared) : Cx := { A := callerA, env := default, own := [], fs := [], s0 := s, M0 := [] }
theorem Rep.start {cm m : Str → Option Value} {env : Env} (base : ∀ b o, G.h.get? b = some o → s.heap.get? b = some o) (I : InCallC s env.locals m env.cells cm s₁) (hL : env.frame = some env.locals) (hsc : env.scope.kind = .function)
    (hg : env.globals = mainGlobals) (hbi : env.builtins = builtinsNs) (hcn : (env.cells.map (·.1)).Nodup)
    (hl : ∀ x d, loc'.lookup x = some d → ∃ v, (env.kindOf x = some .local ∧ m x = some v ∨ env.kindOf x = some .cell ∧ (env.cells.lookup x).isSome ∧ cm x = some v) ∧ VD s.heap [] v d) :
    Rep G (callee (topCx s) [] s env) loc' [] [] s₁ := by
  have fresh := I.toInCall.fresh
  have keep := I.toInCall.keep
  have ca : ∀ c ∈ env.cells.map (·.2), s.heap.objs.size ≤ c ∧ env.locals ≠ c := fun c hc => by
    obtain ⟨⟨n, c'⟩, hm, rfl⟩ := List.mem_map.mp hc
    have := I.above n c' hm
    exact ⟨Nat.le_trans fresh (Nat.le_of_lt this), Nat.ne_of_lt this⟩
  have own : ∀ a ∈ (callee (topCx s) [] s env).own, s.heap.objs.size ≤ a := fun a ha => by
    rcases List.mem_cons.mp ha with rfl | ha
    · exact fresh
    · exact (ca a ha).1
  have mono : Mono s.heap s₁.heap [] (MM (callee (topCx s) [] s env) []) := .of (fun b o u₀ e => keep b o e) fun b hb => by
    rcases List.mem_append.mp hb with q | q
    · exact .inr (size_none (own b q))
    · exact nomatch q
  obtain ⟨h₁, tk, hs⟩ := I.toInCall.same
  refine ⟨⟨hsc, hg, hbi, base, (fun a ha => nomatch ha), fun a ha => ?_, .head _, (fun a ha h => nomatch h), fun y c q e => Nat.lt_irrefl _ (e ▸ I.above y c (mem_of_lookup q)), fun x y c hx hy => name_of_addr I.apart (mem_of_lookup hx) (mem_of_lookup hy), fun e he => ?_⟩, ⟨m, I.toInCall.ns, fun x d q => ?_⟩, fun x c q => ⟨(fun z => nomatch z), _, I.cell x c q⟩, (fun u₀ h => nomatch h), (fun p hp => nomatch hp), fun a ha => ?_, ?_, fun a ha => ?_, ?_⟩
  · simp only [callee, topCx, Cx.F, List.filterMap_cons, List.filterMap_nil, hL, List.mem_cons, List.not_mem_nil, or_false] at ha
    subst ha
    cases e : G.h.get? env.locals with
    | none => rfl
    | some o => exact absurd (lt_of_get (base _ o e)) (Nat.not_lt.mpr fresh)
  · rcases List.mem_cons.mp he with rfl | he
    · exact ⟨by rw [hsc]; decide, _, hL, .inl rfl⟩
    · exact nomatch he
  · obtain ⟨v, hv, hd⟩ := hl x d q
    refine ⟨v, ?_, hd.mono mono⟩
    unfold VarAt
    rcases hv with ⟨e, z⟩ | ⟨e, c, z⟩
    · rw [show (callee (topCx s) [] s env).env.kindOf x = some .local from e]; exact z
    · obtain ⟨c, hc⟩ := Option.isSome_iff_exists.mp c
      rw [show (callee (topCx s) [] s env).env.kindOf x = some .cell from e]; exact ⟨c, hc, z ▸ I.cell x c hc⟩
  · rcases List.mem_cons.mp ha with rfl | ha
    · refine absP fun P₀ hP₀ => ?_
      obtain ⟨o, es, ep, e, d, r⟩ := I.toInCall.ns
      refine hP₀ ?_; clear hP₀ P₀
      exact ⟨o, e, fun vs n q => by rw [d] at q; cases q⟩
    · obtain ⟨⟨n, c⟩, hm, rfl⟩ := List.mem_map.mp ha
      obtain ⟨o, e, d⟩ := I.cell n c (lookup_of_mem hcn hm)
      exact ⟨o, e, fun vs n q => by rw [d] at q; cases q⟩
  · refine List.nodup_append.mpr ⟨List.nodup_cons.mpr ⟨fun q => (ca _ q).2 rfl, ?_⟩, List.nodup_nil, fun a ha b hb q => nomatch hb⟩
    exact List.pairwise_map.mpr I.apart
  · rcases List.mem_append.mp ha with q | q
    · exact .inr (size_none (own a q))
    · exact nomatch q
  · exact ⟨fun b o u₀ u₀ e => keep b o e, fun b o u₀ u₀ e => ⟨o.slots, keep b o e⟩, by rw [hs]; rfl, by rw [hs]; rfl⟩

theorem top_law (P : PW G) (base : ∀ b o, G.h.get? b = some o → s.heap.get? b = some o) {v : Value} {d : D} (V : VD s.heap [] v d) {k : Nat} (hk : k ≤ 40)
    (H : SEXX G k (scopeOf (st 51)) [("script", d)] [] (bodyOf (st 51)) (fun u₀ u₀ => False) (fun d u₀ => d = .bool true)) :
    codeX (Mo G) callerA (.call (.ref 459) ⟨[v], []⟩) (fun r s' => r = .ok (.ret (.bool true)) ∧ (∀ b o, s.heap.get? b = some o → s'.heap.get? b = some o) ∧ s'.os = s.os ∧ s'.gens = s.gens) s := by
  refine absP fun P₀ hP₀ => ?_
  obtain ⟨fd, F, hb, hsc, hpa, hdf⟩ := (P.fun (x := "law") (a := 459) (i := 51) (by decide)).ex
  obtain ⟨o, ho, hd⟩ := F.obj
  refine hP₀ ?_; clear hP₀ P₀
  let env := callEnvC fd s.heap.objs.size 459
  have hk0 : fd.scope.kind = .function := by rw [hsc]; rfl
  have hcn : (cellNames fd.scope.names).Nodup := by rw [hsc]; decide
  have hkl : fd.scope.names.lookup ("script" : Str) = some .local := by rw [hsc]; decide
  have hbind : bindArgs fd ⟨[v], []⟩ = pure [(("script" : Str), v)] := by unfold bindArgs; rw [hpa, hdf]; kernel_rfl
  have hkd : ∀ x ∈ [(("script" : Str), v)], fd.scope.names.lookup x.1 = some .local ∨ (fd.scope.names.lookup x.1 = some .cell ∧ ((cellsFrom (s.heap.objs.size + 1) fd.scope.names []).lookup x.1).isSome = true) := fun x hx => by
    simp only [List.mem_cons, List.not_mem_nil, or_false] at hx
    subst hx; exact .inl hkl
  refine x_callFn (by decide) (base 459 o ho) hd (by rw [hsc]; rfl) (by rw [hsc]; rfl) hb (F.code.keeps base) (.of (wpAny_of_eq hbind ?_))
  rw [F.closure]
  refine .of (wpAny_newFunctionEnv_cells hk0 hkd fun env' he s' I => ⟨(P.ok.nolimit.keeps base).keeps I.toInCall.keep, x_func ?_⟩)
  have he' : env' = env := he
  subst he'
  have R' : Rep G (callee (topCx s) [] s env) [("script", d)] [] [] s' := Rep.start base I rfl hk0 F.globals F.builtins (cells_nodup hcn _) fun x e q => by
    rw [List.lookup_cons] at q
    cases hx : x == ("script" : Str) with
    | false => rw [hx] at q; cases q
    | true =>
      rw [hx] at q; cases q
      have := beq_iff_eq.mp hx
      subst this
      have key := (bind_lookup (env := env) ["script"] [v] (fun u₀ => none) (fun u₀ => none) (by decide) rfl (fun y hy => by
        simp only [List.mem_cons, List.not_mem_nil, or_false] at hy
        subst hy; exact .inl hkl) "script").2 0 v rfl rfl
      rcases key with z | ⟨z1, z2⟩
      · exact ⟨v, .inl z, V⟩
      · exact ⟨v, .inr ⟨z1, cells_some z1 _, z2⟩, V⟩
  have hI : Is (callee (topCx s) [] s env) (scopeOf (st 51)) := ⟨hsc, fun x q => by
    rw [← hsc] at q
    obtain ⟨c, hc⟩ := Option.isSome_iff_exists.mp (cells_some q (s.heap.objs.size + 1))
    exact ⟨c, hc, .tail _ (List.mem_map.mpr ⟨_, mem_of_lookup hc, rfl⟩)⟩, ⟨_, rfl⟩, rfl⟩
  have hC : Can G (callee (topCx s) [] s env) k := ⟨⟨by show 301 + 1 + _ ≤ _; lia, by show 4 + 3 + _ ≤ _; lia⟩, rfl, rfl⟩
  refine wpX_mono (H _ hI hC [] s' R') (fun fl s2 q => ?_) fun e s2 q => ?_
  · cases fl with
    | next => obtain ⟨l2, m2, R2, h2⟩ := q; cases h2
    | ret u =>
      refine absP fun P₀ hP₀ => ?_
      obtain ⟨d2, l2, m2, R2, h2⟩ := q
      refine hP₀ ?_; clear hP₀ P₀
      subst h2
      have := R2.top.bool_inv; dsimp only at this; subst this
      refine ⟨rfl, fun b o e => R2.lat.keep b o (fun z => nomatch z) (fun z => ?_) e, R2.lat.os, R2.lat.gens⟩
      have : b = s.heap.objs.size := List.mem_singleton.mp (show b ∈ [s.heap.objs.size] from z)
      subst this
      rw [size_none (Nat.le_refl _)] at e; cases e
    | _ => exact q.elim
  · obtain ⟨e, c, T, l2, m2, rfl, R2, h2⟩ := q
    exact h2.elim

end

section
set_option tactic.hygienic false
open PySem PySem.W PyProof.Rows
noncomputable abbrev LL : OpenLaw := PySem.Challenge.rw_no0094_01
noncomputable abbrev RR : OpenRow := LL.row
theorem items_ints {ds : List WData} : WShape.hasItems [] ds .int = true → ∃ xs : List Int, ds = xs.map .int := by
  induction ds with
  | nil => exact fun u₀ => ⟨[], rfl⟩
  | cons d ds ih =>
    intro h
    have h' := Bool.and_eq_true_iff.mp (show (WShape.has [] d .int && WShape.hasItems [] ds .int) = true from h)
    obtain ⟨xs, rfl⟩ := ih h'.2
    have h1 := h'.1
    cases d with
    | int i => exact ⟨i :: xs, rfl⟩
    | _ => exact Bool.noConfusion (show false = true from h1)
theorem args_of {args : List WData} (h : WShape.hasAll [] args [.list .int] = true) : ∃ xs : List Int, args = [.list (xs.map .int)] := by
  cases args with
  | nil => exact Bool.noConfusion (show false = true from h)
  | cons d r =>
    cases r with
    | nil =>
      have h1 := (Bool.and_eq_true_iff.mp (show (WShape.has [] d (.list .int) && true) = true from h)).1
      cases d with
      | list ds =>
        obtain ⟨xs, rfl⟩ := items_ints (show WShape.hasItems [] ds .int = true from by
          have h2 : (WShape.hasItems [] ds .int || false) = true := h1
          rwa [Bool.or_false] at h2)
        exact ⟨xs, rfl⟩
      | _ => exact Bool.noConfusion (show false = true from h1)
    | cons e r => exact Bool.noConfusion (Bool.and_eq_true_iff.mp (show (WShape.has [] d (.list .int) && false) = true from h)).2
theorem len_of {xs : List Int} (h : (LL.pre).holds [] { args := [.list (xs.map .int)] } = true) : xs.length ≤ 63 := by
  have e : LL.pre = .and (.not (.lt (.lit (.int 63)) (.len (.arg 0)))) (.lit (.bool true)) := rfl
  rw [e] at h
  refine Nat.le_of_not_lt fun q => ?_
  have q' : (63 : Int) < (xs.length : Int) := by exact_mod_cast q
  have l : less? (.int 63) (.int (xs.length : Int)) = some true := by simp [less?, Num.less?, q']
  simp [WTm.holds, WTm.value, l] at h
theorem reads_ints {R : WRecords} {cl : Str → Option Addr} {h : Heap} {xs : List Int} : ∀ {vs : List Value} {as : List Addr}, ReadsAllW R cl h vs (xs.map .int) as → FVs h [] vs (xs.map .int) := by
  induction xs with
  | nil =>
    intro vs as r
    obtain ⟨rfl, u⟩ := readsAllW_nil_inv r
    exact .nil
  | cons x xs ih =>
    intro vs as r
    obtain ⟨v, vs, _, _, rfl, u, a, b⟩ := readsAllW_cons_inv r
    obtain ⟨t, rfl, u⟩ := readsW_int_inv a
    exact .cons (.int _ _) (ih b)
theorem vals_of {R : WRecords} {cl : Str → Option Addr} {h : Heap} {vs : List Value} {xs : List Int} {as : List Addr} (r : ReadsAllW R cl h vs [.list (xs.map .int)] as) : ∃ v, vs = [v] ∧ FV h [] v (.list (xs.map .int)) := by
  obtain ⟨v, vs, _, _, rfl, u, a, b⟩ := readsAllW_cons_inv r
  obtain ⟨rfl, u⟩ := readsAllW_nil_inv b
  obtain ⟨l, vs, _, rfl, ⟨o, ho, hc, n, hd⟩, ri, u⟩ := readsW_list_inv a
  exact ⟨_, rfl, .list (fun h => nomatch h) ho hc hd (reads_ints ri)⟩
noncomputable abbrev LawOk : Prop := ∀ (G : Glb) (P : PW G) (xs : List Int), xs.length ≤ 63 → ∃ k, k ≤ 40 ∧ SEXX G k (scopeOf (st 51)) [("script", .dat (.list (xs.map .int)))] [] (bodyOf (st 51)) (fun u₀ u₀ => False) (fun d u₀ => d = .bool true)
theorem prom : RR.toRowW.promised := ⟨[.list [.int 3, .int 1]], by decide +kernel, by decide +kernel⟩
theorem open_said : (chainsOk qv && opensWell pw && (frees RR.toRowW && RR.within.isEmpty)) = true := by kernel_rfl
theorem opens_ok : Fast.tw12908688711261696721 pw = true := by kernel_rfl
theorem law_said : LL.wellSaid = true := by
  rw [Fast.te9446332074065402090]
  delta Fast.tw9446332074065402090 Fast.tw17960256430627541270 Fast.tw2436336058641802641
  rw [show Fast.tw12908688711261696721 (Fast.tw2368527892694137696 LL).prog = true from opens_ok]
  kernel_rfl
theorem bare_said : pw.bare := ⟨rfl, rfl, rfl, rfl, rfl, by kernel_rfl⟩
theorem def_said : ∃ d kwd, defOf qv ("law" : Str) = some (d, kwd) ∧ pw.theDef ("law" : Str) = some (d.params, d.body, d.scope) ∧ kwWritten? d.params.kwonlyargs d.params.kw_defaults = some kwd := by
  refine ⟨_, _, by rfl, by rfl, by rfl⟩
theorem post_ok (args ds : List WData) : RR.toRowW.claim.post args (.bool true) ds = true := by
  show (WShape.has [] (.bool true) .bool && (WTm.eq .res (.lit (.bool true))).holds [] { args := args, res := some (.bool true), after := ds }) = true
  first | rfl | with_unfolding_all rfl | kernel_rfl
theorem row_ok (LAW : LawOk) (said : RR.wellSaid = true) : RR.Holds := by
  refine absP fun P₀ hP₀ => ?_
  obtain ⟨ok, k5⟩ := Bool.and_eq_true_iff.mp open_said
  obtain ⟨hch, how⟩ := Bool.and_eq_true_iff.mp ok
  obtain ⟨k5, k6⟩ := Bool.and_eq_true_iff.mp k5
  obtain ⟨hsame, hu, ha, hap, hm⟩ := frees_parts k5
  refine hP₀ ?_; clear hP₀ P₀
  have L := left_ok.behind (XP := fun mg h => headChk mg h (frag h) = true) (fun s hs => hs) hch
  refine ⟨said, prom, ⟨bare_said, how, rfl⟩, prom.witness, fun w => ⟨(L w).1, fun s' hs' => ?_⟩⟩
  refine absP fun P₀ hP₀ => ?_
  obtain ⟨s₀, hf, hg0, s, hT, hz, hgens, hg, G0, y⟩ := (L w).2 s' hs'
  have hgens : s.gens = #[] := Array.eq_empty_of_size_eq_zero (beq_iff_eq.mp hgens)
  obtain ⟨d, kwd, d1, d2, d3⟩ := def_said
  refine hP₀ ?_; clear hP₀ P₀
  refine ⟨s₀, hf, hg0, s, hT, fun n hn => ?_, (fun x hx => nomatch hx), (fun x hx => nomatch hx), ?_⟩
  · have : n = ("law" : Str) := List.mem_singleton.mp hn
    subst this
    exact pinned_of_view hg G0 d1 d2 d3
  refine callFrom_X (c := RR.toRowW.claim) (tree := fun vs => do match ← nsGet mainNs RR.name with
      | some f => do ret (← PySem.call f vs)
      | none => unsupported "claim.caller:no-such-global") hz hgens (fun args cls => rfl) post_ok hsame (List.isEmpty_iff.mp k6) (ident_freeW hu ha hap) fun args hpre hlay ord hord => ?_
  obtain ⟨p1, p2⟩ := pre_splitW (r := RR.toRowW) hpre
  obtain ⟨⟨vs, s₁⟩, hlaid⟩ := Option.isSome_iff_exists.mp (layAllW_isSome (P := w.params) (ord := ord) (R := []) (cl := classAt s.heap) (fun c hc => nomatch hc) args RR.args s p1)
  refine ⟨vs, s₁, hlaid, ?_⟩
  have keeps := layAllW_keeps _ _ _ hlaid
  obtain ⟨xs, rfl⟩ := args_of p1
  have hl := len_of p2
  obtain ⟨as, hrd, -, -⟩ := reads_layAllW hord _ _ _ hlaid hlay s₁.heap (fun u₀ u₀ e => e)
  obtain ⟨v, rfl, V⟩ := vals_of hrd
  let G : Glb := { p := pw, w, h := s.heap, K := frag s.heap, mg := s.heap.nsMap mainGlobals, mb := s.heap.nsMap builtinsNs }
  have GO : G.Ok := ⟨G0.T.g, G0.T.b, G0.T.nolimit, frag_in _, G0.T.builtins⟩
  have P : PW G := PW_of GO G0.X y
  obtain ⟨k, hk, H⟩ := LAW G P xs hl
  have C := top_law P (s := s₁) keeps (.dat V) hk H
  have hlaw : s.heap.nsMap mainGlobals ("law" : Str) = some (.ref 459) := P.mg (x := "law") (a := 459) (i := 51) (by decide)
  refine wpX_bind (.of (wpAny_nsGet (G0.T.g.keeps keeps) ?_))
  rw [show RR.name = ("law" : Str) from rfl, hlaw]
  refine wpX_bind (wpX_call (codeX_mono C fun r s2 ⟨e, a, b, c⟩ => ?_))
  subst e
  exact wpX_pure ⟨rfl, a, b, c, fun q => nomatch q⟩

end

end Internal
end Mine
theorem PySem.Challenge.cw_no0094_01_holds : PySem.Challenge.rw_no0094_01.Holds :=
  PySem.W.holds_law Mine.Internal.law_said fun said => Mine.Internal.row_ok (fun G P xs hx => ⟨12, by decide, Mine.Internal.law_ok P xs hx⟩) said
