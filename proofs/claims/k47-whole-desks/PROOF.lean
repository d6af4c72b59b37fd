import PyProof.Rows.All
import Wide.All
import OpenK.AllK
import Wide.FinOn
import KE.KStateDown
import HandS.ForExc
import HandS.Dict
import HandS.Iter
import HandS.SlotsOwn
import HandS.HeadHook4
import HandS.HeadWalk
import HandS.Head2
import PySem.Challenge.RW_ifthenbooks_k47_whole_desks
import KE.KWithOwn
import KE.SortKeyHeap
import HandS.ForMost
import HandS.More
import HandS.Wide
import HandS.Conv
import HandS.Deep
import HandS.DictComp
import HandS.ExcBuiltin
import HandS.IsInst
import HandS.TryMany
import HandS.TupAny
import HandS.Walk
import HandS.Zip
import HandS.Flow
import HandS.Star
import HandS.NestedK
import HandS.SortKw
import HandS.HotCalls
import KE.GoesMore
import HandS.Zip0
import PyProof.InstNe
import KE.SortData
import KE.KSortKey
set_option Elab.async false
set_option linter.all false
set_option maxRecDepth 100000
namespace K47
open PySem L2
def top (i : Nat) : Stmt := PySem.Challenge.pw_ifthenbooks_k47_whole_desks.main.body.getD i (.Pass ⟨0, 0, 0, 0⟩)
abbrev s_is_integer : Stmt := top 12
abbrev s_is_set : Stmt := top 13
abbrev s_is_rule : Stmt := top 14
abbrev s_is_within : Stmt := top 15
abbrev s_closure : Stmt := top 16
abbrev s_Book_init : Stmt := inClass (top 17) 1
abbrev s_Book_eq : Stmt := inClass (top 17) 2
abbrev s_Book_len : Stmt := inClass (top 17) 3
abbrev s_check_book : Stmt := top 18
abbrev s_check_rule : Stmt := top 19
abbrev s_Desk_init : Stmt := inClass (top 22) 1
abbrev s_Desk_now : Stmt := inClass (top 22) 2
abbrev s_Desk_journal : Stmt := inClass (top 22) 3
abbrev s_Desk_changed : Stmt := inClass (top 22) 4
abbrev s_Desk_put : Stmt := inClass (top 22) 5
abbrev s_Desk_take : Stmt := inClass (top 22) 6
abbrev s_Desk_move : Stmt := inClass (top 22) 7
abbrev s_Desk_undo : Stmt := inClass (top 22) 8
abbrev s_Desk_branch : Stmt := inClass (top 22) 9
abbrev s_Desk_trial : Stmt := inClass (top 22) 10
abbrev s_Desk_attempt : Stmt := inClass (top 22) 11
abbrev s_Desk_asked : Stmt := inClass (top 22) 12
abbrev s_Trial_init : Stmt := inClass (top 23) 1
abbrev s_Trial_enter : Stmt := inClass (top 23) 2
abbrev s_Trial_exit : Stmt := inClass (top 23) 3
abbrev s_l_draw : Stmt := top 25
abbrev s_l_cell_at : Stmt := top 26
abbrev s_l_digits : Stmt := top 27
abbrev s_l_take : Stmt := top 28
abbrev s_l_pool : Stmt := top 29
abbrev s_l_sets : Stmt := top 30
abbrev s_l_within : Stmt := top 31
abbrev s_l_set : Stmt := top 32
abbrev s_l_rules : Stmt := top 33
abbrev s_l_shut : Stmt := top 34
abbrev s_l_closed_sets : Stmt := top 35
abbrev s_l_closure : Stmt := top 36
abbrev s_l_word : Stmt := top 37
abbrev s_l_changed : Stmt := top 38
abbrev s_l_is_right : Stmt := top 39
abbrev s_l_change : Stmt := top 40
abbrev s_l_do : Stmt := top 41
abbrev s_l_step : Stmt := top 42
abbrev s_l_inside_right : Stmt := top 43
abbrev s_l_attempt_right : Stmt := top 44
abbrev s_l_law : Stmt := top 45
end K47
set_option maxHeartbeats 0
namespace K47
open PySem PySem.Spec PyProof.Rows L2
/-! ### a def by a path, its function object -/
structure DefP where
  path : PySem.W.Frag → Addr
  name : Str
  qual : Str
  st : Stmt
def getterOf (K : PySem.W.Frag) (p : Addr) : Addr := match PySem.W.recIn K p "property" with
  | some (.ref g :: _) => g
  | _ => 0
def fnP (K : PySem.W.Frag) (a : Addr) : He.FnW := match K.lookup a with
  | some ⟨_, _, .func fd, _⟩ => some (fd.name, fd.qualname, fd.params, fd.body, fd.scope, fd.globals, fd.closure, fd.builtins)
  | _ => none
def DefP.val (d : DefP) : He.FnW := some (d.name, d.qual, defArgs d.st, .stmts (defBody d.st), defScope d.st, mainGlobals, [], builtinsNs)
def isNone : Value → Bool
  | .none => true
  | _ => false
def DefP.ok (K : PySem.W.Frag) (d : DefP) : Bool := PySem.W.keepIn K (.ref (d.path K)) && (match K.lookup (d.path K) with
  | some ⟨_, _, .func fd, _⟩ => PySem.W.codeIn K fd.code d.qual && isNone fd.defaults
  | _ => false)
theorem DefP.fun_ {K : PySem.W.Frag} {d : DefP} (e : fnP K (d.path K) = d.val) (c : d.ok K = true) : ∃ fd, Fun K d.name d.qual d.st (d.path K) fd := by
  obtain ⟨kp, c2⟩ := He.ba c
  unfold fnP at e
  cases q : K.lookup (d.path K) with
  | none =>
    rw [q] at c2
    cases c2
  | some o =>
    obtain ⟨oc, od, dt, osl⟩ := o
    rw [q] at c2 e
    cases dt with
    | func fd =>
      obtain ⟨n1, n2, n3, n4, n5, n6, n7, n8, n9, n10, n11, n12, n13, n14, n15⟩ := fd
      have e2 : (some (n1, n2, n3, n4, n5, n6, n7, n15) : He.FnW) = some (d.name, d.qual, defArgs d.st, .stmts (defBody d.st), defScope d.st, mainGlobals, [], builtinsNs) := e
      simp only [Option.some.injEq, Prod.mk.injEq] at e2
      obtain ⟨h1, h2, h3, h4, h5, h6, h7, h8⟩ := e2
      subst h1 h2 h3 h4 h5 h6 h7 h8
      have c3 : (PySem.W.codeIn K n13 d.qual && isNone n8) = true := c2
      obtain ⟨k1, k2⟩ := He.ba c3
      have k3 : n8 = .none := by
        cases n8 with
        | none => rfl
        | _ => cases k2
      subst k3
      exact ⟨_, ⟨oc, od, n9, n10, n11, n12, n13, n14, osl, rfl, q, k1⟩, kp⟩
    | _ => cases c2
def d_is_integer : DefP := ⟨fun K => He.fAd K ("is_integer", none), "is_integer", "is_integer", s_is_integer⟩
def d_is_set : DefP := ⟨fun K => He.fAd K ("is_set", none), "is_set", "is_set", s_is_set⟩
def d_is_rule : DefP := ⟨fun K => He.fAd K ("is_rule", none), "is_rule", "is_rule", s_is_rule⟩
def d_is_within : DefP := ⟨fun K => He.fAd K ("is_within", none), "is_within", "is_within", s_is_within⟩
def d_closure : DefP := ⟨fun K => He.fAd K ("closure", none), "closure", "closure", s_closure⟩
def d_Book_init : DefP := ⟨fun K => He.fAd K ("Book", some "__init__"), "__init__", "Book.__init__", s_Book_init⟩
def d_Book_eq : DefP := ⟨fun K => He.fAd K ("Book", some "__eq__"), "__eq__", "Book.__eq__", s_Book_eq⟩
def d_Book_len : DefP := ⟨fun K => He.fAd K ("Book", some "__len__"), "__len__", "Book.__len__", s_Book_len⟩
def d_check_book : DefP := ⟨fun K => He.fAd K ("check_book", none), "check_book", "check_book", s_check_book⟩
def d_check_rule : DefP := ⟨fun K => He.fAd K ("check_rule", none), "check_rule", "check_rule", s_check_rule⟩
def d_Desk_init : DefP := ⟨fun K => He.fAd K ("Desk", some "__init__"), "__init__", "Desk.__init__", s_Desk_init⟩
def d_Desk_now : DefP := ⟨fun K => getterOf K (He.fAd K ("Desk", some "now")), "now", "Desk.now", s_Desk_now⟩
def d_Desk_journal : DefP := ⟨fun K => getterOf K (He.fAd K ("Desk", some "journal")), "journal", "Desk.journal", s_Desk_journal⟩
def d_Desk_changed : DefP := ⟨fun K => He.fAd K ("Desk", some "changed"), "changed", "Desk.changed", s_Desk_changed⟩
def d_Desk_put : DefP := ⟨fun K => He.fAd K ("Desk", some "put"), "put", "Desk.put", s_Desk_put⟩
def d_Desk_take : DefP := ⟨fun K => He.fAd K ("Desk", some "take"), "take", "Desk.take", s_Desk_take⟩
def d_Desk_move : DefP := ⟨fun K => He.fAd K ("Desk", some "move"), "move", "Desk.move", s_Desk_move⟩
def d_Desk_undo : DefP := ⟨fun K => He.fAd K ("Desk", some "undo"), "undo", "Desk.undo", s_Desk_undo⟩
def d_Desk_branch : DefP := ⟨fun K => He.fAd K ("Desk", some "branch"), "branch", "Desk.branch", s_Desk_branch⟩
def d_Desk_trial : DefP := ⟨fun K => He.fAd K ("Desk", some "trial"), "trial", "Desk.trial", s_Desk_trial⟩
def d_Desk_attempt : DefP := ⟨fun K => He.fAd K ("Desk", some "attempt"), "attempt", "Desk.attempt", s_Desk_attempt⟩
def d_Desk_asked : DefP := ⟨fun K => He.fAd K ("Desk", some "asked"), "asked", "Desk.asked", s_Desk_asked⟩
def d_Trial_init : DefP := ⟨fun K => He.fAd K ("Trial", some "__init__"), "__init__", "Trial.__init__", s_Trial_init⟩
def d_Trial_enter : DefP := ⟨fun K => He.fAd K ("Trial", some "__enter__"), "__enter__", "Trial.__enter__", s_Trial_enter⟩
def d_Trial_exit : DefP := ⟨fun K => He.fAd K ("Trial", some "__exit__"), "__exit__", "Trial.__exit__", s_Trial_exit⟩
def d_l_draw : DefP := ⟨fun K => He.fAd K ("_law_draw", none), "_law_draw", "_law_draw", s_l_draw⟩
def d_l_cell_at : DefP := ⟨fun K => He.fAd K ("_law_cell_at", none), "_law_cell_at", "_law_cell_at", s_l_cell_at⟩
def d_l_digits : DefP := ⟨fun K => He.fAd K ("_law_digits", none), "_law_digits", "_law_digits", s_l_digits⟩
def d_l_take : DefP := ⟨fun K => He.fAd K ("_law_take", none), "_law_take", "_law_take", s_l_take⟩
def d_l_pool : DefP := ⟨fun K => He.fAd K ("_law_pool", none), "_law_pool", "_law_pool", s_l_pool⟩
def d_l_sets : DefP := ⟨fun K => He.fAd K ("_law_sets", none), "_law_sets", "_law_sets", s_l_sets⟩
def d_l_within : DefP := ⟨fun K => He.fAd K ("_law_within", none), "_law_within", "_law_within", s_l_within⟩
def d_l_set : DefP := ⟨fun K => He.fAd K ("_law_set", none), "_law_set", "_law_set", s_l_set⟩
def d_l_rules : DefP := ⟨fun K => He.fAd K ("_law_rules", none), "_law_rules", "_law_rules", s_l_rules⟩
def d_l_shut : DefP := ⟨fun K => He.fAd K ("_law_shut", none), "_law_shut", "_law_shut", s_l_shut⟩
def d_l_closed_sets : DefP := ⟨fun K => He.fAd K ("_law_closed_sets", none), "_law_closed_sets", "_law_closed_sets", s_l_closed_sets⟩
def d_l_closure : DefP := ⟨fun K => He.fAd K ("_law_closure", none), "_law_closure", "_law_closure", s_l_closure⟩
def d_l_word : DefP := ⟨fun K => He.fAd K ("_law_word", none), "_law_word", "_law_word", s_l_word⟩
def d_l_changed : DefP := ⟨fun K => He.fAd K ("_law_changed", none), "_law_changed", "_law_changed", s_l_changed⟩
def d_l_is_right : DefP := ⟨fun K => He.fAd K ("_law_is_right", none), "_law_is_right", "_law_is_right", s_l_is_right⟩
def d_l_change : DefP := ⟨fun K => He.fAd K ("_law_change", none), "_law_change", "_law_change", s_l_change⟩
def d_l_do : DefP := ⟨fun K => He.fAd K ("_law_do", none), "_law_do", "_law_do", s_l_do⟩
def d_l_step : DefP := ⟨fun K => He.fAd K ("_law_step", none), "_law_step", "_law_step", s_l_step⟩
def d_l_inside_right : DefP := ⟨fun K => He.fAd K ("_law_inside_right", none), "_law_inside_right", "_law_inside_right", s_l_inside_right⟩
def d_l_attempt_right : DefP := ⟨fun K => He.fAd K ("_law_attempt_right", none), "_law_attempt_right", "_law_attempt_right", s_l_attempt_right⟩
def d_l_law : DefP := ⟨fun K => He.fAd K ("law", none), "law", "law", s_l_law⟩
def allDefs : List DefP := [d_is_integer, d_is_set, d_is_rule, d_is_within, d_closure, d_Book_init, d_Book_eq, d_Book_len, d_check_book, d_check_rule, d_Desk_init, d_Desk_now, d_Desk_journal, d_Desk_changed, d_Desk_put, d_Desk_take, d_Desk_move, d_Desk_undo, d_Desk_branch, d_Desk_trial, d_Desk_attempt, d_Desk_asked, d_Trial_init, d_Trial_enter, d_Trial_exit, d_l_draw, d_l_cell_at, d_l_digits, d_l_take, d_l_pool, d_l_sets, d_l_within, d_l_set, d_l_rules, d_l_shut, d_l_closed_sets, d_l_closure, d_l_word, d_l_changed, d_l_is_right, d_l_change, d_l_do, d_l_step, d_l_inside_right, d_l_attempt_right, d_l_law]
def facts : List He.Fa := ([.glo "is_integer", .glo "is_set", .glo "is_rule", .glo "is_within", .glo "closure", .glo "check_book", .glo "check_rule", .glo "_law_draw", .glo "_law_cell_at", .glo "_law_digits", .glo "_law_take", .glo "_law_pool", .glo "_law_sets", .glo "_law_within", .glo "_law_set", .glo "_law_rules", .glo "_law_shut", .glo "_law_closed_sets", .glo "_law_closure", .glo "_law_word", .glo "_law_changed", .glo "_law_is_right", .glo "_law_change", .glo "_law_do", .glo "_law_step", .glo "_law_inside_right", .glo "_law_attempt_right", .glo "Book", .glo "Desk", .glo "Trial"] : List He.Fa) ++ ([.free "isinstance", .free "int", .free "bool", .free "tuple", .free "all", .free "any", .free "zip", .free "len", .free "sorted", .free "list", .free "enumerate", .free "range", .free "abs", .free "sum", .free "KeyError", .int "MOST_MARKS" 5, .int "MOST_RULES_books" 16, .int "MOST_RULES_desks" 16, .glo "BadPlace", .glo "BadRule", .glo "TooLarge", .glo "NothingDone", .exc "BadPlace", .exc "BadRule", .exc "TooLarge", .exc "NothingDone", .exm "BadPlace" "BadPlace" true, .exm "BadPlace" "BadRule" false, .exm "BadPlace" "TooLarge" false, .exm "BadPlace" "NothingDone" false] : List He.Fa) ++ ([.exm "BadRule" "BadPlace" false, .exm "BadRule" "BadRule" true, .exm "BadRule" "TooLarge" false, .exm "BadRule" "NothingDone" false, .exm "TooLarge" "BadPlace" false, .exm "TooLarge" "BadRule" false, .exm "TooLarge" "TooLarge" true, .exm "TooLarge" "NothingDone" false, .exm "NothingDone" "BadPlace" false, .exm "NothingDone" "BadRule" false, .exm "NothingDone" "TooLarge" false, .exm "NothingDone" "NothingDone" true, .meth "Book" "__init__", .meth "Book" "__eq__", .meth "Book" "__len__", .meth "Desk" "__init__", .meth "Desk" "changed", .meth "Desk" "put", .meth "Desk" "take", .meth "Desk" "move", .meth "Desk" "undo", .meth "Desk" "branch", .meth "Desk" "trial", .meth "Desk" "attempt", .meth "Desk" "asked", .meth "Trial" "__init__", .meth "Trial" "__enter__", .meth "Trial" "__exit__", .mkr "Book", .mkr "Desk"] : List He.Fa) ++ ([.mkr "Trial"] : List He.Fa)
/-! ### slots, properties, what isinstance asks -/
def sclsB (K : PySem.W.Frag) (C : Addr) : Bool := PySem.W.plainGet K C Str.empty && (PySem.W.isClsIn K C && (PySem.W.plainOver K C && He.eqO (PySem.W.findIn K (.ref C) "__setattr__") (some (some (.builtin "object.__setattr__")))))
def slotB (K : PySem.W.Frag) (C : Addr) (f : Str) (i : Nat) : Bool := He.eqO (PySem.W.findIn K (.ref C) f) (some (some (.ref (He.ma K C f)))) && (He.eqO (PySem.W.specialIn K (.ref (He.ma K C f)) "__get__") (some (some (.builtin "member_descriptor.__get__"))) &&
  (decide (PySem.W.takesIn K (.ref (He.ma K C f)) = some true) && (decide (PySem.W.typeIn K (.ref (He.ma K C f)) = some (.type "member_descriptor")) && decide (PySem.W.slotIn K (He.ma K C f) C = some i))))
def sisiB (K : PySem.W.Frag) (C : Addr) : Bool := He.eqO (PySem.W.findIn K (.ref C) "__class__") (some (some (.builtin "object.__class__"))) && (He.eqO (PySem.W.specialIn K (.builtin "object.__class__") "__get__") (some (some (.builtin "getset_descriptor.__get__"))) &&
  (decide (PySem.W.takesIn K (.builtin "object.__class__") = some true) && decide (PySem.W.mroIn K C (.type "object") = some true)))
def propB (K : PySem.W.Frag) (C : Addr) (f : Str) : Bool := He.eqO (PySem.W.findIn K (.ref C) f) (some (some (.ref (He.ma K C f)))) && (He.eqO (PySem.W.specialIn K (.ref (He.ma K C f)) "__get__") (some (some (.builtin "property.__get__"))) &&
  (decide (PySem.W.takesIn K (.ref (He.ma K C f)) = some true) && (match PySem.W.recIn K (He.ma K C f) "property" with
    | some (.ref _ :: _) => true
    | _ => false)))
def bi (K : PySem.W.Frag) (x : Str) : Addr := He.ga K x
def tabDefs : List He.Defn := [("_law_sets", none), ("_law_step", none), ("_law_inside_right", none), ("_law_attempt_right", none), ("law", none)]
def more (K : PySem.W.Frag) : List Bool := [
  sclsB K (bi K "Book"), sclsB K (bi K "Desk"), sclsB K (bi K "Trial"),
  slotB K (bi K "Book") "marks" 0, slotB K (bi K "Book") "rules" 1,
  slotB K (bi K "Desk") "floor" 0, slotB K (bi K "Desk") "notes" 1, slotB K (bi K "Desk") "past" 2,
  slotB K (bi K "Trial") "desk" 0, slotB K (bi K "Trial") "floor" 1, slotB K (bi K "Trial") "notes" 2, slotB K (bi K "Trial") "past" 3,
  sisiB K (bi K "Book"), propB K (bi K "Desk") "now", propB K (bi K "Desk") "journal",
  He.eqO (PySem.W.findIn K (.ref (bi K "Book")) "__ne__") (some (some (.builtin "object.__ne__"))),
  PySem.W.notFirst K (bi K "Book") (.ref (bi K "Book")),
  decide ((tabDefs.map fun p => (He.cT K p).2).Nodup)]
abbrev AlK : Type := (List Bool × List Bool × List Bool × Bool) × List He.FnW
def frK (n : Nat) (g : Addr → Option Obj) : PySem.W.Frag := He.frT g (He.asG g n)
def obsK (n : Nat) (g : Addr → Option Obj) : AlK := ((facts.map (fun f => f.ok (frK n g)), more (frK n g), allDefs.map (fun d => d.ok (frK n g)), He.tabsB g tabDefs (frK n g)), allDefs.map fun d => fnP (frK n g) (d.path (frK n g)))
def valK : AlK := ((facts.map (fun _ => true), List.replicate 18 true, allDefs.map (fun _ => true), true), allDefs.map DefP.val)
abbrev R : PySem.W.OpenRow := PySem.W.OpenLaw.row PySem.Challenge.rw_ifthenbooks_k47_whole_desks
/-- what the head tells -/
structure SaysK (h : Heap) (K : PySem.W.Frag) : Prop where
  kin : K.In h
  fact : ∀ f ∈ facts, f.ok K = true
  more : more K = List.replicate 18 true
  ok : ∀ d ∈ allDefs, d.ok K = true
  fn : ∀ d ∈ allDefs, fnP K (d.path K) = d.val
  hd : ∀ p ∈ tabDefs, PySem.W.codeHdIn K (He.cT K p).1 (He.cT K p).2 = true
  out : ∀ p ∈ tabDefs, K.lookup (He.cT K p).2 = none
  empty : ∀ p ∈ tabDefs, h.get? (He.cT K p).2 = some { cls := .none, data := .fields #[] }
theorem all_of {α : Type} {p : α → Bool} : ∀ {l : List α}, l.map p = l.map (fun _ => true) → ∀ x ∈ l, p x = true
  | [], _, _, h => by cases h
  | a :: l, e, x, h => by
    injection e with e1 e2
    rcases List.mem_cons.mp h with q | q
    · rw [q]; exact e1
    · exact all_of e2 x q
theorem map_of {α β : Type} {f g : α → β} : ∀ {l : List α}, l.map f = l.map g → ∀ x ∈ l, f x = g x
  | [], _, _, h => by cases h
  | a :: l, e, x, h => by
    injection e with e1 e2
    rcases List.mem_cons.mp h with q | q
    · rw [q]; exact e1
    · exact map_of e2 x q
theorem says_of {n : Nat} {h : Heap} (e : obsK n h.get? = valK) : SaysK h (frK n h.get?) := by
  have e1 : facts.map (fun f => f.ok (frK n h.get?)) = facts.map (fun _ => true) := congrArg (fun z : AlK => z.1.1) e
  have e2 : K47.more (frK n h.get?) = List.replicate 18 true := congrArg (fun z : AlK => z.1.2.1) e
  have e3 : allDefs.map (fun d => d.ok (frK n h.get?)) = allDefs.map (fun _ => true) := congrArg (fun z : AlK => z.1.2.2.1) e
  have e4 : He.tabsB h.get? tabDefs (frK n h.get?) = true := congrArg (fun z : AlK => z.1.2.2.2) e
  have e5 : allDefs.map (fun d => fnP (frK n h.get?) (d.path (frK n h.get?))) = allDefs.map DefP.val := congrArg (fun z : AlK => z.2) e
  have key : ∀ p ∈ tabDefs, PySem.W.codeHdIn (frK n h.get?) (He.cT (frK n h.get?) p).1 (He.cT (frK n h.get?) p).2 = true ∧ ∃ o, h.get? (He.cT (frK n h.get?) p).2 = some o ∧ He.emptyTab o = true := fun p hp => by
    obtain ⟨h3, h4⟩ := He.ba (List.all_eq_true.mp e4 p hp)
    refine ⟨h3, ?_⟩
    cases q : h.get? (He.cT (frK n h.get?) p).2 with
    | none =>
      rw [q] at h4
      cases h4
    | some o =>
      rw [q] at h4
      exact ⟨o, rfl, h4⟩
  exact ⟨He.frT_in, all_of e1, e2, all_of e3, map_of e5, fun p hp => (key p hp).1, fun p hp => by
    obtain ⟨_, o, q, z⟩ := key p hp
    exact He.frT_none q z, fun p hp => by
    obtain ⟨_, o, q, z⟩ := key p hp
    rw [q, He.emptyTab_eq z]⟩
def hookK (n : Nat) : PySem.W.Hook where
  α := AlK
  obs := fun s => obsK n s.heap.get?
  val := fun _ => valK
  says := fun _ h => ∃ K : PySem.W.Frag, SaysK h K
  of := fun _ _ e => ⟨_, says_of e⟩
  keeps := fun _ _ _ ⟨K, c⟩ k => ⟨K, ⟨PySem.W.Frag.In.keeps c.kin k, c.fact, c.more, c.ok, c.fn, c.hd, c.out, fun p hp => k _ _ (c.empty p hp)⟩⟩
def ob (s : PySem.W.SharedT) : AlK := obsK 6 (HandSHeadRun.getT s)
theorem ob_eq (s : PySem.W.SharedT) : ob s = (hookK 6).obs s.abs := by
  have e : HandSHeadRun.getT s = s.abs.heap.get? := funext (HandSHeadRun.getT_eq s)
  unfold ob
  rw [e] <;> rfl
/-! ### what the walks lean on -/
structure TX (K : PySem.W.Frag) (mg : Str → Option Value) : Prop where
  ex : ∃ h : Heap, SaysK h K ∧ h.Ns mainGlobals mg
section
variable {K : PySem.W.Frag} {mg : Str → Option Value}
theorem TX.at_ (T : TX K mg) (i : Nat) {f : He.Fa} (h : facts[i]? = some f) : f.ok K = true := by
  obtain ⟨_, c, _⟩ := T.ex
  exact c.fact f (List.mem_of_getElem? h)
theorem TX.glo (T : TX K mg) {x : Str} (c : (He.Fa.glo x).ok K = true) : mg x = some (.ref (He.ga K x)) := by
  obtain ⟨_, a, b⟩ := T.ex
  exact He.glo_ok a.kin b c
theorem TX.free (T : TX K mg) {x : Str} (c : (He.Fa.free x).ok K = true) : mg x = none := by
  obtain ⟨_, a, b⟩ := T.ex
  exact He.free_ok a.kin b c
theorem TX.int (T : TX K mg) {x : Str} {i : Int} (c : (He.Fa.int x i).ok K = true) : ∃ t, mg x = some (.int i t) := by
  obtain ⟨_, a, b⟩ := T.ex
  exact He.int_ok a.kin b c
theorem TX.fn (T : TX K mg) (i : Nat) {d : DefP} (h : allDefs[i]? = some d) : ∃ fd, Fun K d.name d.qual d.st (d.path K) fd := by
  obtain ⟨_, c, _⟩ := T.ex
  exact DefP.fun_ (c.fn d (List.mem_of_getElem? h)) (c.ok d (List.mem_of_getElem? h))
theorem TX.more (T : TX K mg) (i : Nat) {b : Bool} (h : (K47.more K)[i]? = some b) (hi : i < 18) : b = true := by
  obtain ⟨_, c, _⟩ := T.ex
  rw [c.more, List.getElem?_replicate, if_pos hi] at h
  exact (Option.some.inj h).symm
theorem scls_of {C : Addr} (h : sclsB K C = true) : SlX.SCls K C := by
  obtain ⟨a, h⟩ := He.ba h
  obtain ⟨b, h⟩ := He.ba h
  obtain ⟨c, d⟩ := He.ba h
  exact ⟨a, b, c, He.eqO_ok d⟩
theorem slot_of {C : Addr} {f : Str} {i : Nat} (h : slotB K C f i = true) (hi : i < 1000) : SlX.Slot1 K C f (He.ma K C f) i := by
  obtain ⟨a, h⟩ := He.ba h
  obtain ⟨b, h⟩ := He.ba h
  obtain ⟨c, h⟩ := He.ba h
  obtain ⟨d, e⟩ := He.ba h
  exact ⟨He.eqO_ok a, He.eqO_ok b, of_decide_eq_true c, of_decide_eq_true d, of_decide_eq_true e, hi⟩
theorem sisi_of {C : Addr} (h : sisiB K C = true) : SlX.SIsi K C := by
  obtain ⟨a, h⟩ := He.ba h
  obtain ⟨b, h⟩ := He.ba h
  obtain ⟨c, d⟩ := He.ba h
  exact ⟨He.eqO_ok a, He.eqO_ok b, of_decide_eq_true c, of_decide_eq_true d⟩
/-- a property f of the class at C -/
structure PropS (K : PySem.W.Frag) (C : Addr) (f : Str) : Prop where
  at_ : PySem.W.findIn K (.ref C) f = some (some (.ref (He.ma K C f)))
  get : PySem.W.specialIn K (.ref (He.ma K C f)) "__get__" = some (some (.builtin "property.__get__"))
  tk : PySem.W.takesIn K (.ref (He.ma K C f)) = some true
  rc : ∃ r, PySem.W.recIn K (He.ma K C f) "property" = some (.ref (getterOf K (He.ma K C f)) :: r)
theorem prop_of {C : Addr} {f : Str} (h : propB K C f = true) : PropS K C f := by
  obtain ⟨a, h⟩ := He.ba h
  obtain ⟨b, h⟩ := He.ba h
  obtain ⟨c, d⟩ := He.ba h
  refine ⟨He.eqO_ok a, He.eqO_ok b, of_decide_eq_true c, ?_⟩
  cases e : PySem.W.recIn K (He.ma K C f) "property" with
  | none =>
    rw [e] at d
    cases d
  | some l =>
    cases l with
    | nil =>
      rw [e] at d
      cases d
    | cons v r =>
      cases v with
      | ref g =>
        refine ⟨r, ?_⟩
        unfold getterOf
        rw [e]
      | _ =>
        rw [e] at d
        cases d
abbrev cB (K : PySem.W.Frag) : Addr := He.ga K "Book"
abbrev cD (K : PySem.W.Frag) : Addr := He.ga K "Desk"
abbrev cT (K : PySem.W.Frag) : Addr := He.ga K "Trial"
theorem TX.glo_is_integer (T : TX K mg) : mg "is_integer" = some (.ref (He.ga K "is_integer")) := T.glo (T.at_ 0 (f := .glo "is_integer") rfl)
theorem TX.glo_is_set (T : TX K mg) : mg "is_set" = some (.ref (He.ga K "is_set")) := T.glo (T.at_ 1 (f := .glo "is_set") rfl)
theorem TX.glo_is_rule (T : TX K mg) : mg "is_rule" = some (.ref (He.ga K "is_rule")) := T.glo (T.at_ 2 (f := .glo "is_rule") rfl)
theorem TX.glo_is_within (T : TX K mg) : mg "is_within" = some (.ref (He.ga K "is_within")) := T.glo (T.at_ 3 (f := .glo "is_within") rfl)
theorem TX.glo_closure (T : TX K mg) : mg "closure" = some (.ref (He.ga K "closure")) := T.glo (T.at_ 4 (f := .glo "closure") rfl)
theorem TX.glo_check_book (T : TX K mg) : mg "check_book" = some (.ref (He.ga K "check_book")) := T.glo (T.at_ 5 (f := .glo "check_book") rfl)
theorem TX.glo_check_rule (T : TX K mg) : mg "check_rule" = some (.ref (He.ga K "check_rule")) := T.glo (T.at_ 6 (f := .glo "check_rule") rfl)
theorem TX.glo__law_draw (T : TX K mg) : mg "_law_draw" = some (.ref (He.ga K "_law_draw")) := T.glo (T.at_ 7 (f := .glo "_law_draw") rfl)
theorem TX.glo__law_cell_at (T : TX K mg) : mg "_law_cell_at" = some (.ref (He.ga K "_law_cell_at")) := T.glo (T.at_ 8 (f := .glo "_law_cell_at") rfl)
theorem TX.glo__law_digits (T : TX K mg) : mg "_law_digits" = some (.ref (He.ga K "_law_digits")) := T.glo (T.at_ 9 (f := .glo "_law_digits") rfl)
theorem TX.glo__law_take (T : TX K mg) : mg "_law_take" = some (.ref (He.ga K "_law_take")) := T.glo (T.at_ 10 (f := .glo "_law_take") rfl)
theorem TX.glo__law_pool (T : TX K mg) : mg "_law_pool" = some (.ref (He.ga K "_law_pool")) := T.glo (T.at_ 11 (f := .glo "_law_pool") rfl)
theorem TX.glo__law_sets (T : TX K mg) : mg "_law_sets" = some (.ref (He.ga K "_law_sets")) := T.glo (T.at_ 12 (f := .glo "_law_sets") rfl)
theorem TX.glo__law_within (T : TX K mg) : mg "_law_within" = some (.ref (He.ga K "_law_within")) := T.glo (T.at_ 13 (f := .glo "_law_within") rfl)
theorem TX.glo__law_set (T : TX K mg) : mg "_law_set" = some (.ref (He.ga K "_law_set")) := T.glo (T.at_ 14 (f := .glo "_law_set") rfl)
theorem TX.glo__law_rules (T : TX K mg) : mg "_law_rules" = some (.ref (He.ga K "_law_rules")) := T.glo (T.at_ 15 (f := .glo "_law_rules") rfl)
theorem TX.glo__law_shut (T : TX K mg) : mg "_law_shut" = some (.ref (He.ga K "_law_shut")) := T.glo (T.at_ 16 (f := .glo "_law_shut") rfl)
theorem TX.glo__law_closed_sets (T : TX K mg) : mg "_law_closed_sets" = some (.ref (He.ga K "_law_closed_sets")) := T.glo (T.at_ 17 (f := .glo "_law_closed_sets") rfl)
theorem TX.glo__law_closure (T : TX K mg) : mg "_law_closure" = some (.ref (He.ga K "_law_closure")) := T.glo (T.at_ 18 (f := .glo "_law_closure") rfl)
theorem TX.glo__law_word (T : TX K mg) : mg "_law_word" = some (.ref (He.ga K "_law_word")) := T.glo (T.at_ 19 (f := .glo "_law_word") rfl)
theorem TX.glo__law_changed (T : TX K mg) : mg "_law_changed" = some (.ref (He.ga K "_law_changed")) := T.glo (T.at_ 20 (f := .glo "_law_changed") rfl)
theorem TX.glo__law_is_right (T : TX K mg) : mg "_law_is_right" = some (.ref (He.ga K "_law_is_right")) := T.glo (T.at_ 21 (f := .glo "_law_is_right") rfl)
theorem TX.glo__law_change (T : TX K mg) : mg "_law_change" = some (.ref (He.ga K "_law_change")) := T.glo (T.at_ 22 (f := .glo "_law_change") rfl)
theorem TX.glo__law_do (T : TX K mg) : mg "_law_do" = some (.ref (He.ga K "_law_do")) := T.glo (T.at_ 23 (f := .glo "_law_do") rfl)
theorem TX.glo__law_step (T : TX K mg) : mg "_law_step" = some (.ref (He.ga K "_law_step")) := T.glo (T.at_ 24 (f := .glo "_law_step") rfl)
theorem TX.glo__law_inside_right (T : TX K mg) : mg "_law_inside_right" = some (.ref (He.ga K "_law_inside_right")) := T.glo (T.at_ 25 (f := .glo "_law_inside_right") rfl)
theorem TX.glo__law_attempt_right (T : TX K mg) : mg "_law_attempt_right" = some (.ref (He.ga K "_law_attempt_right")) := T.glo (T.at_ 26 (f := .glo "_law_attempt_right") rfl)
theorem TX.glo_Book (T : TX K mg) : mg "Book" = some (.ref (He.ga K "Book")) := T.glo (T.at_ 27 (f := .glo "Book") rfl)
theorem TX.glo_Desk (T : TX K mg) : mg "Desk" = some (.ref (He.ga K "Desk")) := T.glo (T.at_ 28 (f := .glo "Desk") rfl)
theorem TX.glo_Trial (T : TX K mg) : mg "Trial" = some (.ref (He.ga K "Trial")) := T.glo (T.at_ 29 (f := .glo "Trial") rfl)
theorem TX.free_isinstance (T : TX K mg) : mg "isinstance" = none := T.free (T.at_ 30 (f := .free "isinstance") rfl)
theorem TX.free_int (T : TX K mg) : mg "int" = none := T.free (T.at_ 31 (f := .free "int") rfl)
theorem TX.free_bool (T : TX K mg) : mg "bool" = none := T.free (T.at_ 32 (f := .free "bool") rfl)
theorem TX.free_tuple (T : TX K mg) : mg "tuple" = none := T.free (T.at_ 33 (f := .free "tuple") rfl)
theorem TX.free_all (T : TX K mg) : mg "all" = none := T.free (T.at_ 34 (f := .free "all") rfl)
theorem TX.free_any (T : TX K mg) : mg "any" = none := T.free (T.at_ 35 (f := .free "any") rfl)
theorem TX.free_zip (T : TX K mg) : mg "zip" = none := T.free (T.at_ 36 (f := .free "zip") rfl)
theorem TX.free_len (T : TX K mg) : mg "len" = none := T.free (T.at_ 37 (f := .free "len") rfl)
theorem TX.free_sorted (T : TX K mg) : mg "sorted" = none := T.free (T.at_ 38 (f := .free "sorted") rfl)
theorem TX.free_list (T : TX K mg) : mg "list" = none := T.free (T.at_ 39 (f := .free "list") rfl)
theorem TX.free_enumerate (T : TX K mg) : mg "enumerate" = none := T.free (T.at_ 40 (f := .free "enumerate") rfl)
theorem TX.free_range (T : TX K mg) : mg "range" = none := T.free (T.at_ 41 (f := .free "range") rfl)
theorem TX.free_abs (T : TX K mg) : mg "abs" = none := T.free (T.at_ 42 (f := .free "abs") rfl)
theorem TX.free_sum (T : TX K mg) : mg "sum" = none := T.free (T.at_ 43 (f := .free "sum") rfl)
theorem TX.free_KeyError (T : TX K mg) : mg "KeyError" = none := T.free (T.at_ 44 (f := .free "KeyError") rfl)
theorem TX.int_MOST_MARKS_5 (T : TX K mg) : ∃ t, mg "MOST_MARKS" = some (.int 5 t) := T.int (T.at_ 45 (f := .int "MOST_MARKS" 5) rfl)
theorem TX.int_MOST_RULES_books_16 (T : TX K mg) : ∃ t, mg "MOST_RULES_books" = some (.int 16 t) := T.int (T.at_ 46 (f := .int "MOST_RULES_books" 16) rfl)
theorem TX.int_MOST_RULES_desks_16 (T : TX K mg) : ∃ t, mg "MOST_RULES_desks" = some (.int 16 t) := T.int (T.at_ 47 (f := .int "MOST_RULES_desks" 16) rfl)
theorem TX.glo_BadPlace (T : TX K mg) : mg "BadPlace" = some (.ref (He.ga K "BadPlace")) := T.glo (T.at_ 48 (f := .glo "BadPlace") rfl)
theorem TX.glo_BadRule (T : TX K mg) : mg "BadRule" = some (.ref (He.ga K "BadRule")) := T.glo (T.at_ 49 (f := .glo "BadRule") rfl)
theorem TX.glo_TooLarge (T : TX K mg) : mg "TooLarge" = some (.ref (He.ga K "TooLarge")) := T.glo (T.at_ 50 (f := .glo "TooLarge") rfl)
theorem TX.glo_NothingDone (T : TX K mg) : mg "NothingDone" = some (.ref (He.ga K "NothingDone")) := T.glo (T.at_ 51 (f := .glo "NothingDone") rfl)
theorem TX.exc_BadPlace (T : TX K mg) : PySem.W.excIn K (He.ga K "BadPlace") He.veBase "ValueError.__new__" = true ∧ PySem.W.keepIn K (.ref (He.ga K "BadPlace")) = true ∧ PySem.W.subIn K (.ref (He.ga K "BadPlace")) (.type "BaseException") = some true ∧ PySem.W.typeIn K (.ref (He.ga K "BadPlace")) = some (.type "type") := He.exc_ok (T.at_ 52 (f := .exc "BadPlace") rfl)
theorem TX.exc_BadRule (T : TX K mg) : PySem.W.excIn K (He.ga K "BadRule") He.veBase "ValueError.__new__" = true ∧ PySem.W.keepIn K (.ref (He.ga K "BadRule")) = true ∧ PySem.W.subIn K (.ref (He.ga K "BadRule")) (.type "BaseException") = some true ∧ PySem.W.typeIn K (.ref (He.ga K "BadRule")) = some (.type "type") := He.exc_ok (T.at_ 53 (f := .exc "BadRule") rfl)
theorem TX.exc_TooLarge (T : TX K mg) : PySem.W.excIn K (He.ga K "TooLarge") He.veBase "ValueError.__new__" = true ∧ PySem.W.keepIn K (.ref (He.ga K "TooLarge")) = true ∧ PySem.W.subIn K (.ref (He.ga K "TooLarge")) (.type "BaseException") = some true ∧ PySem.W.typeIn K (.ref (He.ga K "TooLarge")) = some (.type "type") := He.exc_ok (T.at_ 54 (f := .exc "TooLarge") rfl)
theorem TX.exc_NothingDone (T : TX K mg) : PySem.W.excIn K (He.ga K "NothingDone") He.veBase "ValueError.__new__" = true ∧ PySem.W.keepIn K (.ref (He.ga K "NothingDone")) = true ∧ PySem.W.subIn K (.ref (He.ga K "NothingDone")) (.type "BaseException") = some true ∧ PySem.W.typeIn K (.ref (He.ga K "NothingDone")) = some (.type "type") := He.exc_ok (T.at_ 55 (f := .exc "NothingDone") rfl)
theorem TX.exm_BadPlace_BadPlace_true (T : TX K mg) : PySem.W.exmOne K (.ref (He.ga K "BadPlace")) (.ref (He.ga K "BadPlace")) = some true := He.exm_ok (T.at_ 56 (f := .exm "BadPlace" "BadPlace" true) rfl)
theorem TX.exm_BadPlace_BadRule_false (T : TX K mg) : PySem.W.exmOne K (.ref (He.ga K "BadPlace")) (.ref (He.ga K "BadRule")) = some false := He.exm_ok (T.at_ 57 (f := .exm "BadPlace" "BadRule" false) rfl)
theorem TX.exm_BadPlace_TooLarge_false (T : TX K mg) : PySem.W.exmOne K (.ref (He.ga K "BadPlace")) (.ref (He.ga K "TooLarge")) = some false := He.exm_ok (T.at_ 58 (f := .exm "BadPlace" "TooLarge" false) rfl)
theorem TX.exm_BadPlace_NothingDone_false (T : TX K mg) : PySem.W.exmOne K (.ref (He.ga K "BadPlace")) (.ref (He.ga K "NothingDone")) = some false := He.exm_ok (T.at_ 59 (f := .exm "BadPlace" "NothingDone" false) rfl)
theorem TX.exm_BadRule_BadPlace_false (T : TX K mg) : PySem.W.exmOne K (.ref (He.ga K "BadRule")) (.ref (He.ga K "BadPlace")) = some false := He.exm_ok (T.at_ 60 (f := .exm "BadRule" "BadPlace" false) rfl)
theorem TX.exm_BadRule_BadRule_true (T : TX K mg) : PySem.W.exmOne K (.ref (He.ga K "BadRule")) (.ref (He.ga K "BadRule")) = some true := He.exm_ok (T.at_ 61 (f := .exm "BadRule" "BadRule" true) rfl)
theorem TX.exm_BadRule_TooLarge_false (T : TX K mg) : PySem.W.exmOne K (.ref (He.ga K "BadRule")) (.ref (He.ga K "TooLarge")) = some false := He.exm_ok (T.at_ 62 (f := .exm "BadRule" "TooLarge" false) rfl)
theorem TX.exm_BadRule_NothingDone_false (T : TX K mg) : PySem.W.exmOne K (.ref (He.ga K "BadRule")) (.ref (He.ga K "NothingDone")) = some false := He.exm_ok (T.at_ 63 (f := .exm "BadRule" "NothingDone" false) rfl)
theorem TX.exm_TooLarge_BadPlace_false (T : TX K mg) : PySem.W.exmOne K (.ref (He.ga K "TooLarge")) (.ref (He.ga K "BadPlace")) = some false := He.exm_ok (T.at_ 64 (f := .exm "TooLarge" "BadPlace" false) rfl)
theorem TX.exm_TooLarge_BadRule_false (T : TX K mg) : PySem.W.exmOne K (.ref (He.ga K "TooLarge")) (.ref (He.ga K "BadRule")) = some false := He.exm_ok (T.at_ 65 (f := .exm "TooLarge" "BadRule" false) rfl)
theorem TX.exm_TooLarge_TooLarge_true (T : TX K mg) : PySem.W.exmOne K (.ref (He.ga K "TooLarge")) (.ref (He.ga K "TooLarge")) = some true := He.exm_ok (T.at_ 66 (f := .exm "TooLarge" "TooLarge" true) rfl)
theorem TX.exm_TooLarge_NothingDone_false (T : TX K mg) : PySem.W.exmOne K (.ref (He.ga K "TooLarge")) (.ref (He.ga K "NothingDone")) = some false := He.exm_ok (T.at_ 67 (f := .exm "TooLarge" "NothingDone" false) rfl)
theorem TX.exm_NothingDone_BadPlace_false (T : TX K mg) : PySem.W.exmOne K (.ref (He.ga K "NothingDone")) (.ref (He.ga K "BadPlace")) = some false := He.exm_ok (T.at_ 68 (f := .exm "NothingDone" "BadPlace" false) rfl)
theorem TX.exm_NothingDone_BadRule_false (T : TX K mg) : PySem.W.exmOne K (.ref (He.ga K "NothingDone")) (.ref (He.ga K "BadRule")) = some false := He.exm_ok (T.at_ 69 (f := .exm "NothingDone" "BadRule" false) rfl)
theorem TX.exm_NothingDone_TooLarge_false (T : TX K mg) : PySem.W.exmOne K (.ref (He.ga K "NothingDone")) (.ref (He.ga K "TooLarge")) = some false := He.exm_ok (T.at_ 70 (f := .exm "NothingDone" "TooLarge" false) rfl)
theorem TX.exm_NothingDone_NothingDone_true (T : TX K mg) : PySem.W.exmOne K (.ref (He.ga K "NothingDone")) (.ref (He.ga K "NothingDone")) = some true := He.exm_ok (T.at_ 71 (f := .exm "NothingDone" "NothingDone" true) rfl)
theorem TX.meth_Book___init__ (T : TX K mg) : Meth K (He.ga K "Book") "__init__" (He.ma K (He.ga K "Book") "__init__") := He.meth_ok (T.at_ 72 (f := .meth "Book" "__init__") rfl)
theorem TX.meth_Book___eq__ (T : TX K mg) : Meth K (He.ga K "Book") "__eq__" (He.ma K (He.ga K "Book") "__eq__") := He.meth_ok (T.at_ 73 (f := .meth "Book" "__eq__") rfl)
theorem TX.meth_Book___len__ (T : TX K mg) : Meth K (He.ga K "Book") "__len__" (He.ma K (He.ga K "Book") "__len__") := He.meth_ok (T.at_ 74 (f := .meth "Book" "__len__") rfl)
theorem TX.meth_Desk___init__ (T : TX K mg) : Meth K (He.ga K "Desk") "__init__" (He.ma K (He.ga K "Desk") "__init__") := He.meth_ok (T.at_ 75 (f := .meth "Desk" "__init__") rfl)
theorem TX.meth_Desk_changed (T : TX K mg) : Meth K (He.ga K "Desk") "changed" (He.ma K (He.ga K "Desk") "changed") := He.meth_ok (T.at_ 76 (f := .meth "Desk" "changed") rfl)
theorem TX.meth_Desk_put (T : TX K mg) : Meth K (He.ga K "Desk") "put" (He.ma K (He.ga K "Desk") "put") := He.meth_ok (T.at_ 77 (f := .meth "Desk" "put") rfl)
theorem TX.meth_Desk_take (T : TX K mg) : Meth K (He.ga K "Desk") "take" (He.ma K (He.ga K "Desk") "take") := He.meth_ok (T.at_ 78 (f := .meth "Desk" "take") rfl)
theorem TX.meth_Desk_move (T : TX K mg) : Meth K (He.ga K "Desk") "move" (He.ma K (He.ga K "Desk") "move") := He.meth_ok (T.at_ 79 (f := .meth "Desk" "move") rfl)
theorem TX.meth_Desk_undo (T : TX K mg) : Meth K (He.ga K "Desk") "undo" (He.ma K (He.ga K "Desk") "undo") := He.meth_ok (T.at_ 80 (f := .meth "Desk" "undo") rfl)
theorem TX.meth_Desk_branch (T : TX K mg) : Meth K (He.ga K "Desk") "branch" (He.ma K (He.ga K "Desk") "branch") := He.meth_ok (T.at_ 81 (f := .meth "Desk" "branch") rfl)
theorem TX.meth_Desk_trial (T : TX K mg) : Meth K (He.ga K "Desk") "trial" (He.ma K (He.ga K "Desk") "trial") := He.meth_ok (T.at_ 82 (f := .meth "Desk" "trial") rfl)
theorem TX.meth_Desk_attempt (T : TX K mg) : Meth K (He.ga K "Desk") "attempt" (He.ma K (He.ga K "Desk") "attempt") := He.meth_ok (T.at_ 83 (f := .meth "Desk" "attempt") rfl)
theorem TX.meth_Desk_asked (T : TX K mg) : Meth K (He.ga K "Desk") "asked" (He.ma K (He.ga K "Desk") "asked") := He.meth_ok (T.at_ 84 (f := .meth "Desk" "asked") rfl)
theorem TX.meth_Trial___init__ (T : TX K mg) : Meth K (He.ga K "Trial") "__init__" (He.ma K (He.ga K "Trial") "__init__") := He.meth_ok (T.at_ 85 (f := .meth "Trial" "__init__") rfl)
theorem TX.meth_Trial___enter__ (T : TX K mg) : Meth K (He.ga K "Trial") "__enter__" (He.ma K (He.ga K "Trial") "__enter__") := He.meth_ok (T.at_ 86 (f := .meth "Trial" "__enter__") rfl)
theorem TX.meth_Trial___exit__ (T : TX K mg) : Meth K (He.ga K "Trial") "__exit__" (He.ma K (He.ga K "Trial") "__exit__") := He.meth_ok (T.at_ 87 (f := .meth "Trial" "__exit__") rfl)
theorem TX.mkr_Book (T : TX K mg) : Mk K (He.ga K "Book") (He.ma K (He.ga K "Book") "__init__") := He.mkr_ok (T.at_ 88 (f := .mkr "Book") rfl)
theorem TX.mkr_Desk (T : TX K mg) : Mk K (He.ga K "Desk") (He.ma K (He.ga K "Desk") "__init__") := He.mkr_ok (T.at_ 89 (f := .mkr "Desk") rfl)
theorem TX.mkr_Trial (T : TX K mg) : Mk K (He.ga K "Trial") (He.ma K (He.ga K "Trial") "__init__") := He.mkr_ok (T.at_ 90 (f := .mkr "Trial") rfl)
theorem TX.fn_is_integer (T : TX K mg) : ∃ fd, Fun K "is_integer" "is_integer" s_is_integer (He.ga K "is_integer") fd := T.fn 0 (d := d_is_integer) rfl
theorem TX.fn_is_set (T : TX K mg) : ∃ fd, Fun K "is_set" "is_set" s_is_set (He.ga K "is_set") fd := T.fn 1 (d := d_is_set) rfl
theorem TX.fn_is_rule (T : TX K mg) : ∃ fd, Fun K "is_rule" "is_rule" s_is_rule (He.ga K "is_rule") fd := T.fn 2 (d := d_is_rule) rfl
theorem TX.fn_is_within (T : TX K mg) : ∃ fd, Fun K "is_within" "is_within" s_is_within (He.ga K "is_within") fd := T.fn 3 (d := d_is_within) rfl
theorem TX.fn_closure (T : TX K mg) : ∃ fd, Fun K "closure" "closure" s_closure (He.ga K "closure") fd := T.fn 4 (d := d_closure) rfl
theorem TX.fn_Book_init (T : TX K mg) : ∃ fd, Fun K "__init__" "Book.__init__" s_Book_init (He.ma K (He.ga K "Book") "__init__") fd := T.fn 5 (d := d_Book_init) rfl
theorem TX.fn_Book_eq (T : TX K mg) : ∃ fd, Fun K "__eq__" "Book.__eq__" s_Book_eq (He.ma K (He.ga K "Book") "__eq__") fd := T.fn 6 (d := d_Book_eq) rfl
theorem TX.fn_Book_len (T : TX K mg) : ∃ fd, Fun K "__len__" "Book.__len__" s_Book_len (He.ma K (He.ga K "Book") "__len__") fd := T.fn 7 (d := d_Book_len) rfl
theorem TX.fn_check_book (T : TX K mg) : ∃ fd, Fun K "check_book" "check_book" s_check_book (He.ga K "check_book") fd := T.fn 8 (d := d_check_book) rfl
theorem TX.fn_check_rule (T : TX K mg) : ∃ fd, Fun K "check_rule" "check_rule" s_check_rule (He.ga K "check_rule") fd := T.fn 9 (d := d_check_rule) rfl
theorem TX.fn_Desk_init (T : TX K mg) : ∃ fd, Fun K "__init__" "Desk.__init__" s_Desk_init (He.ma K (He.ga K "Desk") "__init__") fd := T.fn 10 (d := d_Desk_init) rfl
theorem TX.fn_Desk_now (T : TX K mg) : ∃ fd, Fun K "now" "Desk.now" s_Desk_now (getterOf K (He.ma K (He.ga K "Desk") "now")) fd := T.fn 11 (d := d_Desk_now) rfl
theorem TX.fn_Desk_journal (T : TX K mg) : ∃ fd, Fun K "journal" "Desk.journal" s_Desk_journal (getterOf K (He.ma K (He.ga K "Desk") "journal")) fd := T.fn 12 (d := d_Desk_journal) rfl
theorem TX.fn_Desk_changed (T : TX K mg) : ∃ fd, Fun K "changed" "Desk.changed" s_Desk_changed (He.ma K (He.ga K "Desk") "changed") fd := T.fn 13 (d := d_Desk_changed) rfl
theorem TX.fn_Desk_put (T : TX K mg) : ∃ fd, Fun K "put" "Desk.put" s_Desk_put (He.ma K (He.ga K "Desk") "put") fd := T.fn 14 (d := d_Desk_put) rfl
theorem TX.fn_Desk_take (T : TX K mg) : ∃ fd, Fun K "take" "Desk.take" s_Desk_take (He.ma K (He.ga K "Desk") "take") fd := T.fn 15 (d := d_Desk_take) rfl
theorem TX.fn_Desk_move (T : TX K mg) : ∃ fd, Fun K "move" "Desk.move" s_Desk_move (He.ma K (He.ga K "Desk") "move") fd := T.fn 16 (d := d_Desk_move) rfl
theorem TX.fn_Desk_undo (T : TX K mg) : ∃ fd, Fun K "undo" "Desk.undo" s_Desk_undo (He.ma K (He.ga K "Desk") "undo") fd := T.fn 17 (d := d_Desk_undo) rfl
theorem TX.fn_Desk_branch (T : TX K mg) : ∃ fd, Fun K "branch" "Desk.branch" s_Desk_branch (He.ma K (He.ga K "Desk") "branch") fd := T.fn 18 (d := d_Desk_branch) rfl
theorem TX.fn_Desk_trial (T : TX K mg) : ∃ fd, Fun K "trial" "Desk.trial" s_Desk_trial (He.ma K (He.ga K "Desk") "trial") fd := T.fn 19 (d := d_Desk_trial) rfl
theorem TX.fn_Desk_attempt (T : TX K mg) : ∃ fd, Fun K "attempt" "Desk.attempt" s_Desk_attempt (He.ma K (He.ga K "Desk") "attempt") fd := T.fn 20 (d := d_Desk_attempt) rfl
theorem TX.fn_Desk_asked (T : TX K mg) : ∃ fd, Fun K "asked" "Desk.asked" s_Desk_asked (He.ma K (He.ga K "Desk") "asked") fd := T.fn 21 (d := d_Desk_asked) rfl
theorem TX.fn_Trial_init (T : TX K mg) : ∃ fd, Fun K "__init__" "Trial.__init__" s_Trial_init (He.ma K (He.ga K "Trial") "__init__") fd := T.fn 22 (d := d_Trial_init) rfl
theorem TX.fn_Trial_enter (T : TX K mg) : ∃ fd, Fun K "__enter__" "Trial.__enter__" s_Trial_enter (He.ma K (He.ga K "Trial") "__enter__") fd := T.fn 23 (d := d_Trial_enter) rfl
theorem TX.fn_Trial_exit (T : TX K mg) : ∃ fd, Fun K "__exit__" "Trial.__exit__" s_Trial_exit (He.ma K (He.ga K "Trial") "__exit__") fd := T.fn 24 (d := d_Trial_exit) rfl
theorem TX.fn_l_draw (T : TX K mg) : ∃ fd, Fun K "_law_draw" "_law_draw" s_l_draw (He.ga K "_law_draw") fd := T.fn 25 (d := d_l_draw) rfl
theorem TX.fn_l_cell_at (T : TX K mg) : ∃ fd, Fun K "_law_cell_at" "_law_cell_at" s_l_cell_at (He.ga K "_law_cell_at") fd := T.fn 26 (d := d_l_cell_at) rfl
theorem TX.fn_l_digits (T : TX K mg) : ∃ fd, Fun K "_law_digits" "_law_digits" s_l_digits (He.ga K "_law_digits") fd := T.fn 27 (d := d_l_digits) rfl
theorem TX.fn_l_take (T : TX K mg) : ∃ fd, Fun K "_law_take" "_law_take" s_l_take (He.ga K "_law_take") fd := T.fn 28 (d := d_l_take) rfl
theorem TX.fn_l_pool (T : TX K mg) : ∃ fd, Fun K "_law_pool" "_law_pool" s_l_pool (He.ga K "_law_pool") fd := T.fn 29 (d := d_l_pool) rfl
theorem TX.fn_l_sets (T : TX K mg) : ∃ fd, Fun K "_law_sets" "_law_sets" s_l_sets (He.ga K "_law_sets") fd := T.fn 30 (d := d_l_sets) rfl
theorem TX.fn_l_within (T : TX K mg) : ∃ fd, Fun K "_law_within" "_law_within" s_l_within (He.ga K "_law_within") fd := T.fn 31 (d := d_l_within) rfl
theorem TX.fn_l_set (T : TX K mg) : ∃ fd, Fun K "_law_set" "_law_set" s_l_set (He.ga K "_law_set") fd := T.fn 32 (d := d_l_set) rfl
theorem TX.fn_l_rules (T : TX K mg) : ∃ fd, Fun K "_law_rules" "_law_rules" s_l_rules (He.ga K "_law_rules") fd := T.fn 33 (d := d_l_rules) rfl
theorem TX.fn_l_shut (T : TX K mg) : ∃ fd, Fun K "_law_shut" "_law_shut" s_l_shut (He.ga K "_law_shut") fd := T.fn 34 (d := d_l_shut) rfl
theorem TX.fn_l_closed_sets (T : TX K mg) : ∃ fd, Fun K "_law_closed_sets" "_law_closed_sets" s_l_closed_sets (He.ga K "_law_closed_sets") fd := T.fn 35 (d := d_l_closed_sets) rfl
theorem TX.fn_l_closure (T : TX K mg) : ∃ fd, Fun K "_law_closure" "_law_closure" s_l_closure (He.ga K "_law_closure") fd := T.fn 36 (d := d_l_closure) rfl
theorem TX.fn_l_word (T : TX K mg) : ∃ fd, Fun K "_law_word" "_law_word" s_l_word (He.ga K "_law_word") fd := T.fn 37 (d := d_l_word) rfl
theorem TX.fn_l_changed (T : TX K mg) : ∃ fd, Fun K "_law_changed" "_law_changed" s_l_changed (He.ga K "_law_changed") fd := T.fn 38 (d := d_l_changed) rfl
theorem TX.fn_l_is_right (T : TX K mg) : ∃ fd, Fun K "_law_is_right" "_law_is_right" s_l_is_right (He.ga K "_law_is_right") fd := T.fn 39 (d := d_l_is_right) rfl
theorem TX.fn_l_change (T : TX K mg) : ∃ fd, Fun K "_law_change" "_law_change" s_l_change (He.ga K "_law_change") fd := T.fn 40 (d := d_l_change) rfl
theorem TX.fn_l_do (T : TX K mg) : ∃ fd, Fun K "_law_do" "_law_do" s_l_do (He.ga K "_law_do") fd := T.fn 41 (d := d_l_do) rfl
theorem TX.fn_l_step (T : TX K mg) : ∃ fd, Fun K "_law_step" "_law_step" s_l_step (He.ga K "_law_step") fd := T.fn 42 (d := d_l_step) rfl
theorem TX.fn_l_inside_right (T : TX K mg) : ∃ fd, Fun K "_law_inside_right" "_law_inside_right" s_l_inside_right (He.ga K "_law_inside_right") fd := T.fn 43 (d := d_l_inside_right) rfl
theorem TX.fn_l_attempt_right (T : TX K mg) : ∃ fd, Fun K "_law_attempt_right" "_law_attempt_right" s_l_attempt_right (He.ga K "_law_attempt_right") fd := T.fn 44 (d := d_l_attempt_right) rfl
theorem TX.fn_l_law (T : TX K mg) : ∃ fd, Fun K "law" "law" s_l_law (He.ga K "law") fd := T.fn 45 (d := d_l_law) rfl
theorem TX.scls_Book (T : TX K mg) : SlX.SCls K (cB K) := scls_of (T.more 0 rfl (by decide))
theorem TX.scls_Desk (T : TX K mg) : SlX.SCls K (cD K) := scls_of (T.more 1 rfl (by decide))
theorem TX.scls_Trial (T : TX K mg) : SlX.SCls K (cT K) := scls_of (T.more 2 rfl (by decide))
theorem TX.sl_Book_marks (T : TX K mg) : SlX.Slot1 K (cB K) "marks" (He.ma K (cB K) "marks") 0 := slot_of (T.more 3 rfl (by decide)) (by decide)
theorem TX.sl_Book_rules (T : TX K mg) : SlX.Slot1 K (cB K) "rules" (He.ma K (cB K) "rules") 1 := slot_of (T.more 4 rfl (by decide)) (by decide)
theorem TX.sl_Desk_floor (T : TX K mg) : SlX.Slot1 K (cD K) "floor" (He.ma K (cD K) "floor") 0 := slot_of (T.more 5 rfl (by decide)) (by decide)
theorem TX.sl_Desk_notes (T : TX K mg) : SlX.Slot1 K (cD K) "notes" (He.ma K (cD K) "notes") 1 := slot_of (T.more 6 rfl (by decide)) (by decide)
theorem TX.sl_Desk_past (T : TX K mg) : SlX.Slot1 K (cD K) "past" (He.ma K (cD K) "past") 2 := slot_of (T.more 7 rfl (by decide)) (by decide)
theorem TX.sl_Trial_desk (T : TX K mg) : SlX.Slot1 K (cT K) "desk" (He.ma K (cT K) "desk") 0 := slot_of (T.more 8 rfl (by decide)) (by decide)
theorem TX.sl_Trial_floor (T : TX K mg) : SlX.Slot1 K (cT K) "floor" (He.ma K (cT K) "floor") 1 := slot_of (T.more 9 rfl (by decide)) (by decide)
theorem TX.sl_Trial_notes (T : TX K mg) : SlX.Slot1 K (cT K) "notes" (He.ma K (cT K) "notes") 2 := slot_of (T.more 10 rfl (by decide)) (by decide)
theorem TX.sl_Trial_past (T : TX K mg) : SlX.Slot1 K (cT K) "past" (He.ma K (cT K) "past") 3 := slot_of (T.more 11 rfl (by decide)) (by decide)
theorem TX.sisi_Book (T : TX K mg) : SlX.SIsi K (cB K) := sisi_of (T.more 12 rfl (by decide))
theorem TX.prop_now (T : TX K mg) : PropS K (cD K) "now" := prop_of (T.more 13 rfl (by decide))
theorem TX.prop_journal (T : TX K mg) : PropS K (cD K) "journal" := prop_of (T.more 14 rfl (by decide))
theorem TX.ne_Book (T : TX K mg) : PySem.W.findIn K (.ref (cB K)) "__ne__" = some (some (.builtin "object.__ne__")) := He.eqO_ok (T.more 15 rfl (by decide))
theorem TX.nf_Book (T : TX K mg) : PySem.W.notFirst K (cB K) (.ref (cB K)) = true := T.more 16 rfl (by decide)
theorem TX.tabs_nd (T : TX K mg) : (tabDefs.map fun p => (He.cT K p).2).Nodup := of_decide_eq_true (T.more 17 rfl (by decide))
end
end K47
set_option maxHeartbeats 2000000
/-! ### short rules over the layer -/
namespace K47
open PySem PySem.Spec PyProof.Rows L2
/-- a global def called, by a positional promise -/
def tCallR (sp : Sp) (E : XK) (t : TA) : TE := fun σ H Q => t σ H fun vs H1 => sp vs H1 Q E
section
variable {X : Cx} {CX : CXT} {k j : Nat} {f : Addr} {sp : Sp} {E : XK} {x : Str} {p pos : Pos} {e : Expr} {es : List Expr} {t : TA}
theorem pe_g (F : FnR X.prog X.w X.K X.mg X.base CX k f sp) (hr : Room j X.A) (hg : Gl X x) (hm : X.mg x = some (.ref f)) (hk : PySem.W.keepIn X.K (.ref f) = true) (hx : Passes CX X E)
    (ha : PA X (e :: es) t) (hkj : k ≤ j := by decide) (hdb : (x == ("__debug__" : Str)) = false := by decide) (he : starEach (e :: es) X.env = (false, eval e X.env) :: starEach es X.env := by rfl)
    (hpl : (backTo pos (starEach es X.env)).any (·.1) = false := by rfl) : PE X (.Call (.Name x p) (e :: es) [] pos) (tCallR sp E t) := by
  refine ⟨fun pins s σ H Q I h => wpAny_Call_Name_kw (ld_glob I hg hm ?_ hdb)⟩
  exact PySem.W.callWith_K (h₀ := X.base) I.mod.kin hk (thn (ha.run pos pins s σ H _ I h) fun us s1 ⟨vs, H1, I1, r, q⟩ => ⟨I1.kIn, wpAny_call (run_fnR (F.mono hkj) hr hx I1 r q)⟩) he hpl
end
section
variable {P : Program} {w : World} {K : PySem.W.Frag} {mg : Str → Option Value} {base : Heap} {x qual : Str} {st : Stmt} {f : Addr} {N ps : List Str} {k : Nat} {sp : Sp}
abbrev BindsAs (x qual : Str) (st : Stmt) (ps : List Str) : Prop := ∀ (kV doc pm : Value) (an : Option Addr) (cdv ct : Value) (us : List Value), us.length = ps.length → bindArgs (PySem.W.fnOf x qual (defArgs st) (defBody st) (defScope st) .none kV doc pm an cdv ct) ⟨us, []⟩ = pure (ps.zip us)
/-- a def that raises nothing, by its body -/
theorem fr0 (F : ∃ fd, Fun K x qual st f fd) (S : FnScope N ps (defScope st)) (hb : BindsAs x qual st ps) (len : ∀ vs H Q E, sp vs H Q E → vs.length = ps.length)
    (body : ∀ (cdv : Value) (A : Around) (outer : List Env) (s : Shared) (H : Hp) (vs : List V) (Q : VK) (E : XK), Room k (A.deeper (envOfC qual (defScope st) s.heap.objs.size f cdv)) → sp vs H Q E →
      ∃ t, PSs (cxOf CX0 P w K mg base N qual (defScope st) f cdv A outer s H E).nox (defBody st) t ∧ t { nx := fun _ H' => Q .non H', rt := Q } (start N vs) H) : FnR P w K mg base CX0 (k + 1) f sp := by
  obtain ⟨fd, F⟩ := F
  refine (FnOk.raw (F.ok S len body) (F.binds hb) .nil).imp fun vs H Q E h => ?_
  rw [List.append_nil]
  exact h
/-- a def that may raise -/
theorem frX (F : ∃ fd, Fun K x qual st f fd) (S : FnScope N ps (defScope st)) (hb : BindsAs x qual st ps) (len : ∀ vs H Q E, sp vs H Q E → vs.length = ps.length)
    (body : ∀ (cdv : Value) (A : Around) (outer : List Env) (s : Shared) (H : Hp) (vs : List V) (Q : VK) (E : XK), Room k (A.deeper (envOfC qual (defScope st) s.heap.objs.size f cdv)) → sp vs H Q E →
      ∃ t, PSs (cxOf (L2.CX P w) P w K mg base N qual (defScope st) f cdv A outer s H E) (defBody st) t ∧ t { nx := fun _ H' => Q .non H', rt := Q } (start N vs) H) : FnR P w K mg base (L2.CX P w) (k + 1) f sp := by
  obtain ⟨fd, F⟩ := F
  refine (FnOk.raw (F.okX S len body) (F.binds hb) .nil).imp fun vs H Q E h => ?_
  rw [List.append_nil]
  exact h
theorem kp_of (F : ∃ fd, Fun K x qual st f fd) : PySem.W.keepIn K (.ref f) = true := let ⟨_, F⟩ := F; F.kp
end
/-- a call of a built-in function by its name -/
theorem bb_isinstance : bootBuiltins "isinstance" = some (.builtin "isinstance") := by decide +kernel
theorem bb_int : bootBuiltins "int" = some (.type "int") := by decide +kernel
theorem bb_bool : bootBuiltins "bool" = some (.type "bool") := by decide +kernel
theorem bb_tuple : bootBuiltins "tuple" = some (.type "tuple") := by decide +kernel
theorem bb_list : bootBuiltins "list" = some (.type "list") := by decide +kernel
theorem bb_all : bootBuiltins "all" = some (.builtin "all") := by decide +kernel
theorem bb_any : bootBuiltins "any" = some (.builtin "any") := by decide +kernel
theorem bb_sorted : bootBuiltins "sorted" = some (.builtin "sorted") := by decide +kernel
theorem bb_abs : bootBuiltins "abs" = some (.builtin "abs") := by decide +kernel
theorem bb_sum : bootBuiltins "sum" = some (.builtin "sum") := by decide +kernel
theorem bb_len : bootBuiltins "len" = some (.builtin "len") := by decide +kernel
theorem bb_key : bootBuiltins "KeyError" = some (.type "KeyError") := by decide +kernel
/-! ### values -/
/-- an int in a closed range; nothing else is one -/
def isIn : V → Int → Int → Bool
  | .int i, lo, hi => decide (lo ≤ i) && decide (i ≤ hi)
  | _, _, _ => false
def flat : V → Bool
  | .non => true
  | .bl _ => true
  | .int _ => true
  | .str _ => true
  | _ => false
theorem same_upd {H H' : Hp} {p : Addr} {o : HO} (e : Same H H') (h : H p = none) : Same H (upd H' p o) := fun b u q => by
  rw [upd_ne (ne_of_none q h)]
  exact e b u q
theorem same_new {H : Hp} {p : Addr} {o : HO} (h : H p = none) : Same H (upd H p o) := same_upd (Same.refl H) h
theorem same_tup {K : PySem.W.Frag} {H H' : Hp} {a : Addr} {xs : List V} (e : Same H H') (h : SqT K H a xs) : SqT K H' a xs := by
  rcases h with (h | ⟨o, h⟩) | h
  · exact .inl (.inl (e _ _ h))
  · exact .inl (.inr ⟨o, e _ _ h⟩)
  · exact .inr h
/-- a comprehension that changes nothing that stood: A i is the new list ahead of turn i -/
def LcN (H1 : Hp) (D : Addr) (A : Nat → List V) (i : Nat) : Hp → Prop := fun H => Same H1 H ∧ H D = some (.lst (A i))
/-- an element is taken -/
theorem lcn_yes {H1 H4 : Hp} {D : Addr} {A : Nat → List V} {i : Nat} {y : V} (hD : H1 D = none) (hz : (A i).length < sizeLine) (h : LcN H1 D A i H4) (e : A (i + 1) = A i ++ [y]) :
    ∃ acc, H4 D = some (.lst acc) ∧ acc.length < sizeLine ∧ LcN H1 D A (i + 1) (upd H4 D (.lst (acc ++ [y]))) :=
  ⟨A i, h.2, hz, same_upd h.1 hD, by rw [upd_same, e]⟩
theorem lcn_no {H1 H4 : Hp} {D : Addr} {A : Nat → List V} {i : Nat} (h : LcN H1 D A i H4) (e : A (i + 1) = A i) : LcN H1 D A (i + 1) H4 := ⟨h.1, by rw [e]; exact h.2⟩
theorem lcn_upd {H1 H4 : Hp} {D p : Addr} {A : Nat → List V} {i : Nat} {o : HO} (h : LcN H1 D A i H4) (hp : H4 p = none) : LcN H1 D A i (upd H4 p o) :=
  ⟨h.1.trans (same_new hp), by rw [upd_ne (ne_of_none h.2 hp)]; exact h.2⟩
theorem lcn_same {H1 H4 H5 : Hp} {D : Addr} {A : Nat → List V} {i : Nat} (h : LcN H1 D A i H4) (e : Same H4 H5) : LcN H1 D A i H5 := ⟨h.1.trans e, e _ _ h.2⟩
theorem lc_same {J : It} {n : Nat} {G : Hp → Prop} {Y : Nat → Hp → V → Hp → Prop} (wk : Walk J n G Y) {g : TG} {tt : TT} {te : TE} {vs : List Nat} {σ : L2.St} {H1 : Hp} {D : Addr} {Qd : Hp → Prop} (A : Nat → List V) (h0 : A 0 = [])
    (hD : H1 D = none) (hG : ∀ H, Same H1 H → G H)
    (hs : ∀ i x H H', i < n → LcN H1 D A i H → Y i H x H' → g x (wipe σ vs) H' fun σ2 H2 => wipe σ2 vs = wipe σ vs ∧ tt σ2 H2 fun b H3 =>
      if b = true then te σ2 H3 fun y H4 => ∃ acc, H4 D = some (.lst acc) ∧ acc.length < sizeLine ∧ LcN H1 D A (i + 1) (upd H4 D (.lst (acc ++ [y]))) else LcN H1 D A (i + 1) H3)
    (hd : ∀ H, Same H1 H → H D = some (.lst (A n)) → Qd H) :
    ∃ W : Nat → Nat → Hp → Prop, (∃ m, W 0 m (upd H1 D (.lst []))) ∧ ∀ i m H, W i m H →
      (J.stop i H ∧ Qd H) ∨ (J.go i H ∧ ∃ Nx : Hp → Prop, (∀ H', Nx H' → ∃ m', m' < m ∧ W (i + 1) m' H') ∧ ∀ x H', J.yld i H x H' → g x (wipe σ vs) H' fun σ2 H2 => wipe σ2 vs = wipe σ vs ∧ tt σ2 H2 fun b H3 =>
        if b = true then te σ2 H3 fun y H4 => ∃ acc, H4 D = some (.lst acc) ∧ acc.length < sizeLine ∧ Nx (upd H4 D (.lst (acc ++ [y]))) else Nx H3) :=
  lc_it wk (LcN H1 D A) ⟨same_new hD, by rw [upd_same, h0]⟩ (fun i H _ p => hG H p.1) hs (fun H p => hd H p.1 p.2)
theorem take_snoc {α : Type} {l : List α} {i : Nat} {x : α} (h : l[i]? = some x) : l.take (i + 1) = l.take i ++ [x] := by
  rw [List.take_add_one, h]
  rfl
theorem lt_of_get {α : Type} {l : List α} {i : Nat} {x : α} (h : l[i]? = some x) : i < l.length := (List.getElem?_eq_some_iff.mp h).1
/-- the items of a mapped list -/
theorem map_get {α β : Type} {f : α → β} {l : List α} {i : Nat} {y : β} (h : (l.map f)[i]? = some y) : ∃ x, l[i]? = some x ∧ y = f x := by
  rw [List.getElem?_map] at h
  cases e : l[i]? with
  | none =>
    rw [e] at h
    cases h
  | some x =>
    rw [e] at h
    exact ⟨x, rfl, (Option.some.inj h).symm⟩
theorem get_map {α β : Type} {f : α → β} {l : List α} {i : Nat} {x : α} (h : l[i]? = some x) : (l.map f)[i]? = some (f x) := by
  rw [List.getElem?_map, h]
  rfl
/-! ### a target of two names -/
theorem pg_pair {X : Cx} {K : PySem.W.Frag} {x y : Str} {p1 p2 pos : Pos} {k : Nat} (i j : Nat) (nd : X.N.Nodup) (hK : X.K = K := by rfl) (hc : X.calm = true := by rfl) (hi : X.N[i]? = some x := by rfl) (hj : X.N[j]? = some y := by rfl)
    (hx : Loc X.env.scope x := by first | exact Or.inl rfl | exact Or.inr rfl) (hy : Loc X.env.scope y := by first | exact Or.inl rfl | exact Or.inr rfl)
    (fx : X.fn x = true ∨ X.env.scope.names.lookup x = some .local := by first | exact Or.inl rfl | exact Or.inr rfl) (fy : X.fn y = true ∨ X.env.scope.names.lookup y = some .local := by first | exact Or.inl rfl | exact Or.inr rfl) :
    PG X (.Tuple [.Name x p1, .Name y p2] k pos) (gTup K 2 (gCons (gName i) (gCons (gName j) gNil))) := by
  subst hK
  exact pg_tup hc (pgs_cons (pg_name nd hi hx fx) (pgs_cons (pg_name nd hj hy fy) pgs_nil))
/-! ### slices of tuples -/
/-- a slice is some tuple with the cut's items -/
theorem slA {K : PySem.W.Frag} {H : Hp} {a : Addr} {xs : List V} {lo hi : Option Int} {Q : VK} (h : SqT K H a xs) (q : ∀ p H', Same H H' → SqT K H' p (cutV xs lo hi) → Q (.ref p) H') : rSlA K (.ref a) lo hi H Q := by
  refine ⟨a, xs, rfl, h, fun e => ?_, fun _ p hp => ?_⟩
  · refine q a H (Same.refl H) ?_
    have e2 : cutV xs lo hi = xs := by
      unfold cutV
      rw [e.1, e.2]
      simp
    rw [e2]
    exact h
  · exact q p _ (same_new hp) (SqT.of upd_same)
theorem cut_from (xs : List V) (k : Nat) : cutV xs (some (k : Int)) none = xs.drop k := by
  unfold cutV
  rw [HT.sIx_nat, HT.sIx_none]
  by_cases h : k ≤ xs.length
  · rw [Nat.min_eq_left h, List.take_of_length_le (by rw [List.length_drop]; omega)]
  · rw [Nat.min_eq_right (by omega), List.drop_of_length_le (Nat.le_refl _), List.drop_of_length_le (by omega)]
    simp
theorem cut_to (xs : List V) (k : Nat) : cutV xs none (some (k : Int)) = xs.take k := by
  unfold cutV
  rw [HT.sIx_nat, HT.sIx_none, List.drop_zero, Nat.sub_zero]
  by_cases h : k ≤ xs.length
  · rw [Nat.min_eq_left h]
  · rw [Nat.min_eq_right (by omega), List.take_length, List.take_of_length_le (by omega)]
theorem walk_zipT {K : PySem.W.Frag} {a b : Addr} {xs ys : List V} {n : Nat} (hn : n = min xs.length ys.length) : Walk (RZ.ItzT K a b) n (fun H => SqT K H a xs ∧ SqT K H b ys) (YPair (fun i => xs[i]?) (fun i => ys[i]?)) := by
  subst hn
  refine ⟨fun i _ hi q => ?_, fun _ q => ⟨xs, ys, q.1, q.2, by omega⟩, fun i H v H' _ q y => ?_⟩
  · exact ⟨xs, ys, xs[i]'(by omega), ys[i]'(by omega), q.1, q.2, List.getElem?_eq_getElem (by omega), List.getElem?_eq_getElem (by omega)⟩
  · obtain ⟨T, x, z, h1, h2, h3, h4, h5⟩ := y
    exact ⟨T, x, z, h1, h2, h3, h4 xs q.1, h5 ys q.2⟩
theorem take_full {α : Type} {l : List α} {n : Nat} (h : n = l.length) : l.take n = l := by
  rw [h, List.take_length]
theorem take_lt {α : Type} {l : List α} {n i : Nat} (h : l.length ≤ n) (hn : n ≤ 1000) : (l.take i).length < sizeLine := by
  rw [List.length_take]
  exact Nat.lt_of_le_of_lt (Nat.min_le_right _ _) (small1000 (Nat.le_trans h hn))
end K47
set_option maxHeartbeats 4000000
/-! ### enumerate(t), t a tuple -/
namespace K47
section
open PySem AutoSeq1
variable {prog : Program} {w : World} {A : Around} {E : Value → Shared → Prop} {s : Shared}
theorem meets_enumT (l : Addr) (c : Value) (ys : Array Value) (n : Nat) (dct : Option Addr) (sl : Array (Option Value)) :
    Meets (Builtin.«enumerate.__new__» ⟨[.type "enumerate", .ref l], []⟩) (fun _ R s => s.heap.get? l = some ⟨.type "tuple", dct, .seq ys n, sl⟩ ∧
      R (.ok (.ret (.ref (s.heap.push { cls := .type "tuple_iterator", data := .fields #[.ref l, .int 0 0] }).objs.size)))
        { s with heap := (s.heap.push { cls := .type "tuple_iterator", data := .fields #[.ref l, .int 0 0] }).push { cls := .type "enumerate", data := .fields #[.none, .bool false, .ref s.heap.objs.size, rawInt 0, .none, .none] } }) :=
  .of_wp fun prog w A R s h => by
    obtain ⟨h1, h2, h3, h4, h5⟩ := s
    obtain ⟨hl, h⟩ := h
    have hsub := sub_enumerate
    have hL : Heap.IsTuple (Shared.heap ⟨h1, h2, h3, h4, h5⟩) l ys := ⟨_, hl, rfl, n, rfl⟩
    wp_walk using wpAny_loadPart' hl, wpAny_pyIter_tuple hL
    refine wpAny_stack_any fun st => wpAny_pure ?_
    split
    · rename_i cx _ _ _ _ _
      cases (cx == Value.type "enumerate") <;> (wp_walk using wpAny_loadPart' hl, wpAny_pyIter_tuple hL) <;> exact ⟨_, rfl, h⟩
    · wp_walk using wpAny_loadPart' hl, wpAny_pyIter_tuple hL
      exact ⟨_, rfl, h⟩
theorem call_enumT {l : Addr} {ys : Array Value} {Q : Value → Shared → Prop} (hL : s.heap.IsTuple l ys)
    (h : ∀ h', IsEnum h' (s.heap.objs.size + 1) s.heap.objs.size 0 .none → h'.IsTupleIter s.heap.objs.size l 0 → (∀ b o, s.heap.get? b = some o → h'.get? b = some o) → Q (.ref (s.heap.objs.size + 1)) { s with heap := h' }) :
    wpAny (model prog w) A (call (.type "enumerate") [.ref l]) Q E s := by
  obtain ⟨⟨c, dct, dt, sl⟩, hl, hc, n, hd⟩ := hL
  obtain rfl : c = .type "tuple" := hc
  obtain rfl : dt = .seq ys n := hd
  refine callType_new F.called_enumerate (by decide) (F.typeCall_enumerate_1 _) (F.newCall_enumerate_1 _) (fun obj => F.args_object_init_2 obj _) F.entry_enumerate_new (meets_enumT l .none ys n dct sl) ⟨hl, ?_⟩
  have z1 : (s.heap.push { cls := .type "tuple_iterator", data := .fields #[.ref l, .int 0 0] }).objs.size = s.heap.objs.size + 1 := Heap.size_push ..
  have g1 := Heap.get?_push_size (s.heap.push { cls := .type "tuple_iterator", data := .fields #[.ref l, .int 0 0] }) (o := { cls := .type "enumerate", data := .fields #[.none, .bool false, .ref s.heap.objs.size, rawInt 0, .none, .none] }) rfl
  rw [z1] at g1
  show _ ∧ _
  rw [z1]
  exact ⟨⟨_, g1, rfl⟩, h _ g1 ⟨_, Heap.get?_push_of_some _ (Heap.get?_push_size _ rfl), rfl, rfl⟩ fun b o x => Heap.get?_push_of_some _ (Heap.get?_push_of_some _ x)⟩
end
open PySem PySem.Spec PyProof.Rows L2
/-- the tuple at a at each turn, each item in a new pair with its number -/
def IteT (K : PySem.W.Frag) (a : Addr) : It where
  go := fun i H => ∃ (xs : List V) (x : V), SqT K H a xs ∧ xs[i]? = some x
  yld := fun i H v H' => ∃ T x, v = .ref T ∧ H T = none ∧ H' = upd H T (.tup [.int (i : Nat), x]) ∧ ∀ xs, SqT K H a xs → xs[i]? = some x
  stop := fun i H => ∃ xs : List V, SqT K H a xs ∧ xs.length ≤ i
theorem walk_enumT {K : PySem.W.Frag} {a : Addr} {xs : List V} : Walk (IteT K a) xs.length (fun H => SqT K H a xs) (fun i H v H' => ∃ T x, v = .ref T ∧ H T = none ∧ H' = upd H T (.tup [.int (i : Nat), x]) ∧ xs[i]? = some x) := by
  refine ⟨fun i _ hi q => ⟨xs, _, q, List.getElem?_eq_getElem hi⟩, fun _ q => ⟨xs, q, Nat.le_refl _⟩, fun i H v H' _ q y => ?_⟩
  obtain ⟨T, x, h1, h2, h3, h4⟩ := y
  exact ⟨T, x, h1, h2, h3, h4 xs q⟩
theorem tup_turn {P : Program} {w : World} {K : PySem.W.Frag} {elts : List Expr} {kk : Nat} {tpos : Pos} (a e it : Addr) (hai : a ≠ it) (hae : a ≠ e) :
    Turn P w K (.Tuple elts kk tpos) (IteT K a) [e, it] e (fun i h => (∃ old, IsEnum h e it ((i : Nat) : Int) old) ∧ h.IsTupleIter it a i ∧ e ≠ it) where
  mem := List.mem_cons_self ..
  obj := fun i h st b hb => by
    obtain ⟨⟨old, he⟩, ⟨o, ho, hc, hd⟩, _⟩ := st
    rcases List.mem_cons.mp hb with z | z
    · rw [z]
      exact ⟨_, he, fun v q => nomatch q⟩
    · rw [List.mem_singleton.mp z]
      exact ⟨o, ho, fun v q => by rw [hd] at q; cases q⟩
  keep := fun i h h' st k => let ⟨⟨old, he⟩, hi, hne⟩ := st; ⟨⟨old, k e (List.mem_cons_self ..) _ he⟩, hi.at fun o q => k it (List.mem_cons_of_mem _ (List.mem_cons_self ..)) o q, hne⟩
  item := by
    intro X hP hw hK hc i pins s σ H E I hf st hg
    subst hP hw hK
    obtain ⟨⟨old, he⟩, hit, hne⟩ := st
    obtain ⟨xs, x, hq, hx⟩ := hg
    obtain ⟨its, rv, pt, _⟩ := I.tuple hq
    obtain ⟨u, hu, ru⟩ := rv.get hx
    have hlt : i < its.toArray.size := by
      have := lt_of_get hu
      simpa using this
    have hel : e < s.heap.objs.size := Heap.lt_size he
    have hil : it < s.heap.objs.size := by
      obtain ⟨_, q, _⟩ := hit
      exact Heap.lt_size q
    have both : ∀ {b : Addr}, b ∈ [e, it] → b = e ∨ b = it := fun hb => by
      rcases List.mem_cons.mp hb with z | z
      · exact .inl z
      · exact .inr (List.mem_singleton.mp z)
    refine wpAny_pyNext_enum_itemD (Draws.tuple (A := X.A.in1) (I.ok.hd hc) it a hai its.toArray) he ⟨hit, pt⟩ hlt hne (fun z => ?_) fun y h' tk hy ho hst hT hsz hk => ?_
    · rcases List.mem_cons.mp z with z | z
      · exact hne z
      · exact hae (List.mem_singleton.mp z).symm
    have ey : y = u := by
      have e1 : its.toArray[i]? = some u := by simpa using hu
      rw [hy] at e1
      exact Option.some.inj e1
    subst ey
    refine ⟨_, rfl, wpAny_letOwnedTupleGo_enum (s := { s with heap := h', toks := tk + 1 }) ho fun h'' he' sb => ?_⟩
    have hT2 : h''.get? s.heap.objs.size = some { cls := .type "tuple", data := .seq #[.int i tk, y] } := (sb.2 _ (Nat.ne_of_gt hel)).trans hT
    have new : ObjOk X.prog X.w (upd H s.heap.objs.size (.tup [.int (i : Nat), x])) h'' s.heap.objs.size (.tup [.int (i : Nat), x]) := by
      refine ⟨by show 2 ≤ sizeLine; decide, [.int i tk, y], ?_, _, hT2, rfl, 0, rfl⟩
      exact .cons ⟨tk, rfl⟩ (.cons ru .nil)
    have keepB : ∀ (b : Addr) (o : Obj), b ∉ [e, it] → s.heap.get? b = some o → h''.get? b = some o := fun b o hb q => by
      have n1 : b ≠ e := fun z => hb (by rw [z]; exact List.mem_cons_self ..)
      have n2 : b ≠ it := fun z => hb (by rw [z]; exact List.mem_cons_of_mem _ (List.mem_cons_self ..))
      exact (sb.2 b n1).trans (hk b o n1 n2 q)
    have I1 : Inv X pins σ (upd H s.heap.objs.size (.tup [.int (i : Nat), x])) { s with heap := h'', toks := tk + 1 } := I.turnedNew (ch := [e, it]) keepB hf (Nat.le_refl _) new
    refine ⟨.ref s.heap.objs.size, _, I1, rfl, ⟨_, x, rfl, I.hok.fresh (Nat.le_refl _), rfl, fun ys hy => by rw [I.tuple_inj hy hq]; exact hx⟩, ⟨⟨y, ?_⟩, hst.1.at fun o q => (sb.2 it (Ne.symm hne)).trans q, hne⟩, fun b hb => ?_⟩
    · rw [show ((i + 1 : Nat) : Int) = (i : Int) + 1 by omega]
      exact he'
    · have lt : b < s.heap.objs.size := (both hb).elim (fun z => z ▸ hel) (fun z => z ▸ hil)
      rw [upd_ne (Nat.ne_of_lt lt)]
      exact (hf b hb).1
  done := by
    intro X hP hw hK hc i pins s σ H E I hf st hg
    subst hP hw hK
    obtain ⟨⟨old, he⟩, hit, hne⟩ := st
    obtain ⟨xs, hq, hx⟩ := hg
    obtain ⟨its, rv, pt, _⟩ := I.tuple hq
    have hl := rv.length
    have none' : its.toArray[i]? = none := by
      simp
      omega
    obtain ⟨f0, f1, f2, f3, f4, f5⟩ := hf it (List.mem_cons_of_mem _ (List.mem_cons_self ..))
    unfold pyNext
    have hT : s.TypeIs (.ref e) "enumerate" := ⟨_, he, rfl⟩
    refine wpAny_bind (wpAny_attempt (wpAny_callSpecial?_slot (name := Str.ofString "__next__") hT PySem.F.slot_enumerate_next (wpAny_call_entry PySem.F.slot_enumerate_next hT PySem.F.entry_enumerate_next ?_ (PySem.F.args_enumerate_next_1 _))))
    show wpAny _ _ (field (.ref e) 2 >>= _) _ _ s
    refine wpAny_bind (wpAny_field he rfl (x := .ref it) rfl (wpAny_bind (wpAny_nextOf_tuple_end (I.ok.hd hc) hit pt none' fun h' x he' hx' => ?_)))
    obtain ⟨o, ho, hcl⟩ := hx'
    refine wpAny_bind (wpAny_isInstance (T := "StopIteration") (b := true) ⟨o, ho, hcl⟩ isSubtype_stop (wpAny_pure ?_))
    exact ⟨rfl, I.turned (t' := s.toks) (fun b o hb q => he' b o hb q) f0 f1 f3 f4 f5⟩
  self := fun A i s Q E st h => let ⟨⟨_, he⟩, _⟩ := st; wpAny_pyIter_enum he h
def iEnumT (K : PySem.W.Frag) (ta : TA) : TI := fun σ H R => ta σ H fun vs H1 => ∃ a xs, vs = [.ref a] ∧ SqT K H1 a xs ∧ R (IteT K a) H1
/-- enumerate(t) -/
theorem pi_enumT {X : Cx} {e : Expr} {ta : TA} {p pos tpos : Pos} {elts : List Expr} {kk : Nat} (hg : Gl X "enumerate") (hm : X.mg "enumerate" = none) (ha : PA X [e] ta) (hs : starEach [e] X.env = [(false, eval e X.env)] := by rfl) :
    PI X (.Tuple elts kk tpos) (.Call (.Name "enumerate" p) [e] [] pos) (iEnumT X.K ta) := by
  refine ⟨fun pins s σ H R I h => Call_ (ld_blt I hg hm boot_enumerate (PyProof.Rows.callWith_type1 (thn (ha.run pos pins s σ H _ I h) fun us s1 ⟨vs, H1, I1, r1, q1⟩ => ?_) hs rfl))⟩
  obtain ⟨a, xs, ex, hq, q⟩ := q1
  subst ex
  obtain ⟨u, eu, ru⟩ := r1.one
  subst eu
  cases (show u = Value.ref a from ru)
  obtain ⟨its, rv, pt, _⟩ := I1.tuple hq
  have hal : a < s1.heap.objs.size := by
    obtain ⟨o, ho, _⟩ := pt
    exact Heap.lt_size ho
  refine call_enumT pt fun h' he hit hk => wpAny_pyIter_enum he ?_
  have I2 : Inv X pins σ H1 { s1 with heap := h' } := I1.kept (t' := s1.toks) hk
  refine ⟨s1.heap.objs.size + 1, [s1.heap.objs.size + 1, s1.heap.objs.size], _, _, H1, rfl, I2, tup_turn a (s1.heap.objs.size + 1) s1.heap.objs.size (Nat.ne_of_lt hal) (Nat.ne_of_lt (Nat.lt_succ_of_lt hal)), ⟨⟨.none, he⟩, hit, Nat.succ_ne_self _⟩, fun b hb => ?_, q⟩
  have hle : s1.heap.objs.size ≤ b := by
    rcases List.mem_cons.mp hb with z | z
    · rw [z]
      exact Nat.le_succ _
    · rw [List.mem_singleton.mp z]
      exact Nat.le_refl _
  exact I1.fpOk hle (I1.hok.fresh hle)
end K47
set_option maxHeartbeats 4000000
namespace K47
open PySem PySem.Spec PyProof.Rows L2
section
variable {P : Program} {w : World} {K : PySem.W.Frag} {mg : Str → Option Value} {base : Heap}
/-! ### is_integer -/
def sp_is_integer : Sp := fun vs H Q _ => ∃ (x : V) (lo hi : Int), vs = [x, .int lo, .int hi] ∧ flat x = true ∧ Q (.bl (isIn x lo hi)) H
theorem sc_is_integer : FnScope ["thing", "low", "high"] ["thing", "low", "high"] (defScope s_is_integer) := ⟨rfl, rfl, rfl, by decide +kernel, rfl, by decide +kernel, by decide +kernel⟩
/-- the built-in type of a flat value -/
def flTy : V → String
  | .non => "NoneType"
  | .bl _ => "bool"
  | .int _ => "int"
  | .str _ => "str"
  | _ => "object"
theorem tyx_flat {H : Hp} {x : V} (h : flat x = true) : TyX K H x (.type (flTy x)) := by
  cases x with
  | non => exact .base .non
  | bl b => exact .base (.bl b)
  | int i => exact .base (.int i)
  | str z => exact .base (.str z)
  | _ => cases h
theorem kt_non : kitB "NoneType" "int" = some false := by decide +kernel
theorem kt_bl : kitB "bool" "int" = some true := by decide +kernel
theorem kt_int : kitB "int" "int" = some true := by decide +kernel
theorem kt_str : kitB "str" "int" = some false := by decide +kernel
theorem kt_blb : kitB "bool" "bool" = some true := by decide +kernel
theorem kt_intb : kitB "int" "bool" = some false := by decide +kernel
theorem isIn_int (i lo hi : Int) : isIn (.int i) lo hi = (decide (lo ≤ i) && decide (i ≤ hi)) := rfl
theorem ok_is_integer (T : TX K mg) : FnR P w K mg base CX0 1 (He.ga K "is_integer") sp_is_integer := by
  refine fr0 T.fn_is_integer sc_is_integer (fun _ _ _ _ _ _ us hl => match us, hl with | [_, _, _], _ => rfl) (fun vs H Q E h => ?_) (fun cdv A outer s H vs Q E hr h => ?_)
  · obtain ⟨x, lo, hi, rfl, _⟩ := h
    rfl
  · obtain ⟨x, lo, hi, rfl, hf, q⟩ := h
    refine ⟨_, pss_one (ps_ret (pe_and (pe_callB call_isi (by rfl) T.free_isinstance bb_isinstance (pa_cons (pv 0) (pa_cons (pe_bltn (v := .ty "int") (by rfl) T.free_int bb_int rfl) pa_nil)))
      (pe_and (pe_not (pe_callB call_isi (by rfl) T.free_isinstance bb_isinstance (pa_cons (pv 0) (pa_cons (pe_bltn (v := .ty "bool") (by rfl) T.free_bool bb_bool rfl) pa_nil))))
      (pe_one (pe_chain op_le op_le (pv 1) (pv 0) (pv 2)))))), ?_⟩
    have k1 : ∀ {c : V}, flat c = true → kitB (flTy c) "int" = some (match c with | .bl _ => true | .int _ => true | _ => false) := fun {c} hc => by
      cases c with
      | non => exact kt_non
      | bl _ => exact kt_bl
      | int _ => exact kt_int
      | str _ => exact kt_str
      | _ => cases hc
    refine ⟨_, rfl, x, .ty "int", _, _, _, rfl, .ty "int", tyx_flat hf, kit_ty (k1 hf), _, rfl, ?_⟩
    cases x with
    | non => exact q
    | str z => exact q
    | bl b => exact ⟨_, rfl, .bl b, .ty "bool", _, _, true, rfl, .ty "bool", tyx_flat hf, kit_ty kt_blb, true, rfl, false, rfl, q⟩
    | int i =>
      refine ⟨_, rfl, .int i, .ty "bool", _, _, false, rfl, .ty "bool", tyx_flat hf, kit_ty kt_intb, false, rfl, true, rfl, _, rfl, _, rfl, _, _, rfl, rfl, _, rfl, ?_⟩
      refine ite2 (fun h => ⟨_, rfl, _, _, rfl, rfl, ?_⟩) (fun h => ?_)
      · have e : isIn (.int i) lo hi = decide (i ≤ hi) := by
          rw [isIn_int, h, Bool.true_and]
        rw [e] at q
        exact q
      · have e : isIn (.int i) lo hi = false := by
          rw [isIn_int, Bool.eq_false_iff.mpr h, Bool.false_and]
        rw [e] at q
        exact q
    | _ => cases hf
/-! ### is_within -/
def within (xs ys : List Int) : Bool := xs.all fun x => ys.contains x
/-- what is within what: a tuple, or a dict by its keys -/
def HasI (K : PySem.W.Frag) (H : Hp) (b : Addr) (ys : List Int) : Prop := SqT K H b (ys.map V.int) ∨ ∃ kvs : List (Key × V), H b = some (.dK kvs) ∧ kvs.map (·.1) = ys.map Sum.inl
def sp_within (K : PySem.W.Frag) : Sp := fun vs H Q _ => ∃ (a b : Addr) (xs ys : List Int), vs = [.ref a, .ref b] ∧ SqT K H a (xs.map V.int) ∧ HasI K H b ys ∧ xs.length ≤ 1000 ∧ ∀ H', Same H H' → Q (.bl (within xs ys)) H'
abbrev N_is_within : List Str := ["one", "other", "mark"]
theorem sc_is_within : FnScope N_is_within ["one", "other"] (defScope s_is_within) := ⟨rfl, rfl, rfl, by decide +kernel, rfl, by decide +kernel, by decide +kernel⟩
theorem inV_ints (x : Int) (ys : List Int) : inV (.int x) (ys.map V.int) = ys.contains x := by
  unfold inV
  rw [List.any_map, List.contains_eq_any_beq]
  congr 1
  funext y
  show (y == x) = (x == y)
  exact BEq.comm
theorem all_flat_ints (ys : List Int) : (ys.map V.int).all flatV = true := by
  rw [List.all_map]
  exact List.all_eq_true.mpr fun _ _ => rfl
theorem has_key {kvs : List (Key × V)} {ys : List Int} (h : kvs.map (·.1) = ys.map Sum.inl) (z : Int) : (valV kvs (Sum.inl z)).isSome = ys.contains z := by
  unfold valV
  induction kvs generalizing ys with
  | nil =>
    cases ys with
    | nil => rfl
    | cons y ys => cases h
  | cons kv kvs ih =>
    cases ys with
    | nil => cases h
    | cons y ys =>
      injection h with h1 h2
      rw [List.find?_cons, List.contains_cons]
      by_cases e : z = y
      · subst e
        simp [h1]
      · have e1 : decide (kv.1 = Sum.inl z) = false := by
          rw [show kv.1 = Sum.inl y from h1]
          exact decide_eq_false fun q => e (Sum.inl.inj q).symm
        have e2 : (z == y) = false := by simpa using e
        rw [e1, e2, Bool.false_or]
        exact ih h2
theorem ok_is_within (T : TX K mg) : FnR P w K mg base CX0 1 (He.ga K "is_within") (sp_within K) := by
  refine fr0 T.fn_is_within sc_is_within (fun _ _ _ _ _ _ us hl => match us, hl with | [_, _], _ => rfl) (fun vs H Q E h => ?_) (fun cdv A outer s H vs Q E hr h => ?_)
  · obtain ⟨a, b, xs, ys, rfl, _⟩ := h
    rfl
  · obtain ⟨a, b, xs, ys, rfl, hA, hB, hl, q⟩ := h
    have nd := sc_is_within.nd
    rcases hB with hB | ⟨kvs, hB, hk⟩
    · refine ⟨_, pss_one (ps_ret (pe_callB (cr_all rfl) (by rfl) T.free_all bb_all (pa_cons (pe_lc (own := [("mark", 2)]) rfl nd (pi_tup (pv 0)) (blkOk_by (N := N_is_within) (sc := defScope s_is_within) (by decide +kernel)) (fun _ _ _ _ _ => pg_name (i := 2) nd rfl (Or.inl rfl)) (fun _ _ _ _ _ => pts_nil)
        (fun _ _ _ _ _ => pe_cmpR (r := rIn K false) (by exact op_in_seq) (pv 2) (pv 1) (by rfl))) pa_nil))), ?_⟩
      refine ⟨_, rfl, a, rfl, ⟨_, hA⟩, fun D hD => lc_same (walk_tup (xs := xs.map V.int)) (fun i => ((xs.map fun x => ys.contains x).map V.bl).take i) rfl hD (fun H1 e => same_tup e hA) (fun i x H1 H2 hi p y => ?_) (fun H1 e hD1 => ?_)⟩
      · obtain ⟨rfl, hx⟩ := y
        obtain ⟨z, hz, rfl⟩ := map_get hx
        refine ⟨rfl, _, rfl, _, rfl, b, _, rfl, .inr (same_tup p.1 hB), rfl, all_flat_ints ys, ?_⟩
        refine lcn_yes hD (take_lt (n := xs.length) (by simp) hl) p (take_snoc ?_)
        rw [get_map (get_map hz), inV_ints]
        rfl
      · rw [take_full (by simp)] at hD1
        refine ⟨D, _, rfl, SqL.of hD1, ?_⟩
        rw [List.all_map]
        exact q _ e
    · refine ⟨_, pss_one (ps_ret (pe_callB (cr_all rfl) (by rfl) T.free_all bb_all (pa_cons (pe_lc (own := [("mark", 2)]) rfl nd (pi_tup (pv 0)) (blkOk_by (N := N_is_within) (sc := defScope s_is_within) (by decide +kernel)) (fun _ _ _ _ _ => pg_name (i := 2) nd rfl (Or.inl rfl)) (fun _ _ _ _ _ => pts_nil)
        (fun _ _ _ _ _ => pe_cmp (pc_din (hu_of hr) (pv 2) (pv 1)) rfl)) pa_nil))), ?_⟩
      refine ⟨_, rfl, a, rfl, ⟨_, hA⟩, fun D hD => lc_same (walk_tup (xs := xs.map V.int)) (fun i => ((xs.map fun x => ys.contains x).map V.bl).take i) rfl hD (fun H1 e => same_tup e hA) (fun i x H1 H2 hi p y => ?_) (fun H1 e hD1 => ?_)⟩
      · obtain ⟨rfl, hx⟩ := y
        obtain ⟨z, hz, rfl⟩ := map_get hx
        refine ⟨rfl, _, rfl, _, rfl, b, _, rfl, DGet.k (k := Sum.inl z) (p.1 _ _ hB), ?_⟩
        refine lcn_yes hD (take_lt (n := xs.length) (by simp) hl) p (take_snoc ?_)
        rw [get_map (get_map hz), has_key hk]
      · rw [take_full (by simp)] at hD1
        refine ⟨D, _, rfl, SqL.of hD1, ?_⟩
        rw [List.all_map]
        exact q _ e
/-! ### is_set -/
def asc (ns : List Int) : Bool := (ns.zip (ns.drop 1)).all fun p => decide (p.1 < p.2)
def isSet (m : Int) (ns : List Int) : Bool := (ns.all fun x => isIn (.int x) 0 (m - 1)) && asc ns
def sp_is_set (K : PySem.W.Frag) : Sp := fun vs H Q _ => ∃ (m : Int) (a : Addr) (ns : List Int), vs = [.int m, .ref a] ∧ SqT K H a (ns.map V.int) ∧ ns.length ≤ 1000 ∧ ∀ H', Same H H' → Q (.bl (isSet m ns)) H'
abbrev N_is_set : List Str := ["marks", "thing", "mark", "one", "other"]
theorem sc_is_set : FnScope N_is_set ["marks", "thing"] (defScope s_is_set) := ⟨rfl, rfl, rfl, by decide +kernel, rfl, by decide +kernel, by decide +kernel⟩
theorem kt_tup : kitB "tuple" "tuple" = some true := by decide +kernel
theorem kt_lst : kitB "list" "tuple" = some false := by decide +kernel
theorem tyx_tup {H : Hp} {a : Addr} {xs : List V} (h : SqT K H a xs) : TyX K H (.ref a) (.type "tuple") := by
  rcases h with (h | ⟨o, h⟩) | ⟨o, its, n, h1, h2, _⟩
  · exact .base (.tup h)
  · exact .fTuple h
  · exact .kTuple h1 h2
theorem ok_is_set (T : TX K mg) : FnR P w K mg base CX0 2 (He.ga K "is_set") (sp_is_set K) := by
  refine fr0 T.fn_is_set sc_is_set (fun _ _ _ _ _ _ us hl => match us, hl with | [_, _], _ => rfl) (fun vs H Q E h => ?_) (fun cdv A outer s H vs Q E hr h => ?_)
  · obtain ⟨m, a, ns, rfl, _⟩ := h
    rfl
  · obtain ⟨m, a, ns, rfl, hA, hl, q⟩ := h
    have nd := sc_is_set.nd
    refine ⟨_, pss_cons (ps_if (PW.pt (pw_or (pt_not (pt_val (pe_callB call_isi (by rfl) T.free_isinstance bb_isinstance (pa_cons (pv 1) (pa_cons (pe_bltn (v := .ty "tuple") (by rfl) T.free_tuple bb_tuple rfl) pa_nil)))))
        (pw_or1 (pt_not (pt_val (pe_callB (cr_all rfl) (by rfl) T.free_all bb_all (pa_cons (pe_lc (own := [("mark", 2)]) rfl nd (pi_tup (pv 1)) (blkOk_by (N := N_is_set) (sc := defScope s_is_set) (by decide +kernel)) (fun _ _ _ _ _ => pg_name (i := 2) nd rfl (Or.inl rfl)) (fun _ _ _ _ _ => pts_nil)
          (fun _ _ _ _ _ => pe_g (ok_is_integer T) hr (by rfl) T.glo_is_integer (kp_of T.fn_is_integer) pass0 (pa_cons (pv 2) (pa_cons pe_int (pa_cons (pe_op op_sub (pv 0) pe_int) pa_nil))))) pa_nil)))))))
        (pss_one (ps_ret pe_bl)) pss_nil)
      (pss_one (ps_ret (pe_callB (cr_all rfl) (by rfl) T.free_all bb_all (pa_cons (pe_lc (own := [("one", 3), ("other", 4)]) rfl nd (RZ.pi_zipA (by rfl) T.free_zip (pa_cons (pv 1) (pa_cons (pe_slice sl_tupA (pv 1) (po_some pe_int) po_none) pa_nil))) (blkOk_by (N := N_is_set) (sc := defScope s_is_set) (by decide +kernel))
        (fun _ _ _ _ _ => pg_pair (K := K) 3 4 nd) (fun _ _ _ _ _ => pts_nil)
        (fun _ _ _ _ _ => pe_cmpR op_lt (pv 3) (pv 4) (nomark _))) pa_nil)))), ?_⟩
    refine ⟨_, rfl, .ref a, .ty "tuple", _, _, true, rfl, .ty "tuple", tyx_tup hA, kit_ty kt_tup, true, rfl, ?_⟩
    refine ⟨_, rfl, a, rfl, ⟨_, hA⟩, fun D hD => lc_same (walk_tup (xs := ns.map V.int)) (fun i => ((ns.map fun x => isIn (.int x) 0 (m - 1)).map V.bl).take i) rfl hD (fun H1 e => same_tup e hA) (fun i x H1 H2 hi p y => ?_) (fun H1 e hD1 => ?_)⟩
    · obtain ⟨rfl, hx⟩ := y
      obtain ⟨z, hz, rfl⟩ := map_get hx
      refine ⟨rfl, _, rfl, _, rfl, _, _, rfl, rfl, _, _, _, rfl, rfl, ?_⟩
      refine lcn_yes hD (take_lt (n := ns.length) (by simp) hl) p (take_snoc ?_)
      rw [get_map (get_map hz)]
    · rw [take_full (by simp)] at hD1
      refine ⟨D, _, rfl, SqL.of hD1, _, rfl, ?_⟩
      rw [List.all_map]
      have ea : (ns.all fun x => isIn (.int x) 0 (m - 1)) = ns.all (id ∘ fun x => isIn (.int x) 0 (m - 1)) := rfl
      cases ec : ns.all (id ∘ fun x => isIn (.int x) 0 (m - 1)) with
      | false =>
        have e2 : isSet m ns = false := by
          unfold isSet
          rw [ea, ec, Bool.false_and]
        rw [e2] at q
        exact q _ e
      | true =>
        have e2 : isSet m ns = asc ns := by
          unfold isSet
          rw [ea, ec, Bool.true_and]
        rw [e2] at q
        have hA1 := same_tup e hA
        refine ⟨_, rfl, _, rfl, _, rfl, ?_⟩
        dsimp only [tNoPart]
        refine slA hA1 fun b H2 e3 hB => ?_
        rw [show (1 : Int) = ((1 : Nat) : Int) from rfl, cut_from, ← List.map_drop] at hB
        refine ⟨a, b, _, _, rfl, .inr ⟨same_tup e3 hA1, hB, fun D2 hD2 => ?_⟩⟩
        refine lc_same (walk_zipT (n := (ns.zip (ns.drop 1)).length) (xs := ns.map V.int) (ys := (ns.drop 1).map V.int) (by simp)) (fun i => (((ns.zip (ns.drop 1)).map fun p => decide (p.1 < p.2)).map V.bl).take i) rfl hD2 (fun H3 e4 => ⟨same_tup e4 (same_tup e3 hA1), same_tup e4 hB⟩) (fun i x H3 H4 hi p y => ?_) (fun H3 e4 hD3 => ?_)
        · obtain ⟨Tt, x1, y1, rfl, hT, rfl, h1, h2⟩ := y
          obtain ⟨z1, hz1, rfl⟩ := map_get h1
          obtain ⟨z2, hz2, rfl⟩ := map_get h2
          refine ⟨Tt, _, rfl, SqT.of upd_same, rfl, _, _, rfl, _, _, rfl, rfl, rfl, _, rfl, _, rfl, _, _, rfl, rfl, ?_⟩
          refine lcn_yes hD2 (take_lt (n := ns.length) (by simp) hl) (lcn_upd p hT) (take_snoc ?_)
          rw [get_map (get_map (show (ns.zip (ns.drop 1))[i]? = some (z1, z2) from by rw [List.getElem?_zip_eq_some]; exact ⟨hz1, hz2⟩))]
        · rw [take_full (by simp)] at hD3
          refine ⟨D2, _, rfl, SqL.of hD3, ?_⟩
          rw [List.all_map]
          exact q _ ((e.trans e3).trans e4)
/-! ### is_rule -/
abbrev Rl : Type := List Int × List Int
def isRule (m : Int) (r : Rl) : Bool := isSet m r.1 && isSet m r.2
/-- a rule as a tuple of two tuples -/
def RlAt (K : PySem.W.Frag) (H : Hp) (v : V) (r : Rl) : Prop := ∃ a p q : Addr, v = .ref a ∧ SqT K H a [.ref p, .ref q] ∧ SqT K H p (r.1.map V.int) ∧ SqT K H q (r.2.map V.int)
theorem same_rl {H H' : Hp} {v : V} {r : Rl} (e : Same H H') (h : RlAt K H v r) : RlAt K H' v r := by
  obtain ⟨a, p, q, rfl, h1, h2, h3⟩ := h
  exact ⟨a, p, q, rfl, same_tup e h1, same_tup e h2, same_tup e h3⟩
def small (r : Rl) : Prop := r.1.length ≤ 1000 ∧ r.2.length ≤ 1000
/-- told of a tuple of two tuples, and of a list -/
def sp_is_rule (K : PySem.W.Frag) : Sp := fun vs H Q _ => ∃ (m : Int) (v : V), vs = [.int m, v] ∧
  ((∃ r, RlAt K H v r ∧ small r ∧ ∀ H', Same H H' → Q (.bl (isRule m r)) H') ∨ ∃ a xs, v = .ref a ∧ H a = some (.lst xs) ∧ Q (.bl false) H)
abbrev N_is_rule : List Str := ["marks", "thing", "part"]
theorem sc_is_rule : FnScope N_is_rule ["marks", "thing"] (defScope s_is_rule) := ⟨rfl, rfl, rfl, by decide +kernel, rfl, by decide +kernel, by decide +kernel⟩
theorem ok_is_rule (T : TX K mg) : FnR P w K mg base CX0 3 (He.ga K "is_rule") (sp_is_rule K) := by
  refine fr0 T.fn_is_rule sc_is_rule (fun _ _ _ _ _ _ us hl => match us, hl with | [_, _], _ => rfl) (fun vs H Q E h => ?_) (fun cdv A outer s H vs Q E hr h => ?_)
  · obtain ⟨m, v, rfl, _⟩ := h
    rfl
  · obtain ⟨m, v, rfl, h⟩ := h
    have nd := sc_is_rule.nd
    refine ⟨_, pss_one (ps_ret (pe_and (pe_callB call_isi (by rfl) T.free_isinstance bb_isinstance (pa_cons (pv 1) (pa_cons (pe_bltn (v := .ty "tuple") (by rfl) T.free_tuple bb_tuple rfl) pa_nil)))
      (pe_and (pe_cmpR op_eq (pe_callB call_len_seq (by rfl) T.free_len bb_len (pa_cons (pv 1) pa_nil)) pe_int (nomark _))
      (pe_one (pe_callB (cr_all rfl) (by rfl) T.free_all bb_all (pa_cons (pe_lc (own := [("part", 2)]) rfl nd (pi_tup (pv 1)) (blkOk_by (N := N_is_rule) (sc := defScope s_is_rule) (by decide +kernel)) (fun _ _ _ _ _ => pg_name (i := 2) nd rfl (Or.inl rfl)) (fun _ _ _ _ _ => pts_nil)
        (fun _ _ _ _ _ => pe_g (ok_is_set T) hr (by rfl) T.glo_is_set (kp_of T.fn_is_set) pass0 (pa_cons (pv 0) (pa_cons (pv 2) pa_nil)))) pa_nil)))))), ?_⟩
    rcases h with ⟨r, hR, hs, q⟩ | ⟨a, xs, rfl, ha, q⟩
    · obtain ⟨a, p, b, rfl, hA, hp, hb⟩ := hR
      refine ⟨_, rfl, .ref a, .ty "tuple", _, _, true, rfl, .ty "tuple", tyx_tup hA, kit_ty kt_tup, true, rfl, ?_⟩
      refine ⟨_, rfl, a, _, rfl, .inr hA, rfl, true, rfl, ?_⟩
      refine ⟨_, rfl, a, rfl, ⟨_, hA⟩, fun D hD => lc_same (walk_tup (xs := [V.ref p, V.ref b])) (fun i => ([isSet m r.1, isSet m r.2].map V.bl).take i) rfl hD (fun H1 e => same_tup e hA) (fun i x H1 H2 hi z y => ?_) (fun H1 e hD1 => ?_)⟩
      · obtain ⟨rfl, hx⟩ := y
        have key : ∃ (c : Addr) (ns : List Int), x = .ref c ∧ SqT K H2 c (ns.map V.int) ∧ ns.length ≤ 1000 ∧ [isSet m r.1, isSet m r.2][i]? = some (isSet m ns) := by
          match i, hi, hx with
          | 0, _, hx => exact ⟨p, r.1, (Option.some.inj hx).symm, same_tup z.1 hp, hs.1, rfl⟩
          | 1, _, hx => exact ⟨b, r.2, (Option.some.inj hx).symm, same_tup z.1 hb, hs.2, rfl⟩
        obtain ⟨c, ns, rfl, hc, hn, ei⟩ := key
        refine ⟨rfl, _, rfl, _, rfl, m, c, ns, rfl, hc, hn, fun H3 e3 => ?_⟩
        exact lcn_yes hD (take_lt (n := 2) (by simp) (by decide)) (lcn_same z e3) (take_snoc (get_map ei))
      · refine ⟨D, [isSet m r.1, isSet m r.2], rfl, SqL.of hD1, ?_⟩
        have e2 : ([isSet m r.1, isSet m r.2].all id) = isRule m r := by
          unfold isRule
          simp
        rw [e2]
        exact q _ e
    · exact ⟨_, rfl, .ref a, .ty "tuple", _, _, false, rfl, .ty "tuple", .base (.lst ha), kit_ty kt_lst, false, rfl, q⟩
end
end K47
set_option maxHeartbeats 1000000
/-! ### the plain law of closures -/
namespace K47
def addI (ks : List Int) (z : Int) : List Int := if ks.contains z then ks else ks ++ [z]
def addAll (ks zs : List Int) : List Int := zs.foldl addI ks
def stepR (ks : List Int) (r : Rl) : List Int := if within r.1 ks then addAll ks (addAll [] r.2) else ks
def passR (R : List Rl) (ks : List Int) : List Int := R.foldl stepR ks
theorem within_iff {xs ys : List Int} : within xs ys = true ↔ ∀ x ∈ xs, x ∈ ys := by
  unfold within
  rw [List.all_eq_true]
  exact ⟨fun h x hx => List.contains_iff_mem.mp (h x hx), fun h x hx => List.contains_iff_mem.mpr (h x hx)⟩
theorem mem_addI {ks : List Int} {z x : Int} : x ∈ addI ks z ↔ x ∈ ks ∨ x = z := by
  unfold addI
  split
  · rename_i h
    have hz := List.contains_iff_mem.mp h
    exact ⟨.inl, fun q => q.elim id fun e => e ▸ hz⟩
  · rw [List.mem_append, List.mem_singleton]
theorem mem_addAll {zs : List Int} : ∀ {ks : List Int} {x : Int}, x ∈ addAll ks zs ↔ x ∈ ks ∨ x ∈ zs := by
  unfold addAll
  induction zs with
  | nil => intro ks x; simp
  | cons z zs ih =>
    intro ks x
    rw [List.foldl_cons, ih, mem_addI, List.mem_cons, or_assoc]
theorem nodup_addI {ks : List Int} {z : Int} (h : ks.Nodup) : (addI ks z).Nodup := by
  unfold addI
  split
  · exact h
  · rename_i hz
    rw [List.nodup_append]
    refine ⟨h, by simp, fun a ha b hb e => hz ?_⟩
    rw [List.mem_singleton] at hb
    rw [← hb, ← e]
    exact List.contains_iff_mem.mpr ha
theorem nodup_addAll {zs : List Int} : ∀ {ks : List Int}, ks.Nodup → (addAll ks zs).Nodup := by
  unfold addAll
  induction zs with
  | nil => intro ks h; exact h
  | cons z zs ih => intro ks h; exact ih (nodup_addI h)
theorem pre_addI (ks : List Int) (z : Int) : ∃ e, addI ks z = ks ++ e := by
  unfold addI
  split
  · exact ⟨[], by simp⟩
  · exact ⟨_, rfl⟩
theorem pre_addAll (zs : List Int) : ∀ ks : List Int, ∃ e, addAll ks zs = ks ++ e := by
  unfold addAll
  induction zs with
  | nil => intro ks; exact ⟨[], by simp⟩
  | cons z zs ih =>
    intro ks
    obtain ⟨e1, h1⟩ := pre_addI ks z
    obtain ⟨e2, h2⟩ := ih (addI ks z)
    exact ⟨e1 ++ e2, by rw [List.foldl_cons, h2, h1, List.append_assoc]⟩
theorem pre_stepR (ks : List Int) (r : Rl) : ∃ e, stepR ks r = ks ++ e := by
  unfold stepR
  split
  · exact pre_addAll _ _
  · exact ⟨[], by simp⟩
theorem nodup_stepR {ks : List Int} {r : Rl} (h : ks.Nodup) : (stepR ks r).Nodup := by
  unfold stepR
  split
  · exact nodup_addAll h
  · exact h
theorem mem_stepR {ks : List Int} {r : Rl} {x : Int} : x ∈ stepR ks r ↔ x ∈ ks ∨ (within r.1 ks = true ∧ x ∈ r.2) := by
  unfold stepR
  split
  · rename_i h
    rw [mem_addAll, mem_addAll]
    exact ⟨fun q => q.imp id fun z => ⟨h, z.elim (fun y => absurd y (by simp)) id⟩, fun q => q.imp id fun z => .inr z.2⟩
  · rename_i h
    exact ⟨.inl, fun q => q.elim id fun z => absurd z.1 h⟩
theorem pre_passR (R : List Rl) : ∀ ks : List Int, ∃ e, passR R ks = ks ++ e := by
  unfold passR
  induction R with
  | nil => intro ks; exact ⟨[], by simp⟩
  | cons r R ih =>
    intro ks
    obtain ⟨e1, h1⟩ := pre_stepR ks r
    obtain ⟨e2, h2⟩ := ih (stepR ks r)
    exact ⟨e1 ++ e2, by rw [List.foldl_cons, h2, h1, List.append_assoc]⟩
theorem nodup_passR (R : List Rl) : ∀ {ks : List Int}, ks.Nodup → (passR R ks).Nodup := by
  unfold passR
  induction R with
  | nil => intro ks h; exact h
  | cons r R ih => intro ks h; exact ih (nodup_stepR h)
/-- what is closed stays an upper bound -/
def ClosedL (R : List Rl) (c : List Int) : Prop := ∀ r ∈ R, (∀ x ∈ r.1, x ∈ c) → ∀ x ∈ r.2, x ∈ c
theorem passR_sub {c : List Int} : ∀ {R : List Rl} {ks : List Int}, ClosedL R c → (∀ x ∈ ks, x ∈ c) → ∀ x ∈ passR R ks, x ∈ c := by
  intro R
  unfold passR
  induction R with
  | nil => intro ks _ h; exact h
  | cons r R ih =>
    intro ks hc h
    refine ih (fun q hq => hc q (List.mem_cons_of_mem _ hq)) fun x hx => ?_
    rcases mem_stepR.mp hx with q | ⟨q1, q2⟩
    · exact h x q
    · exact hc r List.mem_cons_self (fun y hy => h y (within_iff.mp q1 y hy)) x q2
theorem passR_fix : ∀ {R : List Rl} {ks : List Int}, (passR R ks).length = ks.length → ClosedL R ks ∧ passR R ks = ks := by
  intro R
  induction R with
  | nil => intro ks _; exact ⟨fun r hr => absurd hr (by simp), rfl⟩
  | cons r R ih =>
    intro ks h
    have e0 : passR (r :: R) ks = passR R (stepR ks r) := rfl
    obtain ⟨e1, h1⟩ := pre_stepR ks r
    obtain ⟨e2, h2⟩ := pre_passR R (stepR ks r)
    have l1 : e1.length = 0 := by
      have q : (ks ++ e1 ++ e2).length = ks.length := by rw [← h1, ← h2, ← e0, h]
      rw [List.length_append, List.length_append] at q
      omega
    have n1 : e1 = [] := List.length_eq_zero_iff.mp l1
    have hs : stepR ks r = ks := by rw [h1, n1, List.append_nil]
    rw [e0, hs] at h
    obtain ⟨c, p⟩ := ih h
    refine ⟨fun q hq => ?_, by rw [e0, hs, p]⟩
    rcases List.mem_cons.mp hq with rfl | hq
    · intro hp x hx
      rw [← hs]
      exact mem_stepR.mpr (.inr ⟨within_iff.mpr hp, hx⟩)
    · exact c q hq
/-- c is the closure of ns -/
structure IsCl (R : List Rl) (ns c : List Int) : Prop where
  sub : ∀ x ∈ ns, x ∈ c
  closed : ClosedL R c
  least : ∀ S : List Int, (∀ x ∈ ns, x ∈ S) → ClosedL R S → ∀ x ∈ c, x ∈ S
theorem IsCl.to {R : List Rl} {ns c d : List Int} (h : IsCl R ns c) (e : ∀ x, x ∈ d ↔ x ∈ c) : IsCl R ns d :=
  ⟨fun x hx => (e x).mpr (h.sub x hx), fun r hr hp x hx => (e x).mpr (h.closed r hr (fun y hy => (e y).mp (hp y hy)) x hx), fun S h1 h2 x hx => h.least S h1 h2 x ((e x).mp hx)⟩
theorem IsCl.same {R : List Rl} {ns c d : List Int} (h : IsCl R ns c) (k : IsCl R ns d) (x : Int) : x ∈ c ↔ x ∈ d := ⟨h.least d k.sub k.closed x, k.least c h.sub h.closed x⟩
theorem within_same {xs c d : List Int} (h : ∀ x, x ∈ c ↔ x ∈ d) : within xs c = within xs d := by
  rw [Bool.eq_iff_iff, within_iff, within_iff]
  exact ⟨fun q x hx => (h x).mp (q x hx), fun q x hx => (h x).mpr (q x hx)⟩
theorem nodup_len : ∀ {l1 l2 : List Int}, l1.Nodup → (∀ x ∈ l1, x ∈ l2) → l1.length ≤ l2.length
  | [], _, _, _ => Nat.zero_le _
  | a :: l, l2, nd, h => by
    have ha := h a List.mem_cons_self
    have q := nodup_len (l1 := l) (l2 := l2.erase a) (List.nodup_cons.mp nd).2 fun x hx => by
      have ne : x ≠ a := fun e => (List.nodup_cons.mp nd).1 (e ▸ hx)
      exact (List.mem_erase_of_ne ne).mpr (h x (List.mem_cons_of_mem _ hx))
    rw [List.length_erase_of_mem ha] at q
    have := List.length_pos_of_mem ha
    rw [List.length_cons]
    omega
theorem nodup_all {l1 l2 : List Int} (nd : l1.Nodup) (h : ∀ x ∈ l1, x ∈ l2) (hl : l2.length ≤ l1.length) : ∀ x ∈ l2, x ∈ l1 := fun x hx => by
  refine Classical.byContradiction fun hn => ?_
  have q := nodup_len (l1 := x :: l1) (l2 := l2) (List.nodup_cons.mpr ⟨hn, nd⟩) fun y hy => (List.mem_cons.mp hy).elim (fun e => e ▸ hx) (h y)
  rw [List.length_cons] at q
  omega
/-! ### marks in range -/
def InR (m : Int) (c : List Int) : Prop := ∀ x ∈ c, 0 ≤ x ∧ x < m
theorem isSet_inR {m : Int} {ns : List Int} (h : isSet m ns = true) : InR m ns := by
  unfold isSet at h
  rw [Bool.and_eq_true] at h
  intro x hx
  have q := List.all_eq_true.mp h.1 x hx
  rw [isIn_int, Bool.and_eq_true, decide_eq_true_eq, decide_eq_true_eq] at q
  omega
theorem asc_cons {a b : Int} {l : List Int} (h : asc (a :: b :: l) = true) : a < b ∧ asc (b :: l) = true := by
  unfold asc at h ⊢
  simp only [List.drop_succ_cons, List.drop_zero, List.zip_cons_cons, List.all_cons, Bool.and_eq_true, decide_eq_true_eq] at h ⊢
  exact h
theorem asc_pw : ∀ {l : List Int}, asc l = true → l.Pairwise (· < ·)
  | [], _ => .nil
  | [a], _ => by simp
  | a :: b :: l, h => by
    obtain ⟨h1, h2⟩ := asc_cons h
    have q := asc_pw h2
    refine List.pairwise_cons.mpr ⟨fun x hx => ?_, q⟩
    rcases List.mem_cons.mp hx with e | hx
    · rw [e]; exact h1
    · exact Int.lt_trans h1 ((List.pairwise_cons.mp q).1 x hx)
theorem pw_asc : ∀ {l : List Int}, l.Pairwise (· < ·) → asc l = true
  | [], _ => rfl
  | [a], _ => rfl
  | a :: b :: l, h => by
    have h2 := List.pairwise_cons.mp h
    have q := pw_asc h2.2
    unfold asc at q ⊢
    simp only [List.drop_succ_cons, List.drop_zero, List.zip_cons_cons, List.all_cons, Bool.and_eq_true, decide_eq_true_eq] at q ⊢
    exact ⟨h2.1 b List.mem_cons_self, q⟩
theorem pw_nodup {l : List Int} (h : l.Pairwise (· < ·)) : l.Nodup := h.imp fun q e => by omega
/-- the marks below m -/
def upto (m : Int) : List Int := (List.range m.toNat).map Int.ofNat
theorem mem_upto {m x : Int} : x ∈ upto m ↔ 0 ≤ x ∧ x < m := by
  unfold upto
  rw [List.mem_map]
  constructor
  · rintro ⟨n, hn, rfl⟩
    rw [List.mem_range] at hn
    exact ⟨Int.natCast_nonneg n, by show (n : Int) < m; omega⟩
  · rintro ⟨h1, h2⟩
    exact ⟨x.toNat, List.mem_range.mpr (by omega), by show ((x.toNat : Nat) : Int) = x; omega⟩
theorem inR_len {m : Int} {c : List Int} (h : InR m c) (nd : c.Nodup) : c.length ≤ m.toNat := by
  have q := nodup_len (l2 := upto m) nd fun x hx => mem_upto.mpr (h x hx)
  unfold upto at q
  rw [List.length_map, List.length_range] at q
  exact q
/-- all rules are rules over m marks -/
def ValidR (m : Int) (R : List Rl) : Prop := ∀ r ∈ R, isRule m r = true
theorem isRule_inR {m : Int} {r : Rl} (h : isRule m r = true) : InR m r.1 ∧ InR m r.2 := by
  unfold isRule at h
  rw [Bool.and_eq_true] at h
  exact ⟨isSet_inR h.1, isSet_inR h.2⟩
theorem passR_inR {m : Int} {R : List Rl} (hR : ValidR m R) {ks : List Int} (h : InR m ks) : InR m (passR R ks) := fun x hx =>
  mem_upto.mp (passR_sub (c := upto m) (fun r hr _ y hy => mem_upto.mpr ((isRule_inR (hR r hr)).2 y hy)) (fun y hy => mem_upto.mpr (h y hy)) x hx)
/-- what the loop of closure keeps -/
structure ClInv (m : Int) (R : List Rl) (ns ks : List Int) : Prop where
  nd : ks.Nodup
  rg : InR m ks
  sub : ∀ x ∈ ns, x ∈ ks
  least : ∀ S : List Int, (∀ x ∈ ns, x ∈ S) → ClosedL R S → ∀ x ∈ ks, x ∈ S
theorem ClInv.pass {m : Int} {R : List Rl} {ns ks : List Int} (hR : ValidR m R) (h : ClInv m R ns ks) : ClInv m R ns (passR R ks) := by
  refine ⟨nodup_passR R h.nd, passR_inR hR h.rg, fun x hx => ?_, fun S h1 h2 => passR_sub h2 (h.least S h1 h2)⟩
  obtain ⟨e, he⟩ := pre_passR R ks
  rw [he]
  exact List.mem_append_left _ (h.sub x hx)
theorem ClInv.done {m : Int} {R : List Rl} {ns ks : List Int} (h : ClInv m R ns ks) (c : ClosedL R ks) : IsCl R ns ks := ⟨h.sub, c, h.least⟩
theorem ClInv.start {m : Int} {R : List Rl} {ns : List Int} (h : InR m ns) : ClInv m R ns (addAll [] ns) :=
  ⟨nodup_addAll .nil, fun x hx => h x ((mem_addAll.mp hx).elim (fun z => absurd z (by simp)) id), fun x hx => mem_addAll.mpr (.inr hx), fun S h1 _ x hx => h1 x ((mem_addAll.mp hx).elim (fun z => absurd z (by simp)) id)⟩
theorem cl_ex {m : Int} {R : List Rl} {ns : List Int} (hR : ValidR m R) : ∀ (n : Nat) (ks : List Int), ClInv m R ns ks → m.toNat - ks.length ≤ n → ∃ c, ClInv m R ns c ∧ ClosedL R c := by
  intro n
  induction n with
  | zero =>
    intro ks h hl
    have h2 := h.pass hR
    obtain ⟨e, he⟩ := pre_passR R ks
    have l1 := inR_len h2.rg h2.nd
    have l0 := inR_len h.rg h.nd
    have q : (passR R ks).length = ks.length := by
      rw [he, List.length_append] at l1 ⊢
      omega
    exact ⟨ks, h, (passR_fix q).1⟩
  | succ n ih =>
    intro ks h hl
    by_cases q : (passR R ks).length = ks.length
    · exact ⟨ks, h, (passR_fix q).1⟩
    · obtain ⟨e, he⟩ := pre_passR R ks
      refine ih _ (h.pass hR) ?_
      rw [he, List.length_append] at q ⊢
      omega
theorem ValidR.take {m : Int} {R : List Rl} (h : ValidR m R) (i : Nat) : ValidR m (R.take i) := fun r hr => h r (List.mem_of_mem_take hr)
theorem pass_snoc {R : List Rl} {i : Nat} {r : Rl} (h : R[i]? = some r) (ks : List Int) : passR (R.take (i + 1)) ks = stepR (passR (R.take i) ks) r := by
  unfold passR
  rw [take_snoc h, List.foldl_append]
  rfl
/-! ### the first closed set by size -/
/-- all sets of m marks, as a list by size -/
structure AllSets (m : Int) (S : List (List Int)) : Prop where
  ok : ∀ t ∈ S, t.Nodup ∧ InR m t
  all : ∀ u : List Int, InR m u → ∃ t ∈ S, ∀ x, x ∈ t ↔ x ∈ u
  up : S.Pairwise fun s t => s.length ≤ t.length
def shut (R : List Rl) (t : List Int) : Bool := R.all fun r => !within r.1 t || within r.2 t
theorem shut_iff {R : List Rl} {t : List Int} : shut R t = true ↔ ClosedL R t := by
  unfold shut ClosedL
  rw [List.all_eq_true]
  refine forall_congr' fun r => forall_congr' fun hr => ?_
  rw [Bool.or_eq_true, Bool.not_eq_true', within_iff]
  constructor
  · rintro (h | h) hp
    · rw [within_iff.mpr hp] at h
      cases h
    · exact h
  · intro h
    cases e : within r.1 t with
    | false => exact .inl rfl
    | true => exact .inr (h (within_iff.mp e))
theorem first_cl {m : Int} {R : List Rl} {ns : List Int} {S : List (List Int)} (hS : AllSets m S) (hR : ValidR m R) (hn : InR m ns) :
    ∃ c l, (S.filter fun t => shut R t).filter (fun t => within ns t) = c :: l ∧ IsCl R ns c := by
  obtain ⟨c0, i0, k0⟩ := cl_ex (ns := ns) hR m.toNat _ (ClInv.start hn) (Nat.sub_le _ _)
  obtain ⟨t0, ht, he⟩ := hS.all c0 i0.rg
  have m0 : t0 ∈ (S.filter fun t => shut R t).filter (fun t => within ns t) := by
    refine List.mem_filter.mpr ⟨List.mem_filter.mpr ⟨ht, shut_iff.mpr fun r hr hp x hx => (he x).mpr (k0 r hr (fun y hy => (he y).mp (hp y hy)) x hx)⟩, within_iff.mpr fun x hx => (he x).mpr (i0.sub x hx)⟩
  cases e : (S.filter fun t => shut R t).filter (fun t => within ns t) with
  | nil =>
    rw [e] at m0
    cases m0
  | cons c l =>
    refine ⟨c, l, rfl, ?_⟩
    have mc : c ∈ (S.filter fun t => shut R t).filter (fun t => within ns t) := by rw [e]; exact List.mem_cons_self
    obtain ⟨mc1, wc⟩ := List.mem_filter.mp mc
    obtain ⟨mc2, sc⟩ := List.mem_filter.mp mc1
    have cc := shut_iff.mp sc
    have lc : c.length ≤ t0.length := by
      have up : ((S.filter fun t => shut R t).filter (fun t => within ns t)).Pairwise fun s t => s.length ≤ t.length := (hS.up.filter _).filter _
      rw [e] at up m0
      rcases List.mem_cons.mp m0 with q | q
      · rw [q]; exact Nat.le_refl _
      · exact (List.pairwise_cons.mp up).1 _ q
    have cl0 := i0.done k0
    have sub : ∀ x ∈ t0, x ∈ c := fun x hx => cl0.least c (within_iff.mp wc) cc x ((he x).mp hx)
    have back := nodup_all (hS.ok t0 ht).1 sub lc
    exact ⟨within_iff.mp wc, cc, fun S' h1 h2 x hx => cl0.least S' h1 h2 x ((he x).mp (back x hx))⟩
end K47
set_option maxHeartbeats 4000000
/-! ### dicts by their keys; closure -/
namespace K47
open PySem PySem.Spec PyProof.Rows L2
def KsOf (kvs : List (Key × V)) (ks : List Int) : Prop := kvs.map (·.1) = ks.map Sum.inl
theorem ks_has {kvs : List (Key × V)} {ks : List Int} (h : KsOf kvs ks) (z : Int) : (kvs.any fun kv => decide (kv.1 = Sum.inl z)) = ks.contains z := by
  have e : (kvs.map (·.1)).any (fun k => decide (k = (Sum.inl z : Key))) = (ks.map (Sum.inl : Int → Key)).any (fun k => decide (k = (Sum.inl z : Key))) := by rw [h]
  rw [List.any_map, List.any_map] at e
  rw [List.contains_eq_any_beq]
  refine Eq.trans (show _ = _ from e) ?_
  congr 1
  funext y
  show decide ((Sum.inl y : Key) = Sum.inl z) = (z == y)
  rw [key_ll]
  exact BEq.comm
theorem ks_put {kvs : List (Key × V)} {ks : List Int} {z : Int} {v : V} (h : KsOf kvs ks) : KsOf (putK kvs (Sum.inl z) v) (addI ks z) := by
  unfold putK addI
  rw [ks_has h]
  split
  · unfold KsOf
    rw [List.map_map]
    refine Eq.trans (List.map_congr_left fun kv _ => ?_) h
    show (if kv.1 = Sum.inl z then (kv.1, v) else kv).1 = kv.1
    split <;> rfl
  · unfold KsOf at h ⊢
    rw [List.map_append, List.map_append, h]
    rfl
theorem ks_merge {more : List (Key × V)} : ∀ {zs : List Int} {kvs : List (Key × V)} {ks : List Int}, KsOf kvs ks → KsOf more zs → KsOf (mergeK kvs more) (addAll ks zs) := by
  unfold mergeK addAll
  induction more with
  | nil =>
    intro zs kvs ks h h2
    cases zs with
    | nil => exact h
    | cons z zs => cases h2
  | cons p more ih =>
    intro zs kvs ks h h2
    cases zs with
    | nil => cases h2
    | cons z zs =>
      injection h2 with e1 e2
      rw [List.foldl_cons, List.foldl_cons, show p.1 = Sum.inl z from e1]
      exact ih (ks_put h) e2
theorem ks_len {kvs : List (Key × V)} {ks : List Int} (h : KsOf kvs ks) : kvs.length = ks.length := by
  have e := congrArg List.length h
  rw [List.length_map, List.length_map] at e
  exact e
/-- {mark: True for mark in t}, t a tuple of ints -/
theorem dc_marks {K : PySem.W.Frag} {a : Addr} {ns : List Int} {i : Nat} {σ : L2.St} {H1 : Hp} {D : Addr} {Qd : Hp → Prop} (hA : SqT K H1 a (ns.map V.int)) (hl : ns.length ≤ 1000) (hD : H1 D = none)
    (hw : ∀ v, wipe ((wipe σ [i]).set i (some v)) [i] = wipe σ [i]) (hi : ∀ v, ((wipe σ [i]).set i (some v))[i]? = some (some v))
    (hd : ∀ (H : Hp) (kvs : List (Key × V)), (∀ b o, H1 b = some o → H b = some o) → H D = some (.dK kvs) → KsOf kvs (addAll [] ns) → kvs.length ≤ 1000 → Qd H) :
    ∃ W : Nat → Nat → Hp → Prop, (∃ m, W 0 m (upd H1 D (.dK []))) ∧ ∀ j m H, W j m H →
      ((Itt K a).stop j H ∧ Qd H) ∨ ((Itt K a).go j H ∧ ∃ Nx : Hp → Prop, (∀ H', Nx H' → ∃ m', m' < m ∧ W (j + 1) m' H') ∧ ∀ x H', (Itt K a).yld j H x H' → gName i x (wipe σ [i]) H' fun σ2 H2 => wipe σ2 [i] = wipe σ [i] ∧ tYes σ2 H2 fun b H3 =>
        if b = true then tVar i σ2 H3 fun y H4 => tC (.bl true) σ2 H4 fun z H5 => ∃ kvs k, y = kV k ∧ H5 D = some (.dK kvs) ∧ kvs.length < sizeLine ∧ Nx (upd H5 D (.dK (putK kvs k z))) else Nx H3) := by
  refine dc_tup (xs := ns.map V.int) (fun j H => Same H1 H ∧ ∃ kvs, H D = some (.dK kvs) ∧ KsOf kvs (addAll [] (ns.take j)) ∧ kvs.length ≤ j) ⟨same_new hD, [], upd_same, rfl, Nat.le_refl _⟩ (fun j H _ p => same_tup p.1 hA) (fun j x H hx p => ?_) (fun H p => ?_)
  · obtain ⟨z, hz, rfl⟩ := map_get hx
    obtain ⟨e, kvs, hk, ks, hlen⟩ := p
    have hj := lt_of_get hz
    refine ⟨hw _, _, hi _, kvs, Sum.inl z, rfl, hk, small1000 (by omega), same_upd e hD, _, upd_same, ?_, ?_⟩
    · rw [take_snoc hz]
      unfold addAll
      rw [List.foldl_append]
      exact ks_put ks
    · have := length_putK kvs (Sum.inl z) (V.bl true)
      omega
  · obtain ⟨e, kvs, hk, ks, hlen⟩ := p
    rw [List.length_map] at ks hlen
    rw [List.take_length] at ks
    exact hd H kvs e hk ks (Nat.le_trans hlen hl)
/-- d.update(d2) -/
def rUpd : V → List V → Hp → VK → Prop := fun x xs H Q => ∃ (d o : Addr) (kvs more : List (Key × V)), x = .ref d ∧ xs = [.ref o] ∧ d ≠ o ∧ H d = some (.dK kvs) ∧ H o = some (.dK more) ∧ kvs.length + more.length ≤ sizeLine ∧ Q .non (upd H d (.dK (mergeK kvs more)))
theorem mt_upd {X : Cx} : MtR X "dict.update" rUpd := by
  intro pins s σ H x xs v us Q I rx rs h
  obtain ⟨d, o, kvs, more, rfl, rfl, hdo, hd, ho, hl, q⟩ := h
  cases rx
  obtain ⟨u, rfl, ru⟩ := rs.one
  cases ru
  obtain ⟨z1, m1, vs, r1, d1⟩ := dk_of I.hok hd
  obtain ⟨z2, m2, ws, r2, d2⟩ := dk_of I.hok ho
  refine call_meetsIn PySem.F.slot_dict_update d1.typeIs PySem.F.entry_dict_update (PySem.F.args_dict_update_2 _ _) (meets_dict_update (mixKind X.prog X.w) d o hdo m2) ⟨vs, ws, d1, d2, ?_, fun h' e1 e2 hs => ?_⟩
  · have a1 := Paired.length r1
    have a2 := Paired.length r2
    omega
  · have lm := length_mergeK more kvs
    exact ⟨.non, _, d_write (t' := s.toks) I (by rw [hd]; exact True.intro) hs (let ⟨q, _, _, hq, _⟩ := e1; ⟨q, hq⟩) (dk_new (by omega) m1 (KV.merge r2 r1) e1), rfl, q⟩
section
variable {P : Program} {w : World} {K : PySem.W.Frag} {mg : Str → Option Value} {base : Heap}
/-- a tuple of rules -/
def RlsAt (K : PySem.W.Frag) (H : Hp) (v : V) (R : List Rl) : Prop := ∃ (a : Addr) (vs : List V), v = .ref a ∧ SqT K H a vs ∧ Paired (RlAt K H) vs R
theorem same_rls {H H' : Hp} {v : V} {R : List Rl} (e : Same H H') (h : RlsAt K H v R) : RlsAt K H' v R := by
  obtain ⟨a, vs, rfl, h1, h2⟩ := h
  exact ⟨a, vs, rfl, same_tup e h1, Paired.mapP h2 fun _ _ => same_rl e⟩
def sp_closure (K : PySem.W.Frag) : Sp := fun vs H Q _ => ∃ (v : V) (a : Addr) (R : List Rl) (m : Int) (ns : List Int), vs = [v, .ref a] ∧ RlsAt K H v R ∧ SqT K H a (ns.map V.int) ∧ ValidR m R ∧ InR m ns ∧ m ≤ 5 ∧ ns.length ≤ 1000 ∧ (∀ r ∈ R, small r) ∧
  ∀ H' p c, Same H H' → SqT K H' p (c.map V.int) → IsCl R ns c → c.length ≤ 1000 → Q (.ref p) H'
abbrev N_closure : List Str := ["rules", "thing", "held", "many", "premise", "conclusion", "mark"]
theorem sc_closure : FnScope N_closure ["rules", "thing"] (defScope s_closure) := ⟨rfl, rfl, rfl, by decide +kernel, rfl, by decide +kernel, by decide +kernel⟩
theorem paired_get {α β : Type} {F : α → β → Prop} : ∀ {xs : List α} {ys : List β} {i : Nat} {x : α}, Paired F xs ys → xs[i]? = some x → ∃ y, ys[i]? = some y ∧ F x y
  | _, _, _, _, .nil, e => by simp at e
  | _, _, 0, _, .cons r _, e => by
    simp at e
    subst e
    exact ⟨_, rfl, r⟩
  | _, _, i + 1, _, .cons _ t, e => by
    obtain ⟨y, h1, h2⟩ := paired_get (i := i) t (by simpa using e)
    exact ⟨y, by simpa using h1, h2⟩
theorem ok_closure (T : TX K mg) : FnR P w K mg base CX0 2 (He.ga K "closure") (sp_closure K) := by
  refine fr0 T.fn_closure sc_closure (fun _ _ _ _ _ _ us hl => match us, hl with | [_, _], _ => rfl) (fun vs H Q E h => ?_) (fun cdv A outer s H vs Q E hr h => ?_)
  · obtain ⟨v, a, R, m, ns, rfl, _⟩ := h
    rfl
  · obtain ⟨v, a, R, m, ns, rfl, ⟨ra, rvs, rfl, hRa, hRs⟩, hA, hR, hN, hm, hl, hsm, q⟩ := h
    have nd := sc_closure.nd
    refine ⟨_, pss_cons (ps_par (i := 2) (j := 3) rfl nd rfl rfl (by decide) rfl rfl (pa_cons (pe_dc (own := [("mark", 6)]) rfl nd (pi_tup (pv 1)) (blkOk_by (N := N_closure) (sc := defScope s_closure) (by decide +kernel)) (fun _ _ _ _ _ => pg_name (i := 6) nd rfl (Or.inl rfl)) (fun _ _ _ _ _ => pts_nil)
          (fun _ _ _ _ _ => pv 6) (fun _ _ _ _ _ => pe_bl)) (pa_cons (pe_un un_neg pe_int) pa_nil)) (by rfl))
      (pss_cons (ps_while PassesOwn.never (pt_cmpR op_ne (pv 3) (pe_callB call_lenD (by rfl) T.free_len bb_len (pa_cons (pv 2) pa_nil)) (nomark _))
        (pss_cons (ps_set (i := 3) nd rfl (Or.inl rfl) (pe_callB call_lenD (by rfl) T.free_len bb_len (pa_cons (pv 2) pa_nil)))
          (pss_one (ps_for PassesOwn.never rfl (pi_tup (pv 0)) (pg_pair (K := K) 4 5 nd)
            (pss_one (ps_if (pt_val (pe_g (ok_is_within T) hr (by rfl) T.glo_is_within (kp_of T.fn_is_within) pass0 (pa_cons (pv 4) (pa_cons (pv 2) pa_nil))))
              (pss_one (ps_expr (pe_bm PySem.F.plainAttrs_dict PySem.F.slot_dict_update PySem.F.type_dict_update mt_upd (pv 2) (pa_cons (pe_dc (own := [("mark", 6)]) rfl nd (pi_tup (pv 5)) (blkOk_by (N := N_closure) (sc := defScope s_closure) (by decide +kernel)) (fun _ _ _ _ _ => pg_name (i := 6) nd rfl (Or.inl rfl)) (fun _ _ _ _ _ => pts_nil)
                (fun _ _ _ _ _ => pv 6) (fun _ _ _ _ _ => pe_bl)) pa_nil)))) pss_nil)))))
        )
      (pss_one (ps_ret (pe_callTy call_tuple_of (by rfl) T.free_tuple bb_tuple (pa_cons (pe_callB (call_sortedDI rfl) (by rfl) T.free_sorted bb_sorted (pa_cons (pv 2) pa_nil)) pa_nil))))), ?_⟩
    refine ⟨_, rfl, a, rfl, ⟨_, hA⟩, fun D hD => dc_marks hA hl hD (fun _ => rfl) (fun _ => rfl) fun H1 kvs e1 hk ks hlen => ?_⟩
    refine ⟨1, rfl, _, _, rfl, ?_⟩
    have i0 := ClInv.start (R := R) hN
    have lenOk : ∀ {c : List Int}, ClInv m R ns c → c.length ≤ 5 := fun {c} i => by
      have q := inR_len i.rg i.nd
      omega
    refine while_by (fun σ H' => ∃ (ks : List Int) (kvs : List (Key × V)) (M : Int) (p4 p5 p6 : Option V), σ = [some (.ref ra), some (.ref a), some (.ref D), some (.int M), p4, p5, p6] ∧ Same H H' ∧ H' D = some (.dK kvs) ∧ KsOf kvs ks ∧ ClInv m R ns ks ∧ (M = (ks.length : Int) → ClosedL R ks))
      (fun σ H' => match H' D with
        | some (.dK kvs) => 2 * (5 - kvs.length) + (if σ[3]? = some (some (.int (kvs.length : Nat))) then 0 else 1)
        | _ => 0) ⟨_, kvs, -1, none, none, none, rfl, e1, hk, ks, i0, fun z => by omega⟩ ?_ ?_
    · rintro σ H' ⟨ks, kvs, M, p4, p5, p6, rfl, e, hk, kk, inv, fin⟩
      have l5 := lenOk inv
      have lk := ks_len kk
      refine ⟨_, rfl, _, rfl, D, kvs, rfl, hk, rfl, _, rfl, ?_⟩
      by_cases hM : M = (kvs.length : Int)
      · have ed : (!decide (V.int M = V.int (kvs.length : Nat))) = false := by rw [hM]; simp
        rw [ed]
        refine iteF ?_
        have hc := fin (by rw [hM, lk])
        refine ⟨_, rfl, D, kvs, ks, rfl, .inl hk, kk, by omega, fun ys p hp hw hpn => ⟨p, _, rfl, .inl ⟨SqL.of upd_same, fun l hl => ?_⟩⟩⟩
        have ep : ∀ x, x ∈ ys ↔ x ∈ ks := fun x => hp.mem_iff
        refine q _ l ys ?_ (SqT.of upd_same) ((inv.done hc).to ep) (by rw [hp.length_eq]; omega)
        exact e.trans ((same_new hpn).trans (same_new hl))
      · have ed : (!decide (V.int M = V.int (kvs.length : Nat))) = true := by
          simp only [Bool.not_eq_true', decide_eq_false_iff_not]
          intro z
          injection z with z
          exact hM z
        rw [ed]
        refine iteT ⟨_, rfl, D, kvs, rfl, hk, ?_⟩
        have tk : ∀ i, ClInv m R ns (passR (R.take i) ks) := fun i => by
          have q := inv
          refine ⟨nodup_passR _ q.nd, passR_inR (hR.take i) q.rg, fun x hx => ?_, fun S h1 h2 => passR_sub (fun r hr => h2 r (List.mem_of_mem_take hr)) (q.least S h1 h2)⟩
          obtain ⟨z, hz⟩ := pre_passR (R.take i) ks
          rw [hz]
          exact List.mem_append_left _ (q.sub x hx)
        have hRa' := same_tup e hRa
        refine ⟨_, rfl, ra, rfl, ⟨_, hRa'⟩, for_it (walk_tup (xs := rvs)) (fun i σ H'' => ∃ (kvs' : List (Key × V)) (p4 p5 p6 : Option V), σ = [some (.ref ra), some (.ref a), some (.ref D), some (.int (kvs.length : Nat)), p4, p5, p6] ∧ Same H H'' ∧ H'' D = some (.dK kvs') ∧ KsOf kvs' (passR (R.take i) ks))
          ⟨kvs, p4, p5, p6, rfl, e, hk, kk⟩ (fun i σ H'' _ p => ?_) (fun i x σ H2 H3 hi p y => ?_) (fun σ H2 p => ?_)⟩
        · obtain ⟨_, _, _, _, _, e2, _⟩ := p
          exact same_tup e2 hRa
        · obtain ⟨rfl, hx⟩ := y
          obtain ⟨kvs', q4, q5, q6, rfl, e2, hk2, kk2⟩ := p
          obtain ⟨r, hr1, hr2⟩ := paired_get hRs hx
          obtain ⟨ta, tp, tq, rfl, t1, t2, t3⟩ := same_rl e2 hr2
          have sm := hsm r (List.mem_of_getElem? hr1)
          have l5' := lenOk (tk i)
          have lk' := ks_len kk2
          refine ⟨ta, _, rfl, t1, rfl, _, _, rfl, _, _, rfl, rfl, ?_⟩
          refine ⟨_, rfl, _, rfl, tp, D, r.1, passR (R.take i) ks, rfl, t2, .inr ⟨kvs', hk2, kk2⟩, sm.1, fun H4 e4 => ⟨_, rfl, ?_⟩⟩
          have hk4 := e4 _ _ hk2
          refine ite2 (fun hw => ?_) (fun hw => ?_)
          · refine ⟨_, rfl, .inr (.inr (.inl ⟨rfl, .inl ⟨_, hk4⟩⟩)), _, rfl, tq, rfl, ⟨_, same_tup e4 t3⟩, fun D2 hD2 => dc_marks (same_tup e4 t3) sm.2 hD2 (fun _ => rfl) (fun _ => rfl) fun H5 kvs5 e5 hk5 kk5 hl5 => ?_⟩
            have hkD := e5 _ _ hk4
            have ne : D ≠ D2 := ne_of_none hk4 hD2
            refine ⟨D, D2, kvs', kvs5, rfl, rfl, ne, hkD, hk5, ?_, _, some (.ref tp), some (.ref tq), q6, rfl, ?_, upd_same, ?_⟩
            · have : sizeLine = 16777216 := sizeLine_eq
              omega
            · intro b o hb
              have nb : b ≠ D := fun z => by
                rw [z, hD] at hb
                cases hb
              rw [upd_ne nb]
              exact e5 _ _ (e4 _ _ (e2 _ _ hb))
            · rw [pass_snoc hr1]
              unfold stepR
              rw [if_pos hw]
              exact ks_merge kk2 kk5
          · refine ⟨kvs', some (.ref tp), some (.ref tq), q6, rfl, e2.trans e4, hk4, ?_⟩
            rw [pass_snoc hr1]
            unfold stepR
            rw [if_neg hw]
            exact kk2
        · obtain ⟨kvs', q4, q5, q6, rfl, e2, hk2, kk2⟩ := p
          have er : R.take rvs.length = R := take_full (Paired.length hRs)
          rw [er] at kk2
          have i2 : ClInv m R ns (passR R ks) := inv.pass hR
          have l5' := lenOk i2
          have lk' := ks_len kk2
          obtain ⟨z, hz⟩ := pre_passR R ks
          have hlz : (passR R ks).length = ks.length + z.length := by rw [hz, List.length_append]
          refine ⟨⟨passR R ks, kvs', _, q4, q5, q6, rfl, e2, hk2, kk2, i2, fun hh => ?_⟩, ?_⟩
          · have hl2 : (passR R ks).length = ks.length := by omega
            obtain ⟨c1, c2⟩ := passR_fix hl2
            rw [c2]
            exact c1
          · show (match H2 D with
              | some (.dK kvs) => 2 * (5 - kvs.length) + (if _ then 0 else 1)
              | _ => 0) < (match H' D with
              | some (.dK kvs) => 2 * (5 - kvs.length) + (if _ then 0 else 1)
              | _ => 0)
            rw [hk2, hk]
            show 2 * (5 - kvs'.length) + (if some (some (V.int (kvs.length : Nat))) = some (some (V.int (kvs'.length : Nat))) then 0 else 1) < 2 * (5 - kvs.length) + (if some (some (V.int M)) = some (some (V.int (kvs.length : Nat))) then 0 else 1)
            have n1 : ¬ some (some (V.int M)) = some (some (V.int (kvs.length : Nat))) := fun z => hM (by
              injection z with z
              injection z with z
              injection z with z)
            rw [if_neg n1]
            by_cases hq : kvs'.length = kvs.length
            · rw [if_pos (by rw [hq])]
              omega
            · split <;> omega
    · rintro σ H' Q1 Q2 hm ⟨v1, h1, v2, h2, d, kvs, h3, h4, h5, k, h6, h7⟩
      exact ⟨v1, h1, v2, h2, d, kvs, h3, h4, h5, k, h6, hm _ _ h7⟩
end
end K47
set_option maxHeartbeats 4000000
/-! ### books -/
namespace K47
open PySem PySem.Spec PyProof.Rows L2
/-! #### instances with slots: what tells two of them apart -/
def someTok : Tok := default
def mkVal : V → Value
  | .non => .none
  | .bl b => .bool b
  | .int i => .int i someTok
  | .str x => .str x someTok
  | .byt b => .bytes b someTok
  | .flt b => .float b someTok
  | .ref a => .ref a
  | .ty n => .type n
theorem mkVal_rel : ∀ v : V, RelV v (mkVal v)
  | .non => rfl
  | .bl _ => rfl
  | .int _ => ⟨_, rfl⟩
  | .str _ => ⟨_, rfl⟩
  | .byt _ => ⟨_, rfl⟩
  | .flt _ => ⟨_, rfl⟩
  | .ref _ => rfl
  | .ty _ => rfl
/-- a heap in which one object stands -/
def oneHeap (a : Addr) (o : Obj) : Heap := ⟨Array.replicate (a + 1) o, {}⟩
theorem oneHeap_get (a : Addr) (o : Obj) (ho : o.data ≠ .freed) : (oneHeap a o).get? a = some o := by
  obtain ⟨c, d, dt, sl⟩ := o
  unfold Heap.get? oneHeap
  simp only [Array.getElem?_replicate, Nat.lt_succ_self, if_true]
  cases dt <;> first | rfl | exact absurd rfl ho
theorem inst_live (C dx : Addr) (sl : Array (Option Value)) : ({ PySem.W.instObj C dx with slots := sl } : Obj).data ≠ .freed := by
  show (Data.plain : Data) ≠ .freed
  intro z
  cases z
theorem slO_inj {a C dx C' dx' : Addr} {vs vs' : List (Option V)} (e : SlX.SlO a C dx vs = SlX.SlO a C' dx' vs') : C = C' := by
  unfold SlX.SlO at e
  injection e with e
  have sl : SlX.SlR vs (vs.map (fun o => o.map mkVal)).toArray := fun i v hv => by
    refine ⟨mkVal v, ?_, mkVal_rel v⟩
    rw [List.getElem?_toArray, List.getElem?_map, hv]
    rfl
  have q := congrFun e (oneHeap a { PySem.W.instObj C dx with slots := (vs.map (fun o => o.map mkVal)).toArray })
  have q1 : ∃ sl, (oneHeap a { PySem.W.instObj C dx with slots := (vs.map (fun o => o.map mkVal)).toArray }).get? a = some { PySem.W.instObj C' dx' with slots := sl } ∧ SlX.SlR vs' sl := by
    rw [← q]
    exact ⟨_, oneHeap_get a _ (inst_live _ _ _), sl⟩
  obtain ⟨sl', e1, _⟩ := q1
  rw [oneHeap_get a _ (inst_live _ _ _)] at e1
  have e2 := congrArg Obj.cls (Option.some.inj e1)
  injection e2
theorem slO_code {a C dx c : Addr} {vs : List (Option V)} {nm : Str} (e : SlX.SlO a C dx vs = LamX.CodeO c nm) : a ≠ c := by
  rintro rfl
  unfold SlX.SlO LamX.CodeO at e
  injection e with e
  have sl : SlX.SlR vs (vs.map (fun o => o.map mkVal)).toArray := fun i v hv => by
    refine ⟨mkVal v, ?_, mkVal_rel v⟩
    rw [List.getElem?_toArray, List.getElem?_map, hv]
    rfl
  have q := congrFun e (oneHeap a { PySem.W.instObj C dx with slots := (vs.map (fun o => o.map mkVal)).toArray })
  have q1 : ∃ (oc : Obj) (vs1 : Array Value) (t : Tok), (oneHeap a { PySem.W.instObj C dx with slots := (vs.map (fun o => o.map mkVal)).toArray }).get? a = some oc ∧ oc.data = .fields vs1 ∧ vs1[1]? = some (.str nm t) := by
    rw [← q]
    exact ⟨_, oneHeap_get a _ (inst_live _ _ _), sl⟩
  obtain ⟨oc, vs1, t, e1, e2, _⟩ := q1
  rw [oneHeap_get a _ (inst_live _ _ _)] at e1
  rw [← Option.some.inj e1] at e2
  cases e2

/-! #### frames -/
/-- all but M stands -/
def But (M : List Addr) (H H' : Hp) : Prop := ∀ b o, H b = some o → b ∉ M → H' b = some o
theorem But.refl (M : List Addr) (H : Hp) : But M H H := fun _ _ h _ => h
theorem But.trans {M : List Addr} {H H1 H2 : Hp} (a : But M H H1) (b : But M H1 H2) : But M H H2 := fun c o h n => b c o (a c o h n) n
theorem But.mono {M M' : List Addr} {H H' : Hp} (a : But M H H') (h : ∀ x ∈ M, x ∈ M') : But M' H H' := fun c o e n => a c o e fun z => n (h c z)
theorem But.of {M : List Addr} {H H' : Hp} (e : Same H H') : But M H H' := fun b o h _ => e b o h
theorem But.updM {M : List Addr} {H H' : Hp} {p : Addr} {o : HO} (a : But M H H') (hp : p ∈ M) : But M H (upd H' p o) := fun b u e n => by
  rw [upd_ne (fun z => n (by rw [z]; exact hp))]
  exact a b u e n
theorem But.newM {M : List Addr} {H H' : Hp} {p : Addr} {o : HO} (a : But M H H') (hp : H' p = none) : But M H (upd H' p o) := fun b u e n => by
  have q := a b u e n
  rw [upd_ne (ne_of_none q hp)]
  exact q
theorem But.slM {M : List Addr} {H H' : Hp} {a C dx : Addr} {vs : List (Option V)} (k : But M H H') (ha : a ∈ M) (hd : dx ∈ M ∨ H' dx = some (.xd [])) : But M H (SlX.slH H' a C dx vs) := fun b u e n => by
  have q := k b u e n
  have nb : b ≠ a := fun z => n (by rw [z]; exact ha)
  by_cases h : b = dx
  · rcases hd with hd | hd
    · exact absurd hd (by rw [← h]; exact n)
    · unfold SlX.slH
      rw [h] at q nb
      rw [h, upd_ne nb, upd_same]
      rw [hd] at q
      exact q
  · rw [SlX.slH_ne nb h]
    exact q
/-- tuples stand -/
structure TK (H H' : Hp) : Prop where
  t : ∀ b xs, H b = some (.tup xs) → H' b = some (.tup xs)
  f : ∀ b o u, H b = some (.frz o u) → H' b = some (.frz o u)
theorem TK.refl (H : Hp) : TK H H := ⟨fun _ _ h => h, fun _ _ _ h => h⟩
theorem TK.trans {H H1 H2 : Hp} (a : TK H H1) (b : TK H1 H2) : TK H H2 := ⟨fun c xs h => b.t c xs (a.t c xs h), fun c o u h => b.f c o u (a.f c o u h)⟩
theorem TK.same {H H' : Hp} (e : Same H H') : TK H H' := ⟨fun b _ h => e b _ h, fun b _ _ h => e b _ h⟩
/-- what is no tuple and not known -/
def Soft (o : Option HO) : Prop := (∀ xs, o ≠ some (.tup xs)) ∧ ∀ ob u, o ≠ some (.frz ob u)
theorem TK.but {M : List Addr} {H H' : Hp} (e : But M H H') (h : ∀ m ∈ M, Soft (H m)) : TK H H' :=
  ⟨fun b xs q => e b _ q fun z => (h b z).1 xs q, fun b o u q => e b _ q fun z => (h b z).2 o u q⟩
theorem soft_lst {H : Hp} {a : Addr} {xs : List V} (h : H a = some (.lst xs)) : Soft (H a) := by
  rw [h]
  exact ⟨fun _ z => (by cases z), fun _ _ z => (by cases z)⟩
theorem soft_none {H : Hp} {a : Addr} (h : H a = none) : Soft (H a) := by
  rw [h]
  exact ⟨fun _ z => (by cases z), fun _ _ z => (by cases z)⟩
theorem soft_slo {H : Hp} {a b C dx : Addr} {vs : List (Option V)} (h : H a = some (SlX.SlO b C dx vs)) : Soft (H a) := by
  rw [h]
  exact ⟨fun _ z => (by unfold SlX.SlO at z; cases z), fun _ _ z => (by unfold SlX.SlO at z; cases z)⟩
theorem soft_ins {H : Hp} {a C dx : Addr} {fs : List (Str × V)} (h : H a = some (.ins C dx fs)) : Soft (H a) := by
  rw [h]
  exact ⟨fun _ z => (by cases z), fun _ _ z => (by cases z)⟩
theorem soft_own {H : Hp} {a x : Addr} (h : H a = some (.own x)) : Soft (H a) := by
  rw [h]
  exact ⟨fun _ z => (by cases z), fun _ _ z => (by cases z)⟩
theorem soft_xd {H : Hp} {a : Addr} {fs : List (Str × V)} (h : H a = some (.xd fs)) : Soft (H a) := by
  rw [h]
  exact ⟨fun _ z => (by cases z), fun _ _ z => (by cases z)⟩
section
variable {K : PySem.W.Frag} {H H' : Hp}
theorem TK.tup {a : Addr} {xs : List V} (e : TK H H') (h : SqT K H a xs) : SqT K H' a xs := by
  rcases h with (h | ⟨o, h⟩) | h
  · exact .inl (.inl (e.t _ _ h))
  · exact .inl (.inr ⟨o, e.f _ _ _ h⟩)
  · exact .inr h
theorem TK.rl {v : V} {r : Rl} (e : TK H H') (h : RlAt K H v r) : RlAt K H' v r := by
  obtain ⟨a, p, q, rfl, h1, h2, h3⟩ := h
  exact ⟨a, p, q, rfl, e.tup h1, e.tup h2, e.tup h3⟩
theorem TK.rls {v : V} {R : List Rl} (e : TK H H') (h : RlsAt K H v R) : RlsAt K H' v R := by
  obtain ⟨a, vs, rfl, h1, h2⟩ := h
  exact ⟨a, vs, rfl, e.tup h1, Paired.mapP h2 fun _ _ => e.rl⟩
end
/-! #### data -/
def rlD (r : Rl) : PyData := .tuple [.tuple (r.1.map .int), .tuple (r.2.map .int)]
def rlsD (R : List Rl) : PyData := .tuple (R.map rlD)
section
variable {K : PySem.W.Frag} {H : Hp}
theorem dpAll_ints : ∀ ns : List Int, DpAll K H (ns.map V.int) (ns.map .int)
  | [] => .nil
  | n :: ns => .cons (.int n) (dpAll_ints ns)
theorem dp_ints {a : Addr} {ns : List Int} (h : SqT K H a (ns.map V.int)) : Dp K H (.ref a) (.tuple (ns.map .int)) := .tup h (dpAll_ints ns)
theorem dp_rl {v : V} {r : Rl} (h : RlAt K H v r) : Dp K H v (rlD r) := by
  obtain ⟨a, p, q, rfl, h1, h2, h3⟩ := h
  exact .tup h1 (.cons (dp_ints h2) (.cons (dp_ints h3) .nil))
theorem dpAll_rl : ∀ {vs : List V} {R : List Rl}, Paired (RlAt K H) vs R → DpAll K H vs (R.map rlD)
  | _, _, .nil => .nil
  | _, _, .cons r t => .cons (dp_rl r) (dpAll_rl t)
theorem dp_rls {v : V} {R : List Rl} (h : RlsAt K H v R) : Dp K H v (rlsD R) := by
  obtain ⟨a, vs, rfl, h1, h2⟩ := h
  exact .tup h1 (dpAll_rl h2)
end
theorem lay_ints : ∀ ns : List Int, PyData.canLayAll0 (ns.map .int) = true
  | [] => rfl
  | n :: ns => by
    rw [List.map_cons, PyData.canLayAll0, lay_ints ns]
    rfl
theorem dep_ints : ∀ ns : List Int, PyData.depthAll (ns.map .int) = 0
  | [] => rfl
  | n :: ns => by
    rw [List.map_cons, PyData.depthAll, dep_ints ns]
    rfl
theorem lay_rl (r : Rl) : (rlD r).canLay0 = true := by
  unfold rlD
  simp [PyData.canLay0, PyData.canLayAll0, lay_ints]
theorem dep_rl (r : Rl) : (rlD r).depth ≤ 2 := by
  unfold rlD
  simp [PyData.depth, PyData.depthAll, dep_ints]
theorem lay_rls : ∀ R : List Rl, PyData.canLayAll0 (R.map rlD) = true
  | [] => rfl
  | r :: R => by
    rw [List.map_cons, PyData.canLayAll0, lay_rl, lay_rls R]
    rfl
theorem dep_rls : ∀ R : List Rl, PyData.depthAll (R.map rlD) ≤ 2
  | [] => Nat.zero_le _
  | r :: R => by
    rw [List.map_cons, PyData.depthAll]
    exact Nat.max_le.mpr ⟨dep_rl r, dep_rls R⟩
end K47
set_option maxHeartbeats 4000000
/-! ### the class Book -/
namespace K47
open PySem PySem.Spec PyProof.Rows L2
/-- a book of m marks with the rules R -/
def BookAt (K : PySem.W.Frag) (H : Hp) (b : Addr) (m : Int) (R : List Rl) : Prop := ∃ (dx : Addr) (rv : V), H b = some (SlX.SlO b (cB K) dx [some (.int m), some rv]) ∧ H dx = some (.xd []) ∧ RlsAt K H rv R
theorem same_book {K : PySem.W.Frag} {H H' : Hp} {b : Addr} {m : Int} {R : List Rl} (e : Same H H') (h : BookAt K H b m R) : BookAt K H' b m R := by
  obtain ⟨dx, rv, h1, h2, h3⟩ := h
  exact ⟨dx, rv, e _ _ h1, e _ _ h2, same_rls e h3⟩
/-- what a book over m marks may be -/
structure OkB (m : Int) (R : List Rl) : Prop where
  lo : 1 ≤ m
  hi : m ≤ 5
  rs : ValidR m R
  len : R.length ≤ 16
theorem isSet_len {m : Int} {ns : List Int} (hm : m ≤ 5) (h : isSet m ns = true) : ns.length ≤ 5 := by
  have q := isSet_inR h
  unfold isSet at h
  rw [Bool.and_eq_true] at h
  have l := inR_len q (pw_nodup (asc_pw h.2))
  omega
theorem isRule_small {m : Int} {r : Rl} (hm : m ≤ 5) (h : isRule m r = true) : small r := by
  unfold isRule at h
  rw [Bool.and_eq_true] at h
  have a := isSet_len hm h.1
  have b := isSet_len hm h.2
  exact ⟨by omega, by omega⟩
theorem OkB.small {m : Int} {R : List Rl} (h : OkB m R) : ∀ r ∈ R, small r := fun r hr => isRule_small h.hi (h.rs r hr)
section
variable {P : Program} {w : World} {K : PySem.W.Frag} {mg : Str → Option Value} {base : Heap}
theorem BookAt.slt {H : Hp} {b : Addr} {m : Int} {R : List Rl} (h : BookAt K H b m R) : ∃ dx rv, SlX.Slt H b (cB K) dx [some (.int m), some rv] ∧ RlsAt K H rv R := by
  obtain ⟨dx, rv, h1, h2, h3⟩ := h
  exact ⟨dx, rv, .inr ⟨h1, h2⟩, h3⟩
/-! #### __init__ -/
def sp_Book_init (K : PySem.W.Frag) : Sp := fun vs H Q _ => ∃ (x dx : Addr) (m : Int) (rv : V) (R : List Rl), vs = [.ref x, .int m, rv] ∧ H x = some (.ins (cB K) dx []) ∧ H dx = some (.own x) ∧ RlsAt K H rv R ∧ OkB m R ∧
  ∀ H', But [x, dx] H H' → BookAt K H' x m R → Q .non H'
abbrev N_Book_init : List Str := ["self", "marks", "rules", "one"]
theorem sc_Book_init : FnScope N_Book_init ["self", "marks", "rules"] (defScope s_Book_init) := ⟨rfl, rfl, rfl, by decide +kernel, rfl, by decide +kernel, by decide +kernel⟩
/-- all items of a list of rules are rules -/
theorem all_rules {m : Int} {R : List Rl} (h : ValidR m R) : (R.map (isRule m)).all id = true := by
  rw [List.all_map, List.all_eq_true]
  exact h
theorem ok_Book_init (T : TX K mg) : FnR P w K mg base CX0 4 (He.ma K (cB K) "__init__") (sp_Book_init K) := by
  refine fr0 T.fn_Book_init sc_Book_init (fun _ _ _ _ _ _ us hl => match us, hl with | [_, _, _], _ => rfl) (fun vs H Q E h => ?_) (fun cdv A outer s H vs Q E hr h => ?_)
  · obtain ⟨x, dx, m, rv, R, rfl, _⟩ := h
    rfl
  · obtain ⟨x, dx, m, rv, R, rfl, hx, hdx, hR, ok, q⟩ := h
    have nd := sc_Book_init.nd
    obtain ⟨t1, g1⟩ := T.int_MOST_MARKS_5
    obtain ⟨t2, g2⟩ := T.int_MOST_RULES_books_16
    have ne : dx ≠ x := ne_of hdx hx (by intro z; cases z)
    refine ⟨_, pss_cons (ps_if (pt_not (pt_val (pe_g (ok_is_integer T) hr (by rfl) T.glo_is_integer (kp_of T.fn_is_integer) pass0 (pa_cons (pv 1) (pa_cons pe_int (pa_cons (pe_glob (v := .int 5) rfl g1 ⟨_, rfl⟩) pa_nil)))))) pss_never pss_nil)
      (pss_cons (ps_if (PW.pt (pw_or (pt_not (pt_val (pe_callB call_isi (by rfl) T.free_isinstance bb_isinstance (pa_cons (pv 2) (pa_cons (pe_bltn (v := .ty "tuple") (by rfl) T.free_tuple bb_tuple rfl) pa_nil)))))
          (pw_or (pt_cmpR op_gt (pe_callB call_len_seq (by rfl) T.free_len bb_len (pa_cons (pv 2) pa_nil)) (pe_glob (v := .int 16) rfl g2 ⟨_, rfl⟩) (nomark _))
          (pw_or1 (pt_not (pt_val (pe_callB (cr_all rfl) (by rfl) T.free_all bb_all (pa_cons (pe_lc (own := [("one", 3)]) rfl nd (pi_tup (pv 2)) (blkOk_by (N := N_Book_init) (sc := defScope s_Book_init) (by decide +kernel)) (fun _ _ _ _ _ => pg_name (i := 3) nd rfl (Or.inl rfl)) (fun _ _ _ _ _ => pts_nil)
            (fun _ _ _ _ _ => pe_g (ok_is_rule T) hr (by rfl) T.glo_is_rule (kp_of T.fn_is_rule) pass0 (pa_cons (pv 1) (pa_cons (pv 3) pa_nil)))) pa_nil)))))))) pss_never pss_nil)
      (pss_cons (SlX.ps_sl (pv 0) (pv 1)) (pss_one (SlX.ps_sl (pv 0) (pv 2))))), ?_⟩
    obtain ⟨ra, rvs, rfl, hRa, hRs⟩ := hR
    have lr : rvs.length = R.length := Paired.length hRs
    have lR := ok.len
    have m1 : isIn (.int m) 1 5 = true := by
      rw [isIn_int, decide_eq_true ok.lo, decide_eq_true ok.hi]
      rfl
    refine ⟨_, rfl, _, _, _, rfl, rfl, _, rfl, ?_⟩
    rw [m1]
    refine iteF ⟨_, rfl, .ref ra, .ty "tuple", _, _, true, rfl, .ty "tuple", tyx_tup hRa, kit_ty kt_tup, true, rfl, ?_⟩
    refine iteF ⟨_, rfl, ra, _, rfl, .inr hRa, _, _, rfl, rfl, _, rfl, ?_⟩
    rw [decide_eq_false (by omega : ¬ (16 : Int) < (rvs.length : Int))]
    refine iteF ⟨_, rfl, ra, rfl, ⟨_, hRa⟩, fun D hD => lc_same (walk_tup (xs := rvs)) (fun i => ((R.map (isRule m)).map V.bl).take i) rfl hD (fun H1 e => same_tup e hRa) (fun i x H1 H2 hi z y => ?_) (fun H1 e hD1 => ?_)⟩
    · obtain ⟨rfl, hx⟩ := y
      obtain ⟨r, hr1, hr2⟩ := paired_get hRs hx
      refine ⟨rfl, _, rfl, _, rfl, m, _, rfl, .inl ⟨r, same_rl z.1 hr2, isRule_small ok.hi (ok.rs r (List.mem_of_getElem? hr1)), fun H3 e3 => ?_⟩⟩
      exact lcn_yes hD (take_lt (n := R.length) (by simp) (by omega)) (lcn_same z e3) (take_snoc (get_map (get_map hr1)))
    · rw [take_full (by simp [lr])] at hD1
      refine ⟨D, R.map (isRule m), rfl, SqL.of hD1, _, rfl, ?_⟩
      rw [all_rules ok.rs]
      refine iteF ?_
      have h1 : SlX.Slt H1 x (cB K) dx [] := .inl ⟨e _ _ hx, rfl⟩
      refine ⟨_, rfl, _, rfl, x, cB K, dx, _, _, 0, rfl, h1, T.scls_Book, T.sl_Book_marks, ?_⟩
      refine ⟨_, rfl, _, rfl, x, cB K, dx, _, _, 1, rfl, SlX.slH_slt ne, T.scls_Book, T.sl_Book_rules, ?_⟩
      rw [SlX.slH_twice ne]
      have k : But [x, dx] H (SlX.slH H1 x (cB K) dx (SlX.putS 1 (.ref ra) (SlX.putS 0 (.int m) []))) := But.slM (But.of e) (by simp) (.inl (by simp))
      have tk : TK H (SlX.slH H1 x (cB K) dx (SlX.putS 1 (.ref ra) (SlX.putS 0 (.int m) []))) := TK.but k fun b hb => by
        rcases List.mem_cons.mp hb with rfl | hb
        · exact soft_ins hx
        · rw [List.mem_singleton.mp hb]
          exact soft_own hdx
      refine q _ k ⟨dx, .ref ra, ?_, ?_, tk.rls ⟨ra, rvs, rfl, hRa, hRs⟩⟩
      · unfold SlX.slH
        rw [upd_same]
        rfl
      · unfold SlX.slH
        rw [upd_ne ne, upd_same]
end
end K47
set_option maxHeartbeats 4000000
/-! ### len(o), o == p, o != p by own methods -/
namespace K47
section
open PySem PySem.W PySem.Calls PyProof.Rows Builtin
variable {prog : Program} {w : World} {A : Around} {E : Value → Shared → Prop} {s : Shared} {K : PySem.W.Frag} {x y C L f : Addr} {h₀ : Heap} {m : Str → Option Value} {ox od : Obj}
theorem ifBound_B {M : Model} {name : Str} {id : String} {args : List Value} {Q : Option Value → Shared → Prop} (X : K.In s.heap) (I : InstAt s.heap x ox C (some od)) (hs : findIn K (.ref C) name = some (some (.builtin id)))
    (hb : bindSpecial (.builtin id) (.ref x) = pure (.builtin id, [.ref x])) (h : wpAny M A (call (.builtin id) (.ref x :: args)) (fun v => Q (some v)) E s) : wpAny M A (callSpecialIfBound? (.ref x) name args) Q E s := by
  simp only [callSpecialIfBound?, bindSpecialIfBound?]
  refine wpAny_holding (wpAny_bind (wpAny_bind (wpAny_bind (I.type.here ((looks_findIn X hs).here ?_)))))
  refine wpAny_bind (wpAny_askSetting (wpAny_ite ?_))
  have fin : wpAny M A (call (.builtin id) ([.ref x] ++ args) >>= fun v => pure (some v)) Q E s := wpAny_bind (wpAny_mono h (fun v s' h' => wpAny_pure h') fun _ _ h' => h')
  simp only [hb]
  split
  · exact wpAny_bind (wpAny_pure (wpAny_pure (by exact fin)))
  · exact wpAny_tryCatch (wpAny_bind (wpAny_pure (wpAny_pure (by exact fin))))
theorem ne_own {Q : Value → Shared → Prop} (hu : A.units + 1 < cLine) (FF : Fr h₀ L s.heap m) (X₀ : K.In h₀) (I : InstAt s.heap x ox C (some od)) (hy : Looks (model prog w) s.heap (typeOf (.ref y)) (.ref C))
    (hn : findIn K (.ref C) "__ne__" = some (some (.builtin "object.__ne__"))) (he : findIn K (.ref C) "__eq__" = some (some (.ref f))) (hf : isFn K (.ref f) = true) (hm : mroIn K C (.type "object") = some true)
    (h : wpAny (model prog w) A.in1 (call (.ref f) [.ref x, .ref y]) (fun v s' => ∃ b, v = .bool b ∧ Q (.bool (!b)) s') E s) : wpAny (model prog w) A (richCompare .NotEq (.ref x) (.ref y)) Q E s := by
  have X := X₀.keeps FF.keep
  have sub : Looks (model prog w) s.heap (isInstance (.ref x) (.type "object")) true := I.type.andThen (looks_mroIn X hm)
  have ent : wpAny (model prog w) A.in1 (Builtin.«object.__ne__» ⟨[.ref x, .ref y], []⟩) (fun fin s' => ∃ v, fin = .done (.ret v) ∧ (∃ u, v = .bool u ∧ Q v s')) E s := by
    unfold Builtin.«object.__ne__»
    refine wpAny_bind (m := slotArgs "__ne__" 1 _) (wpAny_pure ?_)
    refine wpAny_bind (wpAny_cRoomFor hu ?_)
    refine wpAny_bind (m := callSpecialIfBound? (.ref x) (Str.ofString "__eq__") [.ref y]) (ifBound_K X I he hf (wpAny_mono h (fun r s' hr => ?_) fun _ _ e => e))
    obtain ⟨b, rfl, hq⟩ := hr
    exact wpAny_bind (wpAny_truthy_bool (wpAny_pure ⟨_, rfl, _, rfl, hq⟩))
  have one : wpAny (model prog w) A (tryCompare (.ref x) (cmpInfo .NotEq).2.1 (.ref y)) (fun r s' => ∃ v, r = some v ∧ Q v s') E s := by
    unfold tryCompare
    refine wpAny_bind (ifBound_B X I hn (F.cmp_object.ne.bind _) (wpAny_call (codeAny_call_builtin F.cmp_object.ne.plain F.cmpEntry_ne (@check_slot (model prog w) _ _ s "object.__ne__" "object" "__ne__" (.ref x) [.ref y] [] _ F.cmpKind_ne F.cmpSplit_ne sub (F.cmpArgs_ne _ _) (wpAny_mono ent (fun fin s' hv => ?_) fun _ _ e => e)))))
    obtain ⟨v, rfl, u, rfl, hq⟩ := hv
    exact wpAny_pure ⟨_, rfl, hq⟩
  unfold richCompare
  simp only [oneThing_ref]
  refine wpAny_holding (wpAny_bind (wpAny_cRoomFor (Nat.lt_of_succ_lt hu) ?_))
  refine wpAny_bind (I.type.here (wpAny_bind (hy.here ?_)))
  rw [show (Value.ref C != Value.ref C) = false from by simp]
  simp only [Bool.false_eq_true, if_false]
  refine wpAny_bind (wpAny_pure ?_)
  simp only [Bool.false_eq_true, if_false]
  refine wpAny_bind (wpAny_mono one (fun r s' z => ?_) fun _ _ e => e)
  obtain ⟨v, rfl, hq⟩ := z
  exact wpAny_pure hq
end
end K47
namespace K47
open PySem PySem.Spec PyProof.Rows L2
section
variable {X : Cx} {n : Nat} {g C : Addr} {sp : Sp} {E : XK} {CX : CXT}
/-- x != y, both instances of the class at C whose __eq__ is at g -/
def rNeOwn (C : Addr) (sp : Sp) (E : XK) : R2 := fun x y H Q => ∃ a dx vs b dy ws, x = .ref a ∧ y = .ref b ∧ SlX.Slt H a C dx vs ∧ SlX.Slt H b C dy ws ∧ sp [x, y] H (fun z H' => ∃ t, z = .bl t ∧ Q (.bl (!t)) H') E
theorem op_neOwn (hn : PySem.W.findIn X.K (.ref C) "__ne__" = some (some (.builtin "object.__ne__"))) (he : PySem.W.findIn X.K (.ref C) "__eq__" = some (some (.ref g))) (hf : PySem.W.isFn X.K (.ref g) = true) (hm : PySem.W.mroIn X.K C (.type "object") = some true)
    (F : FnR X.prog X.w X.K X.mg X.base CX n g sp) (hr : Room (n + 1) X.A) (hx : Passes CX X E) : OpR X (compareOp .NotEq) (rNeOwn C sp E) := by
  intro pins s σ H x y v u Q I rx ry h
  obtain ⟨a, dx, vs, b, dy, ws, rfl, rfl, ha, hb, q⟩ := h
  cases (show v = Value.ref a from rx)
  cases (show u = Value.ref b from ry)
  obtain ⟨sl, od, _, J, _⟩ := SlX.slt_inst I ha
  obtain ⟨sl', od', _, J', _⟩ := SlX.slt_inst I hb
  obtain ⟨m, hF⟩ := I.fr
  have hr2 : Room n X.A.in1 := hr.in1
  show wpAny _ _ (richCompare .NotEq (.ref a) (.ref b)) _ _ _
  refine ne_own (hu_of hr) hF I.ok.mod.kin J J'.type hn he hf hm (wpAny_mono (wpAny_call (SlX.run_at (us := [.ref a, .ref b]) (ws := [.ref a, .ref b]) F hr2 I.env0.in1 hx I (.cons rfl (.cons rfl .nil)) q)) (fun w s' z => ?_) fun _ _ x => x)
  obtain ⟨z', H', I', rz, t, ez, qz⟩ := z
  subst ez
  cases (show w = Value.bool t from rz)
  exact ⟨t, rfl, .bl (!t), H', I', rfl, qz⟩
/-- len(x), x an instance of the class at C whose __len__ is at g -/
def rLenOwn (C : Addr) (sp : Sp) (E : XK) : List V → Hp → VK → Prop := fun xs H Q => ∃ a dx vs, xs = [V.ref a] ∧ SlX.Slt H a C dx vs ∧ sp [.ref a] H (fun z H' => ∃ i : Int, z = .int i ∧ 0 ≤ i ∧ i < 2 ^ 63 ∧ Q z H') E
theorem call_lenOwn (hs : PySem.W.findIn X.K (.ref C) "__len__" = some (some (.ref g))) (hf : PySem.W.isFn X.K (.ref g) = true) (F : FnR X.prog X.w X.K X.mg X.base CX n g sp) (hr : Room (n + 1) X.A) (hx : Passes CX X E) : CallR X (.builtin "len") (rLenOwn C sp E) := by
  intro pins s σ H xs us Q I r h
  obtain ⟨a, dx, vs, rfl, hsl, q⟩ := h
  obtain ⟨u, rfl, ru⟩ := r.one
  cases (show u = Value.ref a from ru)
  obtain ⟨sl, od, _, J, _⟩ := SlX.slt_inst I hsl
  obtain ⟨m, hF⟩ := I.fr
  refine PySem.W.len_K hF I.ok.mod.kin J hs hf (wpAny_mono (wpAny_call (SlX.run_at (us := [.ref a]) (ws := [.ref a]) F (show Room n X.A.in1 from hr.in1) I.env0.in1 hx I (.cons rfl .nil) q)) (fun w s' z => ?_) fun _ _ x => x)
  obtain ⟨z', H', I', rz, i, ei, i1, i2, qz⟩ := z
  subst ei
  obtain ⟨t, e⟩ := (show ∃ t, w = Value.int i t from rz)
  cases e
  exact ⟨⟨i1, i2⟩, .int i, H', I'.tok _, ⟨_, rfl⟩, qz⟩
end
end K47
set_option maxHeartbeats 4000000
/-! ### what a desk is; frames -/
namespace K47
open PySem PySem.Spec PyProof.Rows L2
/-- all but M and the code tables stands -/
def ButN (M : List Addr) (H H' : Hp) : Prop := ∀ b o, H b = some o → b ∉ M → (∀ ps, o ≠ .tbl ps) → H' b = some o
theorem ButN.refl (M : List Addr) (H : Hp) : ButN M H H := fun _ _ h _ _ => h
theorem ButN.of {M : List Addr} {H H' : Hp} (e : But M H H') : ButN M H H' := fun b o h n _ => e b o h n
theorem ButN.ext {M : List Addr} {H H' : Hp} (e : LamX.ExtN H H') : ButN M H H' := fun b o h _ z => e b o h z
theorem ButN.same {M : List Addr} {H H' : Hp} (e : Same H H') : ButN M H H' := fun b o h _ _ => e b o h
/-- a further stretch may change what is named, and what was new -/
theorem ButN.step {M M1 : List Addr} {H H1 H2 : Hp} (a : ButN M H H1) (b : ButN M1 H1 H2) (h : ∀ x ∈ M1, x ∈ M ∨ H x = none) : ButN M H H2 := fun c o e n z => b c o (a c o e n z) (fun q => (h c q).elim n fun y => by rw [y] at e; cases e) z
theorem ButN.trans {M : List Addr} {H H1 H2 : Hp} (a : ButN M H H1) (b : ButN M H1 H2) : ButN M H H2 := a.step b fun _ h => .inl h
theorem ButN.mono {M M' : List Addr} {H H' : Hp} (a : ButN M H H') (h : ∀ x ∈ M, x ∈ M' ∨ H x = none) : ButN M' H H' := (ButN.refl M' H).step a h
theorem But.step {M M1 : List Addr} {H H1 H2 : Hp} (a : But M H H1) (b : But M1 H1 H2) (h : ∀ x ∈ M1, x ∈ M ∨ H x = none) : But M H H2 := fun c o e n => b c o (a c o e n) fun q => (h c q).elim n fun y => by rw [y] at e; cases e
/-- what may be changed: neither a tuple, nor a book, nor code -/
def Mut (K : PySem.W.Frag) (H : Hp) (x : Addr) : Prop := H x = none ∨ (∃ xs, H x = some (.lst xs)) ∨ (∃ C dx fs, H x = some (.ins C dx fs)) ∨ (∃ y, H x = some (.own y)) ∨ ∃ C dx vs, C ≠ cB K ∧ H x = some (SlX.SlO x C dx vs)
theorem mut_lst {K : PySem.W.Frag} {H : Hp} {x : Addr} {xs : List V} (h : H x = some (.lst xs)) : Mut K H x := .inr (.inl ⟨xs, h⟩)
theorem mut_ins {K : PySem.W.Frag} {H : Hp} {x C dx : Addr} {fs : List (Str × V)} (h : H x = some (.ins C dx fs)) : Mut K H x := .inr (.inr (.inl ⟨C, dx, fs, h⟩))
theorem mut_own {K : PySem.W.Frag} {H : Hp} {x y : Addr} (h : H x = some (.own y)) : Mut K H x := .inr (.inr (.inr (.inl ⟨y, h⟩)))
theorem mut_slo {K : PySem.W.Frag} {H : Hp} {x C dx : Addr} {vs : List (Option V)} (n : C ≠ cB K) (h : H x = some (SlX.SlO x C dx vs)) : Mut K H x := .inr (.inr (.inr (.inr ⟨C, dx, vs, n, h⟩)))
/-- the kinds that nothing changes -/
inductive Firm (K : PySem.W.Frag) (b : Addr) : HO → Prop
  | tup (xs : List V) : Firm K b (.tup xs)
  | frz (o : Obj) (u : HO) : Firm K b (.frz o u)
  | bk (dx : Addr) (vs : List (Option V)) : Firm K b (SlX.SlO b (cB K) dx vs)
  | xd (fs : List (Str × V)) : Firm K b (.xd fs)
  | co (q : Str) : Firm K b (LamX.CodeO b q)
  | tb (ps : Array Value) : Firm K b (.tbl ps)
theorem firm_not {K : PySem.W.Frag} {H : Hp} {b : Addr} {o : HO} (m : Mut K H b) (h : H b = some o) (f : Firm K b o) : False := by
  rcases m with m | ⟨xs, m⟩ | ⟨C, dx, fs, m⟩ | ⟨y, m⟩ | ⟨C, dx, vs, n, m⟩
  · rw [h] at m
    cases m
  all_goals
    rw [h] at m
    injection m with m
    subst m
  · cases f
  · cases f
  · cases f
  · generalize e : SlX.SlO b C dx vs = o at f
    cases f with
    | bk dx' vs' => exact n (slO_inj e)
    | co q => exact slO_code e rfl
    | _ => unfold SlX.SlO at e; cases e
structure Kp (K : PySem.W.Frag) (H H' : Hp) : Prop where
  f : ∀ b o, H b = some o → Firm K b o → (∀ ps, o ≠ .tbl ps) → H' b = some o
theorem Kp.but {K : PySem.W.Frag} {M : List Addr} {H H' : Hp} (e : ButN M H H') (h : ∀ x ∈ M, Mut K H x) : Kp K H H' := ⟨fun b o q fm z => e b o q (fun hb => firm_not (h b hb) q fm) z⟩
theorem Kp.same {K : PySem.W.Frag} {H H' : Hp} (e : Same H H') : Kp K H H' := ⟨fun b o q _ _ => e b o q⟩
theorem Kp.refl (K : PySem.W.Frag) (H : Hp) : Kp K H H := ⟨fun _ _ q _ _ => q⟩
theorem Kp.trans {K : PySem.W.Frag} {H H1 H2 : Hp} (a : Kp K H H1) (b : Kp K H1 H2) : Kp K H H2 := ⟨fun c o q f z => b.f c o (a.f c o q f z) f z⟩
theorem slO_tbl {a C dx : Addr} {vs : List (Option V)} (ps : Array Value) : SlX.SlO a C dx vs ≠ .tbl ps := fun z => by
  unfold SlX.SlO at z
  cases z
section
variable {K : PySem.W.Frag} {H H' : Hp}
theorem Kp.tk (e : Kp K H H') : TK H H' := ⟨fun b xs h => e.f b _ h (.tup xs) (fun _ z => by cases z), fun b o u h => e.f b _ h (.frz o u) (fun _ z => by cases z)⟩
theorem Kp.book {b : Addr} {m : Int} {R : List Rl} (e : Kp K H H') (h : BookAt K H b m R) : BookAt K H' b m R := by
  obtain ⟨dx, rv, h1, h2, h3⟩ := h
  exact ⟨dx, rv, e.f _ _ h1 (.bk dx _) slO_tbl, e.f _ _ h2 (.xd _) (fun _ z => by cases z), e.tk.rls h3⟩
theorem Kp.rls {v : V} {R : List Rl} (e : Kp K H H') (h : RlsAt K H v R) : RlsAt K H' v R := e.tk.rls h
theorem Kp.xd {d : Addr} (e : Kp K H H') (h : H d = some (.xd [])) : H' d = some (.xd []) := e.f _ _ h (.xd _) (fun _ z => by cases z)
/-! #### changes -/
inductive Ch
  | put (i : Nat) (r : Rl)
  | take (i : Nat)
  | move (i j : Nat)
def ChAt (K : PySem.W.Frag) (H : Hp) (v : V) : Ch → Prop
  | .put i r => ∃ (a : Addr) (rv : V), v = .ref a ∧ SqT K H a [.str "put", .int i, rv] ∧ RlAt K H rv r
  | .take i => ∃ a : Addr, v = .ref a ∧ SqT K H a [.str "take", .int i]
  | .move i j => ∃ a : Addr, v = .ref a ∧ SqT K H a [.str "move", .int i, .int j]
def chD : Ch → PyData
  | .put i r => .tuple [.str "put", .int i, rlD r]
  | .take i => .tuple [.str "take", .int i]
  | .move i j => .tuple [.str "move", .int i, .int j]
theorem dp_ch {v : V} {c : Ch} (h : ChAt K H v c) : Dp K H v (chD c) := by
  cases c with
  | put i r =>
    obtain ⟨a, rv, rfl, h1, h2⟩ := h
    exact .tup h1 (.cons (.str _) (.cons (.int _) (.cons (dp_rl h2) .nil)))
  | take i =>
    obtain ⟨a, rfl, h1⟩ := h
    exact .tup h1 (.cons (.str _) (.cons (.int _) .nil))
  | move i j =>
    obtain ⟨a, rfl, h1⟩ := h
    exact .tup h1 (.cons (.str _) (.cons (.int _) (.cons (.int _) .nil)))
theorem Kp.ch {v : V} {c : Ch} (e : Kp K H H') (h : ChAt K H v c) : ChAt K H' v c := by
  cases c with
  | put i r =>
    obtain ⟨a, rv, rfl, h1, h2⟩ := h
    exact ⟨a, rv, rfl, e.tk.tup h1, e.tk.rl h2⟩
  | take i =>
    obtain ⟨a, rfl, h1⟩ := h
    exact ⟨a, rfl, e.tk.tup h1⟩
  | move i j =>
    obtain ⟨a, rfl, h1⟩ := h
    exact ⟨a, rfl, e.tk.tup h1⟩
theorem dpAll_ch : ∀ {vs : List V} {cs : List Ch}, Paired (ChAt K H) vs cs → DpAll K H vs (cs.map chD)
  | _, _, .nil => .nil
  | _, _, .cons r t => .cons (dp_ch r) (dpAll_ch t)
end
theorem lay_ch (c : Ch) : (chD c).canLay0 = true := by
  have k1 : PyData.strOk (Str.ofString "put") = true := by decide +kernel
  have k2 : PyData.strOk (Str.ofString "take") = true := by decide +kernel
  have k3 : PyData.strOk (Str.ofString "move") = true := by decide +kernel
  cases c <;> simp [chD, PyData.canLay0, PyData.canLayAll0, lay_rl, k1, k2, k3]
theorem dep_ch (c : Ch) : (chD c).depth ≤ 3 := by
  cases c with
  | put i r =>
    have := dep_rl r
    simp [chD, PyData.depth, PyData.depthAll]
    omega
  | _ => simp [chD, PyData.depth, PyData.depthAll]
theorem lay_chs : ∀ cs : List Ch, PyData.canLayAll0 (cs.map chD) = true
  | [] => rfl
  | c :: cs => by
    rw [List.map_cons, PyData.canLayAll0, lay_ch, lay_chs cs]
    rfl
theorem dep_chs : ∀ cs : List Ch, PyData.depthAll (cs.map chD) ≤ 3
  | [] => Nat.zero_le _
  | c :: cs => by
    rw [List.map_cons, PyData.depthAll]
    exact Nat.max_le.mpr ⟨dep_ch c, dep_chs cs⟩
theorem shaped_ch (c : Ch) : SeqAt.shaped (chD c) = true := by
  have := dep_ch c
  simp [SeqAt.shaped, lay_ch]
  omega
theorem shaped_chs (cs : List Ch) : SeqAt.shaped (.list (cs.map chD)) = true := by
  have := dep_chs cs
  simp [SeqAt.shaped, PyData.canLay0, PyData.depth, lay_chs]
  omega
/-- marks and rules of a book, as data -/
def bkD (m : Int) (R : List Rl) : PyData := .tuple [.int m, rlsD R]
theorem shaped_bk (m : Int) (R : List Rl) : SeqAt.shaped (bkD m R) = true := by
  have := dep_rls R
  simp [SeqAt.shaped, bkD, rlsD, PyData.canLay0, PyData.canLayAll0, PyData.depth, PyData.depthAll, lay_rls]
  omega
theorem eqv_of_shaped {d : PyData} (h : SeqAt.shaped d = true) : PyData.eqv d d = true := SeqAt.eqv_refl d (Bool.and_eq_true_iff.mp h).1
/-! #### a desk -/
def BkAt (K : PySem.W.Frag) (H : Hp) (m : Int) (v : V) (R : List Rl) : Prop := ∃ b, v = .ref b ∧ BookAt K H b m R
structure DeskAt (K : PySem.W.Frag) (H : Hp) (a p n : Addr) (fl : Nat) (m : Int) (Rs : List (List Rl)) (cs : List Ch) : Prop where
  ex : ∃ dx, H a = some (SlX.SlO a (cD K) dx [some (.int (fl : Nat)), some (.ref n), some (.ref p)]) ∧ H dx = some (.xd [])
  past : ∃ bs, H p = some (.lst bs) ∧ Paired (BkAt K H m) bs Rs
  notes : ∃ ns, H n = some (.lst ns) ∧ Paired (ChAt K H) ns cs
  ok : ∀ R ∈ Rs, OkB m R
  len : Rs.length = cs.length + 1
  fl' : fl ≤ cs.length
  ne : p ≠ n
section
variable {K : PySem.W.Frag} {H H' : Hp} {a p n : Addr} {fl : Nat} {m : Int} {Rs : List (List Rl)} {cs : List Ch}
theorem DeskAt.keep {M : List Addr} (h : DeskAt K H a p n fl m Rs cs) (e : ButN M H H') (k : Kp K H H') (ha : a ∉ M) (hp : p ∉ M) (hn : n ∉ M) : DeskAt K H' a p n fl m Rs cs := by
  obtain ⟨⟨dx, h1, h2⟩, ⟨bs, h3, h4⟩, ⟨ns, h5, h6⟩, h7, h8, h9, h10⟩ := h
  refine ⟨⟨dx, e _ _ h1 ha slO_tbl, k.xd h2⟩, ⟨bs, e _ _ h3 hp (fun _ z => by cases z), Paired.mapP h4 fun v R ⟨b, e1, e2⟩ => ⟨b, e1, k.book e2⟩⟩, ⟨ns, e _ _ h5 hn (fun _ z => by cases z), Paired.mapP h6 fun v c => k.ch⟩, h7, h8, h9, h10⟩
theorem DeskAt.same (h : DeskAt K H a p n fl m Rs cs) (e : Same H H') : DeskAt K H' a p n fl m Rs cs := h.keep (ButN.same (M := []) e) (Kp.same e) (by simp) (by simp) (by simp)
theorem DeskAt.slt (h : DeskAt K H a p n fl m Rs cs) : ∃ dx, SlX.Slt H a (cD K) dx [some (.int (fl : Nat)), some (.ref n), some (.ref p)] := by
  obtain ⟨dx, h1, h2⟩ := h.ex
  exact ⟨dx, .inr ⟨h1, h2⟩⟩
end
theorem paired_last {α β : Type} {F : α → β → Prop} : ∀ {xs : List α} {ys : List β} {y : β}, Paired F xs (ys ++ [y]) → ∃ xs' x, xs = xs' ++ [x] ∧ Paired F xs' ys ∧ F x y
  | [], ys, y, h => by
    have := Paired.length h
    simp at this
  | x :: xs, [], y, .cons r t => by
    cases t
    exact ⟨[], x, rfl, .nil, r⟩
  | x :: xs, y' :: ys, y, .cons r t => by
    obtain ⟨xs', x', rfl, h1, h2⟩ := paired_last t
    exact ⟨x :: xs', x', rfl, .cons r h1, h2⟩
theorem paired_snoc {α β : Type} {F : α → β → Prop} : ∀ {xs : List α} {ys : List β} {x : α} {y : β}, Paired F xs ys → F x y → Paired F (xs ++ [x]) (ys ++ [y])
  | _, _, _, _, .nil, r => .cons r .nil
  | _, _, _, _, .cons r0 t, r => .cons r0 (paired_snoc t r)
section
variable {P : Program} {w : World} {K : PySem.W.Frag} {mg : Str → Option Value} {base : Heap}
theorem cD_ne (T : TX K mg) : cD K ≠ cB K := fun z => by
  obtain ⟨f1, F1⟩ := T.fn_Book_init
  obtain ⟨f2, F2⟩ := T.fn_Desk_init
  rw [show He.ga K "Desk" = He.ga K "Book" from z] at F2
  obtain ⟨_, _, _, _, _, _, _, _, _, e1, l1, _⟩ := F1.ex
  obtain ⟨_, _, _, _, _, _, _, _, _, e2, l2, _⟩ := F2.ex
  rw [l1] at l2
  subst e1 e2
  simp only [PySem.W.fnOf, Option.some.injEq, Obj.mk.injEq, Data.func.injEq, FuncData.mk.injEq] at l2
  exact absurd l2.2.2.1.2.1 (by decide +kernel)
end
end K47
set_option maxHeartbeats 4000000
/-! ### Book.__eq__, Book.__len__, check_book, check_rule; Desk: __init__, now, journal -/
namespace K47
open PySem PySem.Spec PyProof.Rows L2
theorem kit_self (K : PySem.W.Frag) (C : Addr) : PySem.W.kitOne K (.ref C) (.ref C) = some true := by
  unfold PySem.W.kitOne
  rw [if_pos (by simp)]
theorem ref_one {c : Addr} {w : Value} (h : RelV (.ref c) w) : w = .ref c := h
section
variable {P : Program} {w : World} {K : PySem.W.Frag} {mg : Str → Option Value} {base : Heap}
/-! #### Book.__eq__ -/
def sp_Book_eq (K : PySem.W.Frag) : Sp := fun vs H Q _ => ∃ (a b : Addr) (m : Int) (R : List Rl), vs = [.ref a, .ref b] ∧ BookAt K H a m R ∧ BookAt K H b m R ∧ ∀ H', Same H H' → Q (.bl true) H'
abbrev N_Book_eq : List Str := ["self", "other"]
theorem sc_Book_eq : FnScope N_Book_eq ["self", "other"] (defScope s_Book_eq) := ⟨rfl, rfl, rfl, by decide +kernel, rfl, by decide +kernel, by decide +kernel⟩
theorem ok_Book_eq (T : TX K mg) : FnR P w K mg base CX0 1 (He.ma K (cB K) "__eq__") (sp_Book_eq K) := by
  refine fr0 T.fn_Book_eq sc_Book_eq (fun _ _ _ _ _ _ us hl => match us, hl with | [_, _], _ => rfl) (fun vs H Q E h => ?_) (fun cdv A outer s H vs Q E hr h => ?_)
  · obtain ⟨a, b, m, R, rfl, _⟩ := h
    rfl
  · obtain ⟨a, b, m, R, rfl, ha, hb, q⟩ := h
    refine ⟨_, pss_one (ps_ret (pe_and (pe_callB (SlX.call_isiSl (.ref (cB K))) (by rfl) T.free_isinstance bb_isinstance (pa_cons (pv 1) (pa_cons (pe_glob (v := .ref (cB K)) rfl T.glo_Book rfl) pa_nil)))
      (pe_one (pe_cmpR (op_eqD hr.units) (pe_tup (pa_cons (SlX.pe_sl (pv 0)) (pa_cons (SlX.pe_sl (pv 0)) pa_nil))) (pe_tup (pa_cons (SlX.pe_sl (pv 1)) (pa_cons (SlX.pe_sl (pv 1)) pa_nil))) (nomark _))))), ?_⟩
    obtain ⟨dx, rv, s1, r1⟩ := ha.slt
    obtain ⟨dy, rw', s2, r2⟩ := hb.slt
    refine ⟨_, rfl, b, cB K, dy, _, .ref (cB K), true, rfl, rfl, fun w h => ref_one h, s2, T.scls_Book, T.sisi_Book, kit_self _ _, true, rfl, ?_⟩
    refine ⟨_, rfl, a, cB K, dx, _, _, 0, _, rfl, s1, T.scls_Book, T.sl_Book_marks, rfl, _, rfl, a, cB K, dx, _, _, 1, _, rfl, s1, T.scls_Book, T.sl_Book_rules, rfl, by show 2 ≤ sizeLine; decide, fun p1 n1 => ?_⟩
    have e1 : Same H (upd H p1 (.tup [.int m, rv])) := same_new n1
    obtain ⟨dy2, rw2, s3, r3⟩ := (same_book e1 hb).slt
    refine ⟨_, rfl, b, cB K, dy2, _, _, 0, _, rfl, s3, T.scls_Book, T.sl_Book_marks, rfl, _, rfl, b, cB K, dy2, _, _, 1, _, rfl, s3, T.scls_Book, T.sl_Book_rules, rfl, by show 2 ≤ sizeLine; decide, fun p2 n2 => ?_⟩
    have e2 : Same _ (upd (upd H p1 (.tup [.int m, rv])) p2 (.tup [.int m, rw2])) := same_new n2
    refine ⟨bkD m R, bkD m R, .tup (same_tup e2 (SqT.of upd_same)) (.cons (.int _) (.cons (dp_rls (same_rls (e1.trans e2) r1)) .nil)), .tup (SqT.of upd_same) (.cons (.int _) (.cons (dp_rls (same_rls e2 r3)) .nil)), shaped_bk m R, shaped_bk m R, ?_⟩
    rw [eqv_of_shaped (shaped_bk m R)]
    exact q _ (e1.trans e2)
/-! #### Book.__len__ -/
def sp_Book_len (K : PySem.W.Frag) : Sp := fun vs H Q _ => ∃ (a : Addr) (m : Int) (R : List Rl), vs = [.ref a] ∧ BookAt K H a m R ∧ Q (.int (R.length : Nat)) H
abbrev N_Book_len : List Str := ["self"]
theorem sc_Book_len : FnScope N_Book_len ["self"] (defScope s_Book_len) := ⟨rfl, rfl, rfl, by decide +kernel, rfl, by decide +kernel, by decide +kernel⟩
theorem ok_Book_len (T : TX K mg) : FnR P w K mg base CX0 1 (He.ma K (cB K) "__len__") (sp_Book_len K) := by
  refine fr0 T.fn_Book_len sc_Book_len (fun _ _ _ _ _ _ us hl => match us, hl with | [_], _ => rfl) (fun vs H Q E h => ?_) (fun cdv A outer s H vs Q E hr h => ?_)
  · obtain ⟨a, m, R, rfl, _⟩ := h
    rfl
  · obtain ⟨a, m, R, rfl, ha, q⟩ := h
    refine ⟨_, pss_one (ps_ret (pe_callB call_len_seq (by rfl) T.free_len bb_len (pa_cons (SlX.pe_sl (pv 0)) pa_nil))), ?_⟩
    obtain ⟨dx, rv, s1, ra, vs, rfl, r1, r2⟩ := ha.slt
    refine ⟨_, rfl, a, cB K, dx, _, _, 1, _, rfl, s1, T.scls_Book, T.sl_Book_rules, rfl, ra, _, rfl, .inr r1, ?_⟩
    rw [Paired.length r2]
    exact q
/-! #### check_book -/
def sp_check_book (K : PySem.W.Frag) : Sp := fun vs H Q _ => ∃ (b : Addr) (m : Int) (R : List Rl), vs = [.ref b] ∧ BookAt K H b m R ∧ Q .non H
abbrev N_check_book : List Str := ["thing"]
theorem sc_check_book : FnScope N_check_book ["thing"] (defScope s_check_book) := ⟨rfl, rfl, rfl, by decide +kernel, rfl, by decide +kernel, by decide +kernel⟩
theorem ok_check_book (T : TX K mg) : FnR P w K mg base CX0 1 (He.ga K "check_book") (sp_check_book K) := by
  refine fr0 T.fn_check_book sc_check_book (fun _ _ _ _ _ _ us hl => match us, hl with | [_], _ => rfl) (fun vs H Q E h => ?_) (fun cdv A outer s H vs Q E hr h => ?_)
  · obtain ⟨b, m, R, rfl, _⟩ := h
    rfl
  · obtain ⟨b, m, R, rfl, hb, q⟩ := h
    refine ⟨_, pss_one (ps_if (pt_not (pt_val (pe_callB (SlX.call_isiSl (.ref (cB K))) (by rfl) T.free_isinstance bb_isinstance (pa_cons (pv 0) (pa_cons (pe_glob (v := .ref (cB K)) rfl T.glo_Book rfl) pa_nil))))) pss_never pss_nil), ?_⟩
    obtain ⟨dy, rw', s2, r2⟩ := hb.slt
    exact ⟨_, rfl, b, cB K, dy, _, .ref (cB K), true, rfl, rfl, fun w h => ref_one h, s2, T.scls_Book, T.sisi_Book, kit_self _ _, true, rfl, q⟩
/-! #### check_rule -/
/-- no rule over m marks -/
def OddR (K : PySem.W.Frag) (H : Hp) (m : Int) (v : V) : Prop := (∃ r, RlAt K H v r ∧ small r ∧ isRule m r = false) ∨ ∃ a xs, v = .ref a ∧ H a = some (.lst xs)
def sp_check_rule (K : PySem.W.Frag) : Sp := fun vs H Q E => ∃ (b : Addr) (m : Int) (R : List Rl) (v : V), vs = [.ref b, v] ∧ BookAt K H b m R ∧
  ((∃ r, RlAt K H v r ∧ small r ∧ isRule m r = true ∧ ∀ H', Same H H' → Q .non H') ∨ (OddR K H m v ∧ ∀ H', Same H H' → E (.ref (He.ga K "BadRule")) none H'))
abbrev N_check_rule : List Str := ["book", "rule"]
theorem sc_check_rule : FnScope N_check_rule ["book", "rule"] (defScope s_check_rule) := ⟨rfl, rfl, rfl, by decide +kernel, rfl, by decide +kernel, by decide +kernel⟩
theorem ok_check_rule (T : TX K mg) : FnR P w K mg base (L2.CX P w) 4 (He.ga K "check_rule") (sp_check_rule K) := by
  refine frX T.fn_check_rule sc_check_rule (fun _ _ _ _ _ _ us hl => match us, hl with | [_, _], _ => rfl) (fun vs H Q E h => ?_) (fun cdv A outer s H vs Q E hr h => ?_)
  · obtain ⟨b, m, R, v, rfl, _⟩ := h
    rfl
  · obtain ⟨b, m, R, v, rfl, hb, h⟩ := h
    obtain ⟨x1, x2, x3, x4⟩ := T.exc_BadRule
    refine ⟨_, pss_cons (ps_expr (pe_g (ok_check_book T) hr (by rfl) T.glo_check_book (kp_of T.fn_check_book) pass0 (pa_cons (pv 0) pa_nil)))
      (pss_one (ps_if (pt_not (pt_val (pe_g (ok_is_rule T) hr (by rfl) T.glo_is_rule (kp_of T.fn_is_rule) pass0 (pa_cons (SlX.pe_sl (pv 0)) (pa_cons (pv 1) pa_nil)))))
        (pss_one (ps_raise rfl (takes_of rfl rfl rfl rfl) (pmk_own PySem.F.excBase_ValueError x1 T.glo_BadRule x2 (raises_own x3 x4) rfl))) pss_nil)), ?_⟩
    obtain ⟨dy, rw', s2, r2⟩ := hb.slt
    refine ⟨_, rfl, b, m, R, rfl, hb, ?_⟩
    refine ⟨_, rfl, b, cB K, dy, _, _, 0, _, rfl, s2, T.scls_Book, T.sl_Book_marks, rfl, _, rfl, m, v, rfl, ?_⟩
    rcases h with ⟨r, hr1, hr2, hr3, q⟩ | ⟨ho, q⟩
    · refine .inl ⟨r, hr1, hr2, fun H' e => ⟨_, rfl, ?_⟩⟩
      rw [hr3]
      exact q H' e
    · rcases ho with ⟨r, hr1, hr2, hr3⟩ | ⟨a, xs, rfl, ha⟩
      · refine .inl ⟨r, hr1, hr2, fun H' e => ⟨_, rfl, ?_⟩⟩
        rw [hr3]
        exact q H' e
      · exact .inr ⟨a, xs, rfl, ha, _, rfl, q H (Same.refl H)⟩
/-! #### Desk.__init__ -/
def sp_Desk_init (K : PySem.W.Frag) : Sp := fun vs H Q _ => ∃ (x dx b : Addr) (m : Int) (R : List Rl), vs = [.ref x, .ref b] ∧ H x = some (.ins (cD K) dx []) ∧ H dx = some (.own x) ∧ BookAt K H b m R ∧ OkB m R ∧
  ∀ H' p n, But [x, dx] H H' → H p = none → H n = none → DeskAt K H' x p n 0 m [R] [] → Q .non H'
abbrev N_Desk_init : List Str := ["self", "book"]
theorem sc_Desk_init : FnScope N_Desk_init ["self", "book"] (defScope s_Desk_init) := ⟨rfl, rfl, rfl, by decide +kernel, rfl, by decide +kernel, by decide +kernel⟩
theorem ok_Desk_init (T : TX K mg) : FnR P w K mg base CX0 2 (He.ma K (cD K) "__init__") (sp_Desk_init K) := by
  refine fr0 T.fn_Desk_init sc_Desk_init (fun _ _ _ _ _ _ us hl => match us, hl with | [_, _], _ => rfl) (fun vs H Q E h => ?_) (fun cdv A outer s H vs Q E hr h => ?_)
  · obtain ⟨x, dx, b, m, R, rfl, _⟩ := h
    rfl
  · obtain ⟨x, dx, b, m, R, rfl, hx, hdx, hb, ok, q⟩ := h
    have ne : dx ≠ x := ne_of hdx hx (by intro z; cases z)
    refine ⟨_, pss_cons (ps_expr (pe_g (ok_check_book T) hr (by rfl) T.glo_check_book (kp_of T.fn_check_book) pass0 (pa_cons (pv 1) pa_nil)))
      (pss_cons (SlX.ps_sl (pv 0) (pe_lst (pa_cons (pv 1) pa_nil))) (pss_cons (SlX.ps_sl (pv 0) (pe_lst pa_nil)) (pss_one (SlX.ps_sl (pv 0) pe_int)))), ?_⟩
    refine ⟨_, rfl, b, m, R, rfl, hb, ?_⟩
    refine ⟨_, rfl, by show 1 ≤ sizeLine; decide, fun p hp => ?_⟩
    have e1 : Same H (upd H p (.lst [.ref b])) := same_new hp
    refine ⟨_, rfl, x, cD K, dx, _, _, 2, rfl, .inl ⟨e1 _ _ hx, rfl⟩, T.scls_Desk, T.sl_Desk_past, ?_⟩
    refine ⟨by show 0 ≤ sizeLine; decide, fun n hn => ?_⟩
    have npx : p ≠ x := (ne_of_none hx hp).symm
    have npd : p ≠ dx := (ne_of_none hdx hp).symm
    have s0 : SlX.Slt (SlX.slH (upd H p (.lst [.ref b])) x (cD K) dx (SlX.putS 2 (.ref p) [])) x (cD K) dx (SlX.putS 2 (.ref p) []) := SlX.slH_slt ne
    have nnx : n ≠ x := fun z => by
      rw [z, SlX.slH, upd_same] at hn
      cases hn
    have nnd : n ≠ dx := fun z => by
      rw [z, SlX.slH, upd_ne ne, upd_same] at hn
      cases hn
    rw [SlX.slH_ne nnx nnd] at hn
    have nnp : n ≠ p := fun z => by
      rw [z, upd_same] at hn
      cases hn
    rw [upd_ne nnp] at hn
    have e2 : Same (SlX.slH (upd H p (.lst [.ref b])) x (cD K) dx (SlX.putS 2 (.ref p) [])) (upd (SlX.slH (upd H p (.lst [.ref b])) x (cD K) dx (SlX.putS 2 (.ref p) [])) n (.lst [])) := same_new (by rw [SlX.slH_ne nnx nnd, upd_ne nnp]; exact hn)
    have s1 : SlX.Slt (upd (SlX.slH (upd H p (.lst [.ref b])) x (cD K) dx (SlX.putS 2 (.ref p) [])) n (.lst [])) x (cD K) dx (SlX.putS 2 (.ref p) []) := by
      rcases s0 with ⟨h1, h2⟩ | ⟨h1, h2⟩
      · exact .inl ⟨e2 _ _ h1, h2⟩
      · exact .inr ⟨e2 _ _ h1, e2 _ _ h2⟩
    refine ⟨_, rfl, x, cD K, dx, _, _, 1, rfl, s1, T.scls_Desk, T.sl_Desk_notes, ?_⟩
    refine ⟨_, rfl, x, cD K, dx, _, _, 0, rfl, SlX.slH_slt ne, T.scls_Desk, T.sl_Desk_floor, ?_⟩
    rw [SlX.slH_twice ne]
    have k : But [x, dx] H (SlX.slH (upd (SlX.slH (upd H p (.lst [.ref b])) x (cD K) dx (SlX.putS 2 (.ref p) [])) n (.lst [])) x (cD K) dx (SlX.putS 0 (.int 0) (SlX.putS 1 (.ref n) (SlX.putS 2 (.ref p) [])))) :=
      But.slM ((But.slM (But.of e1) (by simp) (.inl (by simp))).trans (But.of e2)) (by simp) (.inl (by simp))
    have kp : Kp K H _ := Kp.but (ButN.of k) fun y hy => by
      rcases List.mem_cons.mp hy with rfl | hy
      · exact mut_ins hx
      · rw [List.mem_singleton.mp hy]
        exact mut_own hdx
    refine q _ p n k hp hn ⟨⟨dx, ?_, ?_⟩, ⟨[.ref b], ?_, .cons ⟨b, rfl, kp.book hb⟩ .nil⟩, ⟨[], ?_, .nil⟩, ?_, rfl, Nat.zero_le _, fun z => nnp z.symm⟩
    · unfold SlX.slH
      rw [upd_same]
      rfl
    · unfold SlX.slH
      rw [upd_ne ne, upd_same]
    · rw [SlX.slH_ne npx npd, upd_ne (fun z => nnp z.symm), SlX.slH_ne npx npd, upd_same]
    · rw [SlX.slH_ne nnx nnd, upd_same]
    · intro R' hR'
      rw [List.mem_singleton.mp hR']
      exact ok
/-! #### Desk.now, Desk.journal -/
def sp_Desk_now (K : PySem.W.Frag) : Sp := fun vs H Q _ => ∃ (a p n : Addr) (fl : Nat) (m : Int) (Rs : List (List Rl)) (R : List Rl) (cs : List Ch), vs = [.ref a] ∧ DeskAt K H a p n fl m (Rs ++ [R]) cs ∧ ∀ b, BookAt K H b m R → Q (.ref b) H
abbrev N_Desk_now : List Str := ["self"]
theorem sc_Desk_now : FnScope N_Desk_now ["self"] (defScope s_Desk_now) := ⟨rfl, rfl, rfl, by decide +kernel, rfl, by decide +kernel, by decide +kernel⟩
theorem ok_Desk_now (T : TX K mg) : FnR P w K mg base CX0 1 (getterOf K (He.ma K (cD K) "now")) (sp_Desk_now K) := by
  refine fr0 T.fn_Desk_now sc_Desk_now (fun _ _ _ _ _ _ us hl => match us, hl with | [_], _ => rfl) (fun vs H Q E h => ?_) (fun cdv A outer s H vs Q E hr h => ?_)
  · obtain ⟨a, p, n, fl, m, Rs, R, cs, rfl, _⟩ := h
    rfl
  · obtain ⟨a, p, n, fl, m, Rs, R, cs, rfl, hd, q⟩ := h
    refine ⟨_, pss_one (ps_ret (pe_ix ix_list (SlX.pe_sl (pv 0)) (pe_un un_neg pe_int) (fun _ _ => rfl))), ?_⟩
    obtain ⟨dx, s1⟩ := hd.slt
    obtain ⟨bs, hp, hb⟩ := hd.past
    obtain ⟨bs', v, rfl, h1, b, rfl, h2⟩ := paired_last hb
    exact ⟨_, rfl, a, cD K, dx, _, _, 2, _, rfl, s1, T.scls_Desk, T.sl_Desk_past, rfl, 1, rfl, p, _, _, _, rfl, rfl, SqL.of hp, atI_last _ _, q b h2⟩
def sp_Desk_journal (K : PySem.W.Frag) : Sp := fun vs H Q _ => ∃ (a p n : Addr) (fl : Nat) (m : Int) (Rs : List (List Rl)) (cs : List Ch), vs = [.ref a] ∧ DeskAt K H a p n fl m Rs cs ∧ ∀ l ns, H l = none → Paired (ChAt K H) ns cs → Q (.ref l) (upd H l (.lst ns))
abbrev N_Desk_journal : List Str := ["self"]
theorem sc_Desk_journal : FnScope N_Desk_journal ["self"] (defScope s_Desk_journal) := ⟨rfl, rfl, rfl, by decide +kernel, rfl, by decide +kernel, by decide +kernel⟩
theorem ok_Desk_journal (T : TX K mg) : FnR P w K mg base CX0 1 (getterOf K (He.ma K (cD K) "journal")) (sp_Desk_journal K) := by
  refine fr0 T.fn_Desk_journal sc_Desk_journal (fun _ _ _ _ _ _ us hl => match us, hl with | [_], _ => rfl) (fun vs H Q E h => ?_) (fun cdv A outer s H vs Q E hr h => ?_)
  · obtain ⟨a, p, n, fl, m, Rs, cs, rfl, _⟩ := h
    rfl
  · obtain ⟨a, p, n, fl, m, Rs, cs, rfl, hd, q⟩ := h
    refine ⟨_, pss_one (ps_ret (pe_callTy call_list_of (by rfl) T.free_list bb_list (pa_cons (SlX.pe_sl (pv 0)) pa_nil))), ?_⟩
    obtain ⟨dx, s1⟩ := hd.slt
    obtain ⟨ns, hn, hc⟩ := hd.notes
    exact ⟨_, rfl, a, cD K, dx, _, _, 1, _, rfl, s1, T.scls_Desk, T.sl_Desk_notes, rfl, n, _, rfl, .inl (SqL.of hn), fun l hl => q l ns hl hc⟩
end
end K47
set_option maxHeartbeats 4000000
/-! ### Desk: changed, put, take, move -/
namespace K47
open PySem PySem.Spec PyProof.Rows L2
theorem same_gone {H H' : Hp} {x : Addr} (e : Same H H') (h : H' x = none) : H x = none := by
  cases q : H x with
  | none => rfl
  | some o =>
    rw [e _ _ q] at h
    cases h
section
variable {X : Cx} {e : Expr} {pos : Pos} {ta : TE}
/-- e.now, e.journal -/
theorem pe_now (T : TX X.K X.mg) (he : PE X e ta) (hr : Room 2 X.A) (hb : attributeBase e "now" X.env (eval e X.env) = eval e X.env := by rfl) : PE X (.Attribute e "now" pos) (SlX.tPropSl (cD X.K) (sp_Desk_now X.K) E0 ta) :=
  SlX.pe_propSl he T.scls_Desk T.prop_now.at_ T.prop_now.get T.prop_now.tk T.prop_now.rc (ok_Desk_now (P := X.prog) (w := X.w) (base := X.base) T) hr (fun _ _ _ _ h => h.elim) hb
theorem pe_journal (T : TX X.K X.mg) (he : PE X e ta) (hr : Room 2 X.A) (hb : attributeBase e "journal" X.env (eval e X.env) = eval e X.env := by rfl) : PE X (.Attribute e "journal" pos) (SlX.tPropSl (cD X.K) (sp_Desk_journal X.K) E0 ta) :=
  SlX.pe_propSl he T.scls_Desk T.prop_journal.at_ T.prop_journal.get T.prop_journal.tk T.prop_journal.rc (ok_Desk_journal (P := X.prog) (w := X.w) (base := X.base) T) hr (fun _ _ _ _ h => h.elim) hb
end
section
variable {P : Program} {w : World} {K : PySem.W.Frag} {mg : Str → Option Value} {base : Heap}
/-! #### changed -/
def sp_changed (K : PySem.W.Frag) : Sp := fun vs H Q _ => ∃ (a p n l : Addr) (fl : Nat) (m : Int) (Rs : List (List Rl)) (R R' : List Rl) (cs : List Ch) (c : Ch) (nt : V) (rvs : List V), vs = [.ref a, nt, .ref l] ∧ DeskAt K H a p n fl m (Rs ++ [R]) cs ∧ ChAt K H nt c ∧
  H l = some (.lst rvs) ∧ Paired (RlAt K H) rvs R' ∧ OkB m R' ∧ cs.length ≤ 4000 ∧ ∀ H' b, But [p, n] H H' → DeskAt K H' a p n fl m (Rs ++ [R] ++ [R']) (cs ++ [c]) → BookAt K H' b m R' → Q (.ref b) H'
abbrev N_changed : List Str := ["self", "note", "rules"]
theorem sc_changed : FnScope N_changed ["self", "note", "rules"] (defScope s_Desk_changed) := ⟨rfl, rfl, rfl, by decide +kernel, rfl, by decide +kernel, by decide +kernel⟩
theorem ok_changed (T : TX K mg) : FnR P w K mg base CX0 6 (He.ma K (cD K) "changed") (sp_changed K) := by
  refine fr0 T.fn_Desk_changed sc_changed (fun _ _ _ _ _ _ us hl => match us, hl with | [_, _, _], _ => rfl) (fun vs H Q E h => ?_) (fun cdv A outer s H vs Q E hr h => ?_)
  · obtain ⟨a, p, n, l, fl, m, Rs, R, R', cs, c, nt, rvs, rfl, _⟩ := h
    rfl
  · obtain ⟨a, p, n, l, fl, m, Rs, R, R', cs, c, nt, rvs, rfl, hd, hc, hl, hR, ok, hle, q⟩ := h
    refine ⟨_, pss_cons (ps_expr (pe_bm PySem.F.plainAttrs_list PySem.F.slot_list_append PySem.F.type_list_append mt_append (SlX.pe_sl (pv 0)) (pa_cons (StX.pe_makeR T.mkr_Book (ok_Book_init T) hr (by rfl) T.glo_Book pass0
        (pa_cons (SlX.pe_sl (pe_now T (pv 0) (hr.mono (by decide)))) (pa_cons (pe_callTy call_tuple_of (by rfl) T.free_tuple bb_tuple (pa_cons (pv 2) pa_nil)) pa_nil))) pa_nil)))
      (pss_cons (ps_expr (pe_bm PySem.F.plainAttrs_list PySem.F.slot_list_append PySem.F.type_list_append mt_append (SlX.pe_sl (pv 0)) (pa_cons (pv 1) pa_nil)))
      (pss_one (ps_ret (pe_now T (pv 0) (hr.mono (by decide)))))), ?_⟩
    obtain ⟨da, s1⟩ := hd.slt
    obtain ⟨bs, hp, hb⟩ := id hd.past
    obtain ⟨ns, hn, hcs⟩ := id hd.notes
    have lb := Paired.length hb
    have ln := Paired.length hcs
    have hlen := hd.len
    refine ⟨_, rfl, a, cD K, da, _, _, 2, _, rfl, s1, T.scls_Desk, T.sl_Desk_past, rfl, .inl ⟨rfl, _, SqL.of hp⟩, ?_⟩
    refine ⟨_, rfl, a, da, _, rfl, s1, a, p, n, fl, m, Rs, R, cs, rfl, hd, fun bn hbn => ?_⟩
    obtain ⟨dy, rv, s2, r2⟩ := hbn.slt
    refine ⟨bn, cB K, dy, _, _, 0, _, rfl, s2, T.scls_Book, T.sl_Book_marks, rfl, ?_⟩
    refine ⟨_, rfl, l, rvs, rfl, .inl ⟨SqL.of hl, fun t ht => ?_⟩⟩
    intro x dx hx hdx nx
    have e1 : Same H (upd H t (.tup rvs)) := same_new ht
    have e2 : Same (upd H t (.tup rvs)) (upd (upd (upd H t (.tup rvs)) dx (.own x)) x (.ins (cB K) dx [])) := same_upd (same_new hdx) hx
    have hrl : RlsAt K (upd (upd (upd H t (.tup rvs)) dx (.own x)) x (.ins (cB K) dx [])) (.ref t) R' := ⟨t, rvs, rfl, same_tup e2 (SqT.of upd_same), Paired.mapP hR fun _ _ => same_rl (e1.trans e2)⟩
    refine ⟨x, dx, m, .ref t, R', rfl, upd_same, by rw [upd_ne nx, upd_same], hrl, ok, fun H2 k2 hbk => ⟨rfl, ?_⟩⟩
    have E1 : But [] H H2 := by
      refine ((But.of (e1.trans e2)).step k2 fun y hy => .inr ?_)
      rcases List.mem_cons.mp hy with rfl | hy
      · exact same_gone e1 hx
      · rw [List.mem_singleton.mp hy]
        exact same_gone e1 hdx
    have S1 : Same H H2 := fun b o h => E1 b o h (by simp)
    have hd2 := hd.same S1
    have npn := hd.ne
    refine ⟨p, _, .ref x, rfl, rfl, S1 _ _ hp, ?_, ?_⟩
    · have : sizeLine = 16777216 := sizeLine_eq
      omega
    have B3 : But [p, n] H2 (upd H2 p (.lst (bs ++ [.ref x]))) := (But.refl _ _).updM (by simp)
    have K3 : Kp K H2 (upd H2 p (.lst (bs ++ [.ref x]))) := Kp.but (M := [p]) (ButN.of ((But.refl _ _).updM (by simp))) fun y hy => by
      rw [List.mem_singleton.mp hy]
      exact mut_lst (S1 _ _ hp)
    have s3 : SlX.Slt (upd H2 p (.lst (bs ++ [.ref x]))) a (cD K) da [some (.int (fl : Nat)), some (.ref n), some (.ref p)] := by
      obtain ⟨dz, h1, h2⟩ := hd.ex
      rcases s1 with ⟨z, _⟩ | ⟨z1, z2⟩
      · rw [h1] at z
        unfold SlX.SlO at z
        cases z
      · refine .inr ⟨?_, K3.xd (S1 _ _ z2)⟩
        rw [upd_ne (ne_of z1 hp (fun y => by unfold SlX.SlO at y; cases y))]
        exact S1 _ _ z1
    refine ⟨_, rfl, a, cD K, da, _, _, 1, _, rfl, s3, T.scls_Desk, T.sl_Desk_notes, rfl, ?_⟩
    have hn3 : (upd H2 p (.lst (bs ++ [.ref x]))) n = some (.lst ns) := by
      rw [upd_ne npn.symm]
      exact S1 _ _ hn
    refine ⟨.inl ⟨rfl, _, SqL.of hn3⟩, _, rfl, n, ns, nt, rfl, rfl, hn3, ?_, ?_⟩
    · have : sizeLine = 16777216 := sizeLine_eq
      omega
    have K4 : Kp K (upd H2 p (.lst (bs ++ [.ref x]))) (upd (upd H2 p (.lst (bs ++ [.ref x]))) n (.lst (ns ++ [nt]))) := Kp.but (M := [n]) (ButN.of ((But.refl _ _).updM (by simp))) fun y hy => by
      rw [List.mem_singleton.mp hy]
      exact mut_lst hn3
    have KT := ((Kp.same S1).trans K3).trans K4
    have BT : But [p, n] H (upd (upd H2 p (.lst (bs ++ [.ref x]))) n (.lst (ns ++ [nt]))) := ((But.of S1).trans B3).updM (by simp)
    have hd5 : DeskAt K (upd (upd H2 p (.lst (bs ++ [.ref x]))) n (.lst (ns ++ [nt]))) a p n fl m (Rs ++ [R] ++ [R']) (cs ++ [c]) := by
      obtain ⟨dz, h1, h2⟩ := hd.ex
      refine ⟨⟨dz, ?_, KT.xd h2⟩, ⟨bs ++ [.ref x], ?_, paired_snoc (Paired.mapP hb fun v R ⟨b, e1, e2⟩ => ⟨b, e1, KT.book e2⟩) ⟨x, rfl, (K3.trans K4).book hbk⟩⟩, ⟨ns ++ [nt], upd_same, paired_snoc (Paired.mapP hcs fun v c => KT.ch) (KT.ch hc)⟩, fun R0 hR0 => ?_, ?_, ?_, npn⟩
      · exact BT _ _ h1 (fun z => by
          rcases List.mem_cons.mp z with z | z
          · rw [z, hp] at h1
            unfold SlX.SlO at h1
            cases h1
          · rw [List.mem_singleton.mp z, hn] at h1
            unfold SlX.SlO at h1
            cases h1)
      · rw [upd_ne npn, upd_same]
      · rcases List.mem_append.mp hR0 with z | z
        · exact hd.ok _ z
        · rw [List.mem_singleton.mp z]
          exact ok
      · rw [List.length_append, List.length_append (as := cs), hlen]
        rfl
      · rw [List.length_append]
        exact Nat.le_trans hd.fl' (Nat.le_add_right _ _)
    obtain ⟨dz, s5⟩ := hd5.slt
    exact ⟨_, rfl, a, dz, _, rfl, s5, a, p, n, fl, m, Rs ++ [R], R', cs ++ [c], rfl, hd5, fun b hb => q _ b BT hd5 hb⟩
end
end K47
set_option maxHeartbeats 4000000
/-! ### Desk: put, take, move -/
namespace K47
open PySem PySem.Spec PyProof.Rows L2
def putR (i : Nat) (r : Rl) (R : List Rl) : List Rl := R.take i ++ r :: R.drop i
def takeR (i : Nat) (R : List Rl) : List Rl := R.take i ++ R.drop (i + 1)
def moveR (i j : Nat) (r : Rl) (R : List Rl) : List Rl := (R.eraseIdx i).take j ++ r :: (R.eraseIdx i).drop j
theorem OkB.of_sub {m : Int} {R R' : List Rl} (h : OkB m R) (hs : ∀ r ∈ R', r ∈ R) (hl : R'.length ≤ 16) : OkB m R' := ⟨h.lo, h.hi, fun r hr => h.rs r (hs r hr), hl⟩
theorem putR_ok {m : Int} {R : List Rl} {r : Rl} {i : Nat} (h : OkB m R) (hr : isRule m r = true) (hl : R.length < 16) (hi : i ≤ R.length) : OkB m (putR i r R) := by
  refine ⟨h.lo, h.hi, fun x hx => ?_, ?_⟩
  · rcases List.mem_append.mp hx with hx | hx
    · exact h.rs x (List.mem_of_mem_take hx)
    · rcases List.mem_cons.mp hx with rfl | hx
      · exact hr
      · exact h.rs x (List.mem_of_mem_drop hx)
  · unfold putR
    rw [List.length_append, List.length_cons, List.length_take, List.length_drop]
    omega
theorem takeR_ok {m : Int} {R : List Rl} {i : Nat} (h : OkB m R) : OkB m (takeR i R) := by
  have := h.len
  refine h.of_sub (fun x hx => ?_) ?_
  · rcases List.mem_append.mp hx with hx | hx
    · exact List.mem_of_mem_take hx
    · exact List.mem_of_mem_drop hx
  · unfold takeR
    rw [List.length_append, List.length_take, List.length_drop]
    omega
theorem moveR_ok {m : Int} {R : List Rl} {r : Rl} {i j : Nat} (h : OkB m R) (hi : i < R.length) (hr : r ∈ R) : OkB m (moveR i j r R) := by
  have := h.len
  refine h.of_sub (fun x hx => ?_) ?_
  · rcases List.mem_append.mp hx with hx | hx
    · exact List.mem_of_mem_eraseIdx (List.mem_of_mem_take hx)
    · rcases List.mem_cons.mp hx with rfl | hx
      · exact hr
      · exact List.mem_of_mem_eraseIdx (List.mem_of_mem_drop hx)
  · unfold moveR
    have e1 := List.length_eraseIdx_of_lt hi
    rw [List.length_append, List.length_cons, List.length_take, List.length_drop, e1]
    omega
theorem paired_app {α β : Type} {F : α → β → Prop} : ∀ {xs : List α} {ys : List β} {xs' : List α} {ys' : List β}, Paired F xs ys → Paired F xs' ys' → Paired F (xs ++ xs') (ys ++ ys')
  | _, _, _, _, .nil, r => r
  | _, _, _, _, .cons r0 t, r => .cons r0 (paired_app t r)
theorem paired_take {α β : Type} {F : α → β → Prop} : ∀ {xs : List α} {ys : List β} (k : Nat), Paired F xs ys → Paired F (xs.take k) (ys.take k)
  | _, _, 0, _ => by simp; exact .nil
  | _, _, _ + 1, .nil => .nil
  | _, _, k + 1, .cons r t => .cons r (paired_take k t)
theorem paired_drop {α β : Type} {F : α → β → Prop} : ∀ {xs : List α} {ys : List β} (k : Nat), Paired F xs ys → Paired F (xs.drop k) (ys.drop k)
  | _, _, 0, h => by simpa using h
  | _, _, _ + 1, .nil => .nil
  | _, _, k + 1, .cons r t => paired_drop k t
theorem paired_erase {α β : Type} {F : α → β → Prop} {xs : List α} {ys : List β} (k : Nat) (h : Paired F xs ys) : Paired F (xs.eraseIdx k) (ys.eraseIdx k) := by
  rw [List.eraseIdx_eq_take_drop_succ, List.eraseIdx_eq_take_drop_succ]
  exact paired_app (paired_take k h) (paired_drop (k + 1) h)
section
variable {P : Program} {w : World} {K : PySem.W.Frag} {mg : Str → Option Value} {base : Heap}
/-! #### put -/
def sp_put (K : PySem.W.Frag) : Sp := fun vs H Q E => ∃ (a p n : Addr) (fl : Nat) (m : Int) (Rs : List (List Rl)) (R : List Rl) (cs : List Ch) (x rv : V), vs = [.ref a, x, rv] ∧ DeskAt K H a p n fl m (Rs ++ [R]) cs ∧ cs.length ≤ 4000 ∧ flat x = true ∧
  ((isIn x 0 (R.length : Nat) = false ∧ E (.ref (He.ga K "BadPlace")) none H) ∨
   ∃ i : Nat, x = .int (i : Nat) ∧ i ≤ R.length ∧ ((OddR K H m rv ∧ ∀ H', Same H H' → E (.ref (He.ga K "BadRule")) none H') ∨
     ∃ r, RlAt K H rv r ∧ small r ∧ isRule m r = true ∧ ((R.length = 16 ∧ ∀ H', Same H H' → E (.ref (He.ga K "TooLarge")) none H') ∨
       (R.length < 16 ∧ ∀ H' b, But [p, n] H H' → DeskAt K H' a p n fl m (Rs ++ [R] ++ [putR i r R]) (cs ++ [.put i r]) → BookAt K H' b m (putR i r R) → Q (.ref b) H'))))
abbrev N_put : List Str := ["self", "at", "rule", "rules"]
theorem sc_put : FnScope N_put ["self", "at", "rule"] (defScope s_Desk_put) := ⟨rfl, rfl, rfl, by decide +kernel, rfl, by decide +kernel, by decide +kernel⟩
theorem isIn_nat {i n : Nat} (h : i ≤ n) : isIn (.int (i : Nat)) 0 (n : Nat) = true := by
  rw [isIn_int, decide_eq_true (by omega), decide_eq_true (by omega)]
  rfl
theorem DeskAt.okL {H : Hp} {a p n : Addr} {fl : Nat} {m : Int} {Rs : List (List Rl)} {R : List Rl} {cs : List Ch} (h : DeskAt K H a p n fl m (Rs ++ [R]) cs) : OkB m R := h.ok R (List.mem_append_right _ (List.mem_singleton.mpr rfl))
theorem ok_put (T : TX K mg) : FnR P w K mg base (L2.CX P w) 7 (He.ma K (cD K) "put") (sp_put K) := by
  refine frX T.fn_Desk_put sc_put (fun _ _ _ _ _ _ us hl => match us, hl with | [_, _, _], _ => rfl) (fun vs H Q E h => ?_) (fun cdv A outer s H vs Q E hr h => ?_)
  · obtain ⟨a, p, n, fl, m, Rs, R, cs, x, rv, rfl, _⟩ := h
    rfl
  · obtain ⟨a, p, n, fl, m, Rs, R, cs, x, rv, rfl, hd, hle, hf, h⟩ := h
    obtain ⟨x1, x2, x3, x4⟩ := T.exc_BadPlace
    obtain ⟨y1, y2, y3, y4⟩ := T.exc_TooLarge
    obtain ⟨t2, g2⟩ := T.int_MOST_RULES_desks_16
    have ml := T.meth_Book___len__
    refine ⟨_, pss_cons (ps_if (pt_not (pt_val (pe_g (ok_is_integer T) hr (by rfl) T.glo_is_integer (kp_of T.fn_is_integer) pass0 (pa_cons (pv 1) (pa_cons pe_int (pa_cons (pe_callB (call_lenOwn ml.at_ ml.fn (ok_Book_len T) (hr.mono (by decide)) pass0) (by rfl) T.free_len bb_len (pa_cons (pe_now T (pv 0) (hr.mono (by decide))) pa_nil)) pa_nil))))))
        (pss_one (ps_raise rfl (takes_of rfl rfl rfl rfl) (pmk_own PySem.F.excBase_ValueError x1 T.glo_BadPlace x2 (raises_own x3 x4) rfl))) pss_nil)
      (pss_cons (ps_expr (pe_g (ok_check_rule T) hr (by rfl) T.glo_check_rule (kp_of T.fn_check_rule) (passes_call (takes_of rfl rfl rfl rfl) (fun _ _ _ _ h => h)) (pa_cons (pe_now T (pv 0) (hr.mono (by decide))) (pa_cons (pv 2) pa_nil))))
      (pss_cons (ps_if (pt_cmpR op_eq (pe_callB (call_lenOwn ml.at_ ml.fn (ok_Book_len T) (hr.mono (by decide)) pass0) (by rfl) T.free_len bb_len (pa_cons (pe_now T (pv 0) (hr.mono (by decide))) pa_nil)) (pe_glob (v := .int 16) rfl g2 ⟨_, rfl⟩) (nomark _))
        (pss_one (ps_raise rfl (takes_of rfl rfl rfl rfl) (pmk_own PySem.F.excBase_ValueError y1 T.glo_TooLarge y2 (raises_own y3 y4) rfl))) pss_nil)
      (pss_cons (ps_set (i := 3) sc_put.nd rfl (Or.inl rfl) (SlX.pe_sl (pe_now T (pv 0) (hr.mono (by decide)))))
      (pss_one (ps_ret (SlX.pe_methSl (pv 0) T.scls_Desk T.meth_Desk_changed (ok_changed T) hr pass0 (pa_cons (pe_tup (pa_cons pe_str (pa_cons (pv 1) (pa_cons (pv 2) pa_nil))))
        (pa_cons (pe_lst (StX.pa_star (pe_slice sl_tupA (pv 3) po_none (po_some (pv 1))) (pa_cons (pv 2) (StX.pa_star (pe_slice sl_tupA (pv 3) (po_some (pv 1)) po_none) pa_nil)))) pa_nil)))))))), ?_⟩
    obtain ⟨da, s1⟩ := hd.slt
    have hok := hd.okL
    have lR := hok.len
    refine ⟨_, rfl, _, rfl, a, da, _, rfl, s1, a, p, n, fl, m, Rs, R, cs, rfl, hd, fun b hb => ?_⟩
    obtain ⟨dy, rvv, sb, _⟩ := hb.slt
    refine ⟨b, dy, _, rfl, sb, b, m, R, rfl, hb, _, rfl, by omega, by omega, x, 0, (R.length : Nat), rfl, hf, _, rfl, ?_⟩
    rcases h with ⟨hno, q⟩ | ⟨i, rfl, hi, h⟩
    · rw [hno]
      exact iteT q
    rw [isIn_nat hi]
    refine iteF ⟨_, rfl, a, da, _, rfl, s1, a, p, n, fl, m, Rs, R, cs, rfl, hd, fun b hb => ⟨_, rfl, b, m, R, rv, rfl, hb, ?_⟩⟩
    rcases h with ⟨ho, q⟩ | ⟨r, hr1, hr2, hr3, h⟩
    · exact .inr ⟨ho, q⟩
    refine .inl ⟨r, hr1, hr2, hr3, fun H1 e1 => ?_⟩
    have hd1 := hd.same e1
    obtain ⟨da1, s2⟩ := hd1.slt
    refine ⟨_, rfl, a, da1, _, rfl, s2, a, p, n, fl, m, Rs, R, cs, rfl, hd1, fun b hb => ?_⟩
    obtain ⟨dy, rvv, sb, _⟩ := hb.slt
    refine ⟨b, dy, _, rfl, sb, b, m, R, rfl, hb, _, rfl, by omega, by omega, rfl, _, rfl, ?_⟩
    rcases h with ⟨h16, q⟩ | ⟨hlt, q⟩
    · have e16 : decide (V.int ((R.length : Nat) : Int) = V.int 16) = true := by rw [h16]; rfl
      rw [e16]
      exact iteT (q _ e1)
    have e16 : decide (V.int ((R.length : Nat) : Int) = V.int 16) = false := decide_eq_false fun z => by
      injection z with z
      omega
    rw [e16]
    refine iteF ⟨_, rfl, a, da1, _, rfl, s2, a, p, n, fl, m, Rs, R, cs, rfl, hd1, fun b hb => ?_⟩
    obtain ⟨dy, rvv, sb, ra, rvs, rfl, hra, hrs⟩ := hb.slt
    refine ⟨b, cB K, dy, _, _, 1, _, rfl, sb, T.scls_Book, T.sl_Book_rules, rfl, ?_⟩
    refine ⟨_, rfl, a, da1, _, rfl, s2, _, rfl, _, rfl, by show 3 ≤ sizeLine; decide, fun t ht => ?_⟩
    have e2 : Same H1 (upd H1 t (.tup [.str "put", .int (i : Nat), rv])) := same_new ht
    have lrs := Paired.length hrs
    refine ⟨_, rfl, _, rfl, ?_⟩
    dsimp only [tNoPart]
    refine ⟨_, rfl, slA (same_tup e2 hra) fun c1 H2 e3 hc1 => ⟨c1, _, rfl, .inl hc1, _, rfl, _, rfl, _, rfl, _, rfl, ?_⟩⟩
    dsimp only [tNoPart]
    refine slA (same_tup (e2.trans e3) hra) fun c2 H3 e4 hc2 => ⟨c2, _, rfl, .inl hc2, ?_, fun l hl => ?_⟩
    · rw [cut_to, cut_from]
      show (rvs.take i ++ rv :: (rvs.drop i ++ [])).length ≤ sizeLine
      simp
      have : sizeLine = 16777216 := sizeLine_eq
      omega
    rw [cut_to, cut_from, List.append_nil]
    have e5 := e1.trans (e2.trans (e3.trans e4))
    have e6 : Same H3 (upd H3 l (.lst (rvs.take i ++ rv :: rvs.drop i))) := same_new hl
    have E := e5.trans e6
    refine ⟨a, p, n, l, fl, m, Rs, R, putR i r R, cs, .put i r, .ref t, rvs.take i ++ rv :: rvs.drop i, rfl, hd.same E, ⟨t, rv, rfl, same_tup ((e3.trans e4).trans e6) (SqT.of upd_same), same_rl E hr1⟩, upd_same, ?_, putR_ok hok hr3 hlt hi, hle, fun H' b k hd' hb' => q H' b ((But.of E).trans k) hd' hb'⟩
    have hrs' : Paired (RlAt K _) rvs R := Paired.mapP hrs fun _ _ => same_rl ((e2.trans (e3.trans e4)).trans e6)
    exact paired_app (paired_take i hrs') (.cons (same_rl E hr1) (paired_drop i hrs'))

/-! #### take -/
def sp_take (K : PySem.W.Frag) : Sp := fun vs H Q E => ∃ (a p n : Addr) (fl : Nat) (m : Int) (Rs : List (List Rl)) (R : List Rl) (cs : List Ch) (x : V), vs = [.ref a, x] ∧ DeskAt K H a p n fl m (Rs ++ [R]) cs ∧ cs.length ≤ 4000 ∧ flat x = true ∧
  ((isIn x 0 ((R.length : Nat) - 1) = false ∧ E (.ref (He.ga K "BadPlace")) none H) ∨
   ∃ i : Nat, x = .int (i : Nat) ∧ i < R.length ∧ ∀ H' b, But [p, n] H H' → DeskAt K H' a p n fl m (Rs ++ [R] ++ [takeR i R]) (cs ++ [.take i]) → BookAt K H' b m (takeR i R) → Q (.ref b) H')
abbrev N_take : List Str := ["self", "at", "rules"]
theorem sc_take : FnScope N_take ["self", "at"] (defScope s_Desk_take) := ⟨rfl, rfl, rfl, by decide +kernel, rfl, by decide +kernel, by decide +kernel⟩
theorem isIn_nat1 {i n : Nat} (h : i < n) : isIn (.int (i : Nat)) 0 ((n : Nat) - 1) = true := by
  rw [isIn_int, decide_eq_true (by omega), decide_eq_true (by omega)]
  rfl
theorem ok_take (T : TX K mg) : FnR P w K mg base (L2.CX P w) 7 (He.ma K (cD K) "take") (sp_take K) := by
  refine frX T.fn_Desk_take sc_take (fun _ _ _ _ _ _ us hl => match us, hl with | [_, _], _ => rfl) (fun vs H Q E h => ?_) (fun cdv A outer s H vs Q E hr h => ?_)
  · obtain ⟨a, p, n, fl, m, Rs, R, cs, x, rfl, _⟩ := h
    rfl
  · obtain ⟨a, p, n, fl, m, Rs, R, cs, x, rfl, hd, hle, hf, h⟩ := h
    obtain ⟨x1, x2, x3, x4⟩ := T.exc_BadPlace
    have ml := T.meth_Book___len__
    refine ⟨_, pss_cons (ps_if (pt_not (pt_val (pe_g (ok_is_integer T) hr (by rfl) T.glo_is_integer (kp_of T.fn_is_integer) pass0 (pa_cons (pv 1) (pa_cons pe_int (pa_cons (pe_op op_sub (pe_callB (call_lenOwn ml.at_ ml.fn (ok_Book_len T) (hr.mono (by decide)) pass0) (by rfl) T.free_len bb_len (pa_cons (pe_now T (pv 0) (hr.mono (by decide))) pa_nil)) pe_int) pa_nil))))))
        (pss_one (ps_raise rfl (takes_of rfl rfl rfl rfl) (pmk_own PySem.F.excBase_ValueError x1 T.glo_BadPlace x2 (raises_own x3 x4) rfl))) pss_nil)
      (pss_cons (ps_set (i := 2) sc_take.nd rfl (Or.inl rfl) (SlX.pe_sl (pe_now T (pv 0) (hr.mono (by decide)))))
      (pss_one (ps_ret (SlX.pe_methSl (pv 0) T.scls_Desk T.meth_Desk_changed (ok_changed T) hr pass0 (pa_cons (pe_tup (pa_cons pe_str (pa_cons (pv 1) pa_nil)))
        (pa_cons (pe_lst (StX.pa_star (pe_slice sl_tupA (pv 2) po_none (po_some (pv 1))) (StX.pa_star (pe_slice sl_tupA (pv 2) (po_some (pe_op op_add (pv 1) pe_int)) po_none) pa_nil))) pa_nil)))))), ?_⟩
    obtain ⟨da, s1⟩ := hd.slt
    have hok := hd.okL
    have lR := hok.len
    refine ⟨_, rfl, _, rfl, a, da, _, rfl, s1, a, p, n, fl, m, Rs, R, cs, rfl, hd, fun b hb => ?_⟩
    obtain ⟨dy, rvv, sb, _⟩ := hb.slt
    refine ⟨b, dy, _, rfl, sb, b, m, R, rfl, hb, _, rfl, by omega, by omega, _, _, rfl, rfl, x, 0, ((R.length : Nat) : Int) - 1, rfl, hf, _, rfl, ?_⟩
    rcases h with ⟨hno, q⟩ | ⟨i, rfl, hi, q⟩
    · rw [hno]
      exact iteT q
    rw [isIn_nat1 hi]
    refine iteF ⟨_, rfl, a, da, _, rfl, s1, a, p, n, fl, m, Rs, R, cs, rfl, hd, fun b hb => ?_⟩
    obtain ⟨dy, rvv, sb, ra, rvs, rfl, hra, hrs⟩ := hb.slt
    refine ⟨b, cB K, dy, _, _, 1, _, rfl, sb, T.scls_Book, T.sl_Book_rules, rfl, ?_⟩
    refine ⟨_, rfl, a, da, _, rfl, s1, _, rfl, by show 2 ≤ sizeLine; decide, fun t ht => ?_⟩
    have e2 : Same H (upd H t (.tup [.str "take", .int (i : Nat)])) := same_new ht
    have lrs := Paired.length hrs
    refine ⟨_, rfl, _, rfl, ?_⟩
    dsimp only [tNoPart]
    refine ⟨_, rfl, slA (same_tup e2 hra) fun c1 H2 e3 hc1 => ⟨c1, _, rfl, .inl hc1, _, rfl, _, rfl, _, _, rfl, rfl, _, rfl, ?_⟩⟩
    dsimp only [tNoPart]
    refine slA (same_tup (e2.trans e3) hra) fun c2 H3 e4 hc2 => ⟨c2, _, rfl, .inl hc2, ?_, fun l hl => ?_⟩
    all_goals rw [show ((i : Nat) : Int) + 1 = ((i + 1 : Nat) : Int) by omega, cut_to, cut_from]
    · show (rvs.take i ++ (rvs.drop (i + 1) ++ [])).length ≤ sizeLine
      simp
      have : sizeLine = 16777216 := sizeLine_eq
      omega
    rw [List.append_nil]
    have e6 : Same H3 (upd H3 l (.lst (rvs.take i ++ rvs.drop (i + 1)))) := same_new hl
    have E := e2.trans (e3.trans (e4.trans e6))
    refine ⟨a, p, n, l, fl, m, Rs, R, takeR i R, cs, .take i, .ref t, rvs.take i ++ rvs.drop (i + 1), rfl, hd.same E, ⟨t, rfl, same_tup ((e3.trans e4).trans e6) (SqT.of upd_same)⟩, upd_same, ?_, takeR_ok hok, hle, fun H' b k hd' hb' => q H' b ((But.of E).trans k) hd' hb'⟩
    have hrs' : Paired (RlAt K _) rvs R := Paired.mapP hrs fun _ _ => same_rl E
    exact paired_app (paired_take i hrs') (paired_drop (i + 1) hrs')
/-! #### move -/
def sp_move (K : PySem.W.Frag) : Sp := fun vs H Q E => ∃ (a p n : Addr) (fl : Nat) (m : Int) (Rs : List (List Rl)) (R : List Rl) (cs : List Ch) (x y : V), vs = [.ref a, x, y] ∧ DeskAt K H a p n fl m (Rs ++ [R]) cs ∧ cs.length ≤ 4000 ∧ flat x = true ∧ flat y = true ∧
  (((isIn x 0 ((R.length : Nat) - 1) = false ∨ isIn y 0 ((R.length : Nat) - 1) = false) ∧ E (.ref (He.ga K "BadPlace")) none H) ∨
   ∃ (i j : Nat) (r : Rl), x = .int (i : Nat) ∧ y = .int (j : Nat) ∧ i < R.length ∧ j < R.length ∧ R[i]? = some r ∧ ∀ H' b, But [p, n] H H' → DeskAt K H' a p n fl m (Rs ++ [R] ++ [moveR i j r R]) (cs ++ [.move i j]) → BookAt K H' b m (moveR i j r R) → Q (.ref b) H')
abbrev N_move : List Str := ["self", "at", "late", "rules", "index", "one"]
theorem sc_move : FnScope N_move ["self", "at", "late"] (defScope s_Desk_move) := ⟨rfl, rfl, rfl, by decide +kernel, rfl, by decide +kernel, by decide +kernel⟩
theorem erase_snoc {α : Type} {l : List α} {i k : Nat} {x : α} (h : l[i]? = some x) (n : i ≠ k) : (l.take (i + 1)).eraseIdx k = (l.take i).eraseIdx k ++ [x] := by
  have hl : (l.take i).length = i := by
    rw [List.length_take]
    have := lt_of_get h
    omega
  rw [take_snoc h]
  by_cases q : k < i
  · rw [List.eraseIdx_append_of_lt_length (by omega)]
  · rw [List.eraseIdx_of_length_le (by rw [List.length_append, hl]; simp; omega), List.eraseIdx_of_length_le (by omega)]
theorem erase_same {α : Type} {l : List α} {i : Nat} {x : α} (h : l[i]? = some x) : (l.take (i + 1)).eraseIdx i = (l.take i).eraseIdx i := by
  have hl : (l.take i).length = i := by
    rw [List.length_take]
    have := lt_of_get h
    omega
  rw [take_snoc h, List.eraseIdx_append_of_length_le (by omega), hl, List.eraseIdx_of_length_le (l := l.take i) (by omega)]
  simp
theorem ok_move (T : TX K mg) : FnR P w K mg base (L2.CX P w) 7 (He.ma K (cD K) "move") (sp_move K) := by
  refine frX T.fn_Desk_move sc_move (fun _ _ _ _ _ _ us hl => match us, hl with | [_, _, _], _ => rfl) (fun vs H Q E h => ?_) (fun cdv A outer s H vs Q E hr h => ?_)
  · obtain ⟨a, p, n, fl, m, Rs, R, cs, x, y, rfl, _⟩ := h
    rfl
  · obtain ⟨a, p, n, fl, m, Rs, R, cs, x, y, rfl, hd, hle, hfx, hfy, h⟩ := h
    obtain ⟨x1, x2, x3, x4⟩ := T.exc_BadPlace
    have ml := T.meth_Book___len__
    have nd := sc_move.nd
    refine ⟨_, pss_cons (ps_if (PW.pt (pw_or (pt_not (pt_val (pe_g (ok_is_integer T) hr (by rfl) T.glo_is_integer (kp_of T.fn_is_integer) pass0 (pa_cons (pv 1) (pa_cons pe_int (pa_cons (pe_op op_sub (pe_callB (call_lenOwn ml.at_ ml.fn (ok_Book_len T) (hr.mono (by decide)) pass0) (by rfl) T.free_len bb_len (pa_cons (pe_now T (pv 0) (hr.mono (by decide))) pa_nil)) pe_int) pa_nil))))))
          (pw_or1 (pt_not (pt_val (pe_g (ok_is_integer T) hr (by rfl) T.glo_is_integer (kp_of T.fn_is_integer) pass0 (pa_cons (pv 2) (pa_cons pe_int (pa_cons (pe_op op_sub (pe_callB (call_lenOwn ml.at_ ml.fn (ok_Book_len T) (hr.mono (by decide)) pass0) (by rfl) T.free_len bb_len (pa_cons (pe_now T (pv 0) (hr.mono (by decide))) pa_nil)) pe_int) pa_nil)))))))))
        (pss_one (ps_raise rfl (takes_of rfl rfl rfl rfl) (pmk_own PySem.F.excBase_ValueError x1 T.glo_BadPlace x2 (raises_own x3 x4) rfl))) pss_nil)
      (pss_cons (ps_setLc (i := 3) (own := [("index", 4), ("one", 5)]) rfl nd rfl rfl (sw_true rfl rfl rfl (by decide +kernel)) (pi_enumT (by rfl) T.free_enumerate (pa_cons (SlX.pe_sl (pe_now T (pv 0) (hr.mono (by decide)))) pa_nil)) (blkOk_by (N := N_move) (sc := defScope s_Desk_move) (by decide +kernel))
          (fun _ _ _ _ _ => pg_pair (K := K) 4 5 nd) (fun _ _ _ _ _ => pts_one (pt_cmpR op_ne (pv 4) (pv 1) (nomark _))) (fun _ _ _ _ _ => pv 5))
      (pss_one (ps_ret (SlX.pe_methSl (pv 0) T.scls_Desk T.meth_Desk_changed (ok_changed T) hr pass0 (pa_cons (pe_tup (pa_cons pe_str (pa_cons (pv 1) (pa_cons (pv 2) pa_nil))))
        (pa_cons (pe_lst (StX.pa_star (pe_slice sl_list (pv 3) po_none (po_some (pv 2))) (pa_cons (pe_ix ix_tup (SlX.pe_sl (pe_now T (pv 0) (hr.mono (by decide)))) (pv 1) (fun _ _ => rfl)) (StX.pa_star (pe_slice sl_list (pv 3) (po_some (pv 2)) po_none) pa_nil)))) pa_nil)))))), ?_⟩
    obtain ⟨da, s1⟩ := hd.slt
    have hok := hd.okL
    have lR := hok.len
    refine ⟨_, rfl, _, rfl, a, da, _, rfl, s1, a, p, n, fl, m, Rs, R, cs, rfl, hd, fun b hb => ?_⟩
    obtain ⟨dy, rvv, sb, _⟩ := hb.slt
    refine ⟨b, dy, _, rfl, sb, b, m, R, rfl, hb, _, rfl, by omega, by omega, _, _, rfl, rfl, x, 0, ((R.length : Nat) : Int) - 1, rfl, hfx, _, rfl, ?_⟩
    by_cases hx : isIn x 0 ((R.length : Nat) - 1) = true
    · rw [hx]
      refine iteF ⟨_, rfl, _, rfl, a, da, _, rfl, s1, a, p, n, fl, m, Rs, R, cs, rfl, hd, fun b hb => ?_⟩
      obtain ⟨dy, rvv, sb, _⟩ := hb.slt
      refine ⟨b, dy, _, rfl, sb, b, m, R, rfl, hb, _, rfl, by omega, by omega, _, _, rfl, rfl, y, 0, ((R.length : Nat) : Int) - 1, rfl, hfy, _, rfl, ?_⟩
      rcases h with ⟨hno, q⟩ | ⟨i, j, r, rfl, rfl, hi, hj, hr0, q⟩
      · have hno2 : isIn y 0 ((R.length : Nat) - 1) = false := by
          rcases hno with z | z
          · rw [hx] at z
            cases z
          · exact z
        rw [hno2]
        exact iteT q
      rw [isIn_nat1 hj]
      refine iteF ⟨_, rfl, a, da, _, rfl, s1, a, p, n, fl, m, Rs, R, cs, rfl, hd, fun b hb => ?_⟩
      obtain ⟨dy, rvv, sb, ra, rvs, rfl, hra, hrs⟩ := hb.slt
      have lrs := Paired.length hrs
      refine ⟨b, cB K, dy, _, _, 1, _, rfl, sb, T.scls_Book, T.sl_Book_rules, rfl, ra, rvs, rfl, hra, fun D hD => lc_same walk_enumT (fun k => (rvs.take k).eraseIdx i) (by simp) hD (fun H1 e => same_tup e hra) (fun k z H1 H2 hk w y => ?_) (fun H1 e hD1 => ?_)⟩
      · obtain ⟨T', v, rfl, hT, rfl, hv⟩ := y
        refine ⟨T', _, rfl, SqT.of upd_same, rfl, _, _, rfl, _, _, rfl, rfl, rfl, _, rfl, _, rfl, rfl, ?_⟩
        have w2 := lcn_upd (p := T') (o := .tup [.int (k : Nat), v]) w hT
        by_cases hki : k = i
        · subst hki
          have e0 : (!decide (V.int (k : Nat) = V.int (k : Nat))) = false := by simp
          rw [e0]
          exact ⟨_, rfl, iteF (lcn_no w2 (erase_same hv))⟩
        · have e0 : (!decide (V.int (k : Nat) = V.int (i : Nat))) = true := by
            simp
            omega
          rw [e0]
          refine ⟨_, rfl, iteT ⟨_, rfl, ?_⟩⟩
          refine lcn_yes hD ?_ w2 (erase_snoc hv hki)
          have := List.length_eraseIdx_le (l := rvs.take k) i
          have h2 : (rvs.take k).length ≤ rvs.length := by simp; omega
          exact small1000 (by omega)
      · rw [take_full rfl] at hD1
        have hd1 := hd.same e
        obtain ⟨da1, s2⟩ := hd1.slt
        refine ⟨_, rfl, a, da1, _, rfl, s2, _, rfl, _, rfl, by show 3 ≤ sizeLine; decide, fun t ht => ?_⟩
        have e2 : Same H1 (upd H1 t (.tup [.str "move", .int (i : Nat), .int (j : Nat)])) := same_new ht
        have lE : (rvs.eraseIdx i).length = rvs.length - 1 := List.length_eraseIdx_of_lt (by omega)
        refine ⟨_, rfl, ?_⟩
        dsimp only [tNoPart]
        refine ⟨_, rfl, _, rfl, D, _, rfl, SqL.of (e2 _ _ hD1), fun c1 hc1 => ?_⟩
        have e3 : Same (upd H1 t (.tup [.str "move", .int (i : Nat), .int (j : Nat)])) (upd (upd H1 t (.tup [.str "move", .int (i : Nat), .int (j : Nat)])) c1 (.lst (cutV (rvs.eraseIdx i) none (some (j : Int))))) := same_new hc1
        have hd3 := hd1.same (e2.trans e3)
        obtain ⟨da3, s3⟩ := hd3.slt
        refine ⟨c1, _, rfl, .inr (SqL.of upd_same), _, rfl, a, da3, _, rfl, s3, a, p, n, fl, m, Rs, R, cs, rfl, hd3, fun b2 hb2 => ?_⟩
        obtain ⟨dy2, rv2, sb2, ra2, rvs2, rfl, hra2, hrs2⟩ := hb2.slt
        obtain ⟨rv, hrv, hrv2⟩ : ∃ rv, rvs2[i]? = some rv ∧ RlAt K _ rv r := by
          have l2 := Paired.length hrs2
          obtain ⟨rv, hrv⟩ : ∃ rv, rvs2[i]? = some rv := ⟨_, List.getElem?_eq_getElem (by omega)⟩
          obtain ⟨r', e1, e2⟩ := paired_get hrs2 hrv
          rw [hr0] at e1
          cases e1
          exact ⟨rv, hrv, e2⟩
        refine ⟨b2, cB K, dy2, _, _, 1, _, rfl, sb2, T.scls_Book, T.sl_Book_rules, rfl, _, rfl, ra2, _, _, _, rfl, rfl, hra2, atI_nat hrv, ?_⟩
        refine ⟨_, rfl, _, rfl, _, rfl, ?_⟩
        dsimp only [tNoPart]
        refine ⟨D, _, rfl, SqL.of ((e2.trans e3) _ _ hD1), fun c2 hc2 => ?_⟩
        have e4 : Same _ (upd (upd (upd H1 t (.tup [.str "move", .int (i : Nat), .int (j : Nat)])) c1 (.lst (cutV (rvs.eraseIdx i) none (some (j : Int))))) c2 (.lst (cutV (rvs.eraseIdx i) (some (j : Int)) none))) := same_new hc2
        refine ⟨c2, _, rfl, .inr (SqL.of upd_same), ?_, fun l hl => ?_⟩
        all_goals rw [cut_to, cut_from]
        · show ((rvs.eraseIdx i).take j ++ rv :: ((rvs.eraseIdx i).drop j ++ [])).length ≤ sizeLine
          simp
          have : sizeLine = 16777216 := sizeLine_eq
          omega
        rw [cut_to, cut_from] at hl
        rw [List.append_nil]
        have e6 := same_new (o := .lst ((rvs.eraseIdx i).take j ++ rv :: (rvs.eraseIdx i).drop j)) hl
        rw [cut_to] at e3 hrv2
        rw [cut_to, cut_from] at e4
        have E1 := e.trans (e2.trans (e3.trans (e4.trans e6)))
        refine ⟨a, p, n, l, fl, m, Rs, R, moveR i j r R, cs, .move i j, .ref t, (rvs.eraseIdx i).take j ++ rv :: (rvs.eraseIdx i).drop j, rfl, hd.same E1, ⟨t, rfl, same_tup (e3.trans (e4.trans e6)) (SqT.of upd_same)⟩, upd_same, ?_, moveR_ok hok hi (List.mem_of_getElem? hr0), hle, fun H' b k hd' hb' => q H' b ((But.of E1).trans k) hd' hb'⟩
        have hrs' : Paired (RlAt K _) (rvs.eraseIdx i) (R.eraseIdx i) := paired_erase i (Paired.mapP hrs fun _ _ => same_rl E1)
        exact paired_app (paired_take j hrs') (.cons (same_rl (e4.trans e6) hrv2) (paired_drop j hrs'))
    · have hx2 : isIn x 0 ((R.length : Nat) - 1) = false := by simpa using hx
      rw [hx2]
      rcases h with ⟨hno, q⟩ | ⟨i, j, r, rfl, rfl, hi, hj, _⟩
      · exact iteT q
      · exact absurd (isIn_nat1 hi) hx
end
end K47
set_option maxHeartbeats 4000000
/-! ### Desk: undo, branch, asked -/
namespace K47
open PySem PySem.Spec PyProof.Rows L2
section
variable {P : Program} {w : World} {K : PySem.W.Frag} {mg : Str → Option Value} {base : Heap}
/-! #### undo -/
def sp_undo (K : PySem.W.Frag) : Sp := fun vs H Q E => ∃ (a p n : Addr) (fl : Nat) (m : Int) (Rs : List (List Rl)) (cs : List Ch), vs = [.ref a] ∧ DeskAt K H a p n fl m Rs cs ∧
  ((cs.length = fl ∧ E (.ref (He.ga K "NothingDone")) none H) ∨
   ∃ Rs' R cs' c, Rs = Rs' ++ [R] ∧ cs = cs' ++ [c] ∧ fl ≤ cs'.length ∧ ∀ H' v, But [p, n] H H' → DeskAt K H' a p n fl m Rs' cs' → ChAt K H' v c → Q v H')
abbrev N_undo : List Str := ["self"]
theorem sc_undo : FnScope N_undo ["self"] (defScope s_Desk_undo) := ⟨rfl, rfl, rfl, by decide +kernel, rfl, by decide +kernel, by decide +kernel⟩
theorem ok_undo (T : TX K mg) : FnR P w K mg base (L2.CX P w) 1 (He.ma K (cD K) "undo") (sp_undo K) := by
  refine frX T.fn_Desk_undo sc_undo (fun _ _ _ _ _ _ us hl => match us, hl with | [_], _ => rfl) (fun vs H Q E h => ?_) (fun cdv A outer s H vs Q E hr h => ?_)
  · obtain ⟨a, p, n, fl, m, Rs, cs, rfl, _⟩ := h
    rfl
  · obtain ⟨a, p, n, fl, m, Rs, cs, rfl, hd, h⟩ := h
    obtain ⟨x1, x2, x3, x4⟩ := T.exc_NothingDone
    refine ⟨_, pss_cons (ps_if (pt_cmpR op_eq (pe_callB call_len_seq (by rfl) T.free_len bb_len (pa_cons (SlX.pe_sl (pv 0)) pa_nil)) (SlX.pe_sl (pv 0)) (nomark _))
        (pss_one (ps_raise rfl (takes_of rfl rfl rfl rfl) (pmk_own PySem.F.excBase_ValueError x1 T.glo_NothingDone x2 (raises_own x3 x4) rfl))) pss_nil)
      (pss_cons (ps_expr (pe_bm0 PySem.F.plainAttrs_list PySem.F.slot_list_pop PySem.F.type_list_pop mt_pop (SlX.pe_sl (pv 0))))
      (pss_one (ps_ret (pe_bm0 PySem.F.plainAttrs_list PySem.F.slot_list_pop PySem.F.type_list_pop mt_pop (SlX.pe_sl (pv 0)))))), ?_⟩
    obtain ⟨da, s1⟩ := hd.slt
    obtain ⟨bs, hp, hb⟩ := id hd.past
    obtain ⟨ns, hn, hc⟩ := id hd.notes
    have ln := Paired.length hc
    have lb := Paired.length hb
    refine ⟨_, rfl, a, cD K, da, _, _, 1, _, rfl, s1, T.scls_Desk, T.sl_Desk_notes, rfl, n, ns, rfl, .inl (SqL.of hn), _, rfl, a, cD K, da, _, _, 0, _, rfl, s1, T.scls_Desk, T.sl_Desk_floor, rfl, rfl, _, rfl, ?_⟩
    rcases h with ⟨he, q⟩ | ⟨Rs', R, cs', c, rfl, rfl, hfl, q⟩
    · have e0 : decide (V.int ((ns.length : Nat) : Int) = V.int ((fl : Nat) : Int)) = true := by
        rw [ln, he]
        simp
      rw [e0]
      exact iteT q
    have e0 : decide (V.int ((ns.length : Nat) : Int) = V.int ((fl : Nat) : Int)) = false := decide_eq_false fun z => by
      injection z with z
      rw [List.length_append] at ln
      simp at ln
      omega
    rw [e0]
    obtain ⟨bs', bv, rfl, hb1, b, rfl, hb2⟩ := paired_last hb
    obtain ⟨ns', nv, rfl, hc1, hc2⟩ := paired_last hc
    refine iteF ⟨_, rfl, a, cD K, da, _, _, 2, _, rfl, s1, T.scls_Desk, T.sl_Desk_past, rfl, .inl ⟨rfl, _, SqL.of hp⟩, p, _, .ref b, rfl, rfl, hp, by simp, ?_⟩
    rw [List.dropLast_concat]
    have npn := hd.ne
    have K1 : Kp K H (upd H p (.lst bs')) := Kp.but (M := [p]) (ButN.of ((But.refl _ _).updM (by simp))) fun y hy => by
      rw [List.mem_singleton.mp hy]
      exact mut_lst hp
    have hn1 : upd H p (.lst bs') n = some (.lst (ns' ++ [nv])) := by
      rw [upd_ne npn.symm]
      exact hn
    have s2 : SlX.Slt (upd H p (.lst bs')) a (cD K) da [some (.int (fl : Nat)), some (.ref n), some (.ref p)] := by
      obtain ⟨dz, h1, h2⟩ := hd.ex
      rcases s1 with ⟨z, _⟩ | ⟨z1, z2⟩
      · rw [h1] at z
        unfold SlX.SlO at z
        cases z
      · refine .inr ⟨?_, K1.xd z2⟩
        rw [upd_ne (ne_of z1 hp (fun y => by unfold SlX.SlO at y; cases y))]
        exact z1
    refine ⟨_, rfl, a, cD K, da, _, _, 1, _, rfl, s2, T.scls_Desk, T.sl_Desk_notes, rfl, .inl ⟨rfl, _, SqL.of hn1⟩, n, _, nv, rfl, rfl, hn1, by simp, ?_⟩
    rw [List.dropLast_concat]
    have K2 : Kp K (upd H p (.lst bs')) (upd (upd H p (.lst bs')) n (.lst ns')) := Kp.but (M := [n]) (ButN.of ((But.refl _ _).updM (by simp))) fun y hy => by
      rw [List.mem_singleton.mp hy]
      exact mut_lst hn1
    have KT := K1.trans K2
    have BT : But [p, n] H (upd (upd H p (.lst bs')) n (.lst ns')) := ((But.refl _ _).updM (by simp)).updM (by simp)
    refine q _ nv BT ?_ (KT.ch hc2)
    obtain ⟨dz, h1, h2⟩ := hd.ex
    have hlen := hd.len
    refine ⟨⟨dz, ?_, KT.xd h2⟩, ⟨bs', ?_, Paired.mapP hb1 fun v R ⟨b, e1, e2⟩ => ⟨b, e1, KT.book e2⟩⟩, ⟨ns', upd_same, Paired.mapP hc1 fun v c => KT.ch⟩, fun R0 hR0 => hd.ok _ (List.mem_append_left _ hR0), ?_, hfl, npn⟩
    · exact BT _ _ h1 (fun z => by
        rcases List.mem_cons.mp z with z | z
        · rw [z, hp] at h1
          unfold SlX.SlO at h1
          cases h1
        · rw [List.mem_singleton.mp z, hn] at h1
          unfold SlX.SlO at h1
          cases h1)
    · rw [upd_ne npn, upd_same]
    · rw [List.length_append, List.length_append] at hlen
      simp at hlen
      omega
/-! #### branch -/
theorem same_of_but {M : List Addr} {H H' : Hp} (e : But M H H') (h : ∀ y ∈ M, H y = none) : Same H H' := fun b o q => e b o q fun z => by
  rw [h b z] at q
  cases q
def sp_branch (K : PySem.W.Frag) : Sp := fun vs H Q E => ∃ (a p n : Addr) (fl : Nat) (m : Int) (Rs : List (List Rl)) (R : List Rl) (cs : List Ch), vs = [.ref a] ∧ DeskAt K H a p n fl m (Rs ++ [R]) cs ∧
  ∀ H' x p' n', Same H H' → H x = none → H p' = none → H n' = none → DeskAt K H' x p' n' 0 m (Rs ++ [R]) cs → Q (.ref x) H'
abbrev N_branch : List Str := ["self", "late"]
theorem sc_branch : FnScope N_branch ["self"] (defScope s_Desk_branch) := ⟨rfl, rfl, rfl, by decide +kernel, rfl, by decide +kernel, by decide +kernel⟩
theorem slO_ne_lst {H : Hp} {a b C dx : Addr} {vs : List (Option V)} {xs : List V} (h1 : H a = some (SlX.SlO a C dx vs)) (h2 : H b = some (.lst xs)) : a ≠ b := ne_of h1 h2 (fun y => by unfold SlX.SlO at y; cases y)
theorem ok_branch (T : TX K mg) : FnR P w K mg base CX0 4 (He.ma K (cD K) "branch") (sp_branch K) := by
  refine fr0 T.fn_Desk_branch sc_branch (fun _ _ _ _ _ _ us hl => match us, hl with | [_], _ => rfl) (fun vs H Q E h => ?_) (fun cdv A outer s H vs Q E hr h => ?_)
  · obtain ⟨a, p, n, fl, m, Rs, R, cs, rfl, _⟩ := h
    rfl
  · obtain ⟨a, p, n, fl, m, Rs, R, cs, rfl, hd, q⟩ := h
    refine ⟨_, pss_cons (ps_set (i := 1) sc_branch.nd rfl (Or.inl rfl) (StX.pe_makeR T.mkr_Desk (ok_Desk_init T) hr (by rfl) T.glo_Desk pass0 (pa_cons (pe_now T (pv 0) (hr.mono (by decide))) pa_nil)))
      (pss_cons (SlX.ps_sl (pv 1) (pe_callTy call_list_of (by rfl) T.free_list bb_list (pa_cons (SlX.pe_sl (pv 0)) pa_nil)))
      (pss_cons (SlX.ps_sl (pv 1) (pe_callTy call_list_of (by rfl) T.free_list bb_list (pa_cons (SlX.pe_sl (pv 0)) pa_nil)))
      (pss_one (ps_ret (pv 1))))), ?_⟩
    obtain ⟨da, s1⟩ := hd.slt
    refine ⟨_, rfl, a, da, _, rfl, s1, a, p, n, fl, m, Rs, R, cs, rfl, hd, fun bn hbn => ?_⟩
    intro x dx hx hdx nx
    have e2 : Same H (upd (upd H dx (.own x)) x (.ins (cD K) dx [])) := same_upd (same_new hdx) hx
    refine ⟨x, dx, bn, m, R, rfl, upd_same, by rw [upd_ne nx, upd_same], same_book e2 hbn, hd.okL, fun H2 p0 n0 k2 hp0 hn0 hd2 => ⟨rfl, ?_⟩⟩
    have E1 : But [] H H2 := (But.of e2).step k2 fun y hy => .inr (by
      rcases List.mem_cons.mp hy with rfl | hy
      · exact hx
      · rw [List.mem_singleton.mp hy]
        exact hdx)
    have S1 : Same H H2 := fun b o h => E1 b o h (by simp)
    have hdA := hd.same S1
    obtain ⟨dA, sA⟩ := hdA.slt
    obtain ⟨bs, hp, hb⟩ := id hdA.past
    obtain ⟨ns, hn, hc⟩ := id hdA.notes
    refine ⟨_, rfl, a, cD K, dA, _, _, 2, _, rfl, sA, T.scls_Desk, T.sl_Desk_past, rfl, p, bs, rfl, .inl (SqL.of hp), fun p' hp' => ?_⟩
    obtain ⟨dxx, h1, h2⟩ := hd2.ex
    have ne : dxx ≠ x := ne_of h2 h1 (fun y => by unfold SlX.SlO at y; cases y)
    have npx : p' ≠ x := (ne_of_none h1 hp').symm
    have npd : p' ≠ dxx := (ne_of_none h2 hp').symm
    have e3 : Same H2 (upd H2 p' (.lst bs)) := same_new hp'
    refine ⟨_, rfl, x, cD K, dxx, _, _, 2, rfl, .inr ⟨e3 _ _ h1, e3 _ _ h2⟩, T.scls_Desk, T.sl_Desk_past, ?_⟩
    have S4 : Same H (SlX.slH (upd H2 p' (.lst bs)) x (cD K) dxx (SlX.putS 2 (.ref p') [some (.int ((0 : Nat) : Int)), some (.ref n0), some (.ref p0)])) :=
      same_of_but ((But.of (S1.trans e3)).step ((But.refl [x] _).slM (by simp) (.inr (e3 _ _ h2))) (fun y hy => .inl hy)) fun y hy => by rw [List.mem_singleton.mp hy]; exact hx
    have hdB := hd.same S4
    obtain ⟨dB, sB⟩ := hdB.slt
    obtain ⟨ns2, hn2, hc2⟩ := id hdB.notes
    refine ⟨_, rfl, a, cD K, dB, _, _, 1, _, rfl, sB, T.scls_Desk, T.sl_Desk_notes, rfl, n, ns2, rfl, .inl (SqL.of hn2), fun n' hn' => ?_⟩
    have h14 : SlX.slH (upd H2 p' (.lst bs)) x (cD K) dxx (SlX.putS 2 (.ref p') [some (.int ((0 : Nat) : Int)), some (.ref n0), some (.ref p0)]) x = some (SlX.SlO x (cD K) dxx [some (.int ((0 : Nat) : Int)), some (.ref n0), some (.ref p')]) := by
      unfold SlX.slH
      rw [upd_same]
      rfl
    have h24 : SlX.slH (upd H2 p' (.lst bs)) x (cD K) dxx (SlX.putS 2 (.ref p') [some (.int ((0 : Nat) : Int)), some (.ref n0), some (.ref p0)]) dxx = some (.xd []) := by
      unfold SlX.slH
      rw [upd_ne ne, upd_same]
    have hp4 : SlX.slH (upd H2 p' (.lst bs)) x (cD K) dxx (SlX.putS 2 (.ref p') [some (.int ((0 : Nat) : Int)), some (.ref n0), some (.ref p0)]) p' = some (.lst bs) := by
      rw [SlX.slH_ne npx npd, upd_same]
    generalize SlX.slH (upd H2 p' (.lst bs)) x (cD K) dxx (SlX.putS 2 (.ref p') [some (.int ((0 : Nat) : Int)), some (.ref n0), some (.ref p0)]) = H4 at *
    have e5 : Same H4 (upd H4 n' (.lst ns2)) := same_new hn'
    have nnx : n' ≠ x := (ne_of_none h14 hn').symm
    have nnd : n' ≠ dxx := (ne_of_none h24 hn').symm
    have nnp : n' ≠ p' := (ne_of_none hp4 hn').symm
    refine ⟨_, rfl, x, cD K, dxx, _, _, 1, rfl, .inr ⟨e5 _ _ h14, e5 _ _ h24⟩, T.scls_Desk, T.sl_Desk_notes, ?_⟩
    have S7 : Same H (SlX.slH (upd H4 n' (.lst ns2)) x (cD K) dxx (SlX.putS 1 (.ref n') [some (.int ((0 : Nat) : Int)), some (.ref n0), some (.ref p')])) :=
      same_of_but ((But.of (S4.trans e5)).step ((But.refl [x] _).slM (by simp) (.inr (e5 _ _ h24))) (fun y hy => .inl hy)) fun y hy => by rw [List.mem_singleton.mp hy]; exact hx
    refine ⟨_, rfl, q _ x p' n' S7 hx ?_ ?_ ?_⟩
    · exact same_gone S1 hp'
    · exact same_gone S4 hn'
    · have KT := Kp.same (K := K) S7
      have k2 : Kp K H4 (SlX.slH (upd H4 n' (.lst ns2)) x (cD K) dxx (SlX.putS 1 (.ref n') [some (.int ((0 : Nat) : Int)), some (.ref n0), some (.ref p')])) := Kp.but (M := [x]) (ButN.of ((But.of e5).trans ((But.refl [x] _).slM (by simp) (.inr (e5 _ _ h24))))) fun y hy => by
        rw [List.mem_singleton.mp hy]
        exact mut_slo (cD_ne T) h14
      obtain ⟨bs0, hp0', hb0⟩ := hd.past
      have hbs : bs0 = bs := by
        have z := S1 _ _ hp0'
        rw [hp] at z
        cases z
        rfl
      refine ⟨⟨dxx, ?_, ?_⟩, ⟨bs, ?_, hbs ▸ Paired.mapP hb0 fun v R ⟨b, e1, e2⟩ => ⟨b, e1, KT.book e2⟩⟩, ⟨ns2, ?_, Paired.mapP hc2 fun v c => k2.ch⟩, hd.ok, hd.len, Nat.zero_le _, nnp.symm⟩
      · unfold SlX.slH
        rw [upd_same]
        rfl
      · unfold SlX.slH
        rw [upd_ne ne, upd_same]
      · rw [SlX.slH_ne npx npd, upd_ne nnp.symm]
        exact hp4
      · rw [SlX.slH_ne nnx nnd, upd_same]
end
end K47
set_option maxHeartbeats 4000000
/-! ### Desk.asked; Trial -/
namespace K47
open PySem PySem.Spec PyProof.Rows L2
/-- the rule follows from the rules R -/
noncomputable def fol (r : Rl) (R : List Rl) : Bool := @decide (∃ c, IsCl R r.1 c ∧ within r.2 c = true) (Classical.propDecidable _)
theorem fol_eq {r : Rl} {R : List Rl} {c : List Int} (h : IsCl R r.1 c) : fol r R = within r.2 c := by
  unfold fol
  cases e : within r.2 c with
  | true => exact @decide_eq_true _ (Classical.propDecidable _) ⟨c, h, e⟩
  | false =>
    refine @decide_eq_false _ (Classical.propDecidable _) fun ⟨d, h1, h2⟩ => ?_
    rw [within_same (fun x => IsCl.same h1 h x), e] at h2
    cases h2
/-- the books from which the rule follows, ahead of i -/
noncomputable def dueI (r : Rl) (Rs : List (List Rl)) (i : Nat) : List Int := ((List.range i).filter fun k => fol r (Rs.getD k [])).map fun k : Nat => ((k : Nat) : Int)
noncomputable def due (r : Rl) (Rs : List (List Rl)) : List Int := dueI r Rs Rs.length
theorem dueI_succ {r : Rl} {Rs : List (List Rl)} {i : Nat} {R : List Rl} (h : Rs[i]? = some R) : dueI r Rs (i + 1) = if fol r R = true then dueI r Rs i ++ [(i : Int)] else dueI r Rs i := by
  unfold dueI
  rw [List.range_succ, List.filter_append, List.map_append]
  have e : Rs.getD i [] = R := by
    rw [List.getD_eq_getElem?_getD, h]
    rfl
  simp only [List.filter_cons, List.filter_nil, e]
  split <;> simp
theorem dueI_len (r : Rl) (Rs : List (List Rl)) (i : Nat) : (dueI r Rs i).length ≤ i := by
  unfold dueI
  rw [List.length_map]
  have := List.length_filter_le (fun k => fol r (Rs.getD k [])) (List.range i)
  rw [List.length_range] at this
  exact this
section
variable {P : Program} {w : World} {K : PySem.W.Frag} {mg : Str → Option Value} {base : Heap}
def sp_asked (K : PySem.W.Frag) : Sp := fun vs H Q E => ∃ (a p n : Addr) (fl : Nat) (m : Int) (Rs : List (List Rl)) (R : List Rl) (cs : List Ch) (rv : V), vs = [.ref a, rv] ∧ DeskAt K H a p n fl m (Rs ++ [R]) cs ∧ cs.length ≤ 4000 ∧
  ((OddR K H m rv ∧ ∀ H', Same H H' → E (.ref (He.ga K "BadRule")) none H') ∨
   ∃ r, RlAt K H rv r ∧ small r ∧ isRule m r = true ∧ ∀ H' l, Same H H' → H' l = some (.lst ((due r (Rs ++ [R])).map V.int)) → Q (.ref l) H')
abbrev N_asked : List Str := ["self", "rule", "found", "at", "book"]
theorem sc_asked : FnScope N_asked ["self", "rule"] (defScope s_Desk_asked) := ⟨rfl, rfl, rfl, by decide +kernel, rfl, by decide +kernel, by decide +kernel⟩
theorem ok_asked (T : TX K mg) : FnR P w K mg base (L2.CX P w) 5 (He.ma K (cD K) "asked") (sp_asked K) := by
  refine frX T.fn_Desk_asked sc_asked (fun _ _ _ _ _ _ us hl => match us, hl with | [_, _], _ => rfl) (fun vs H Q E h => ?_) (fun cdv A outer s H vs Q E hr h => ?_)
  · obtain ⟨a, p, n, fl, m, Rs, R, cs, rv, rfl, _⟩ := h
    rfl
  · obtain ⟨a, p, n, fl, m, Rs, R, cs, rv, rfl, hd, hle, h⟩ := h
    have nd := sc_asked.nd
    refine ⟨_, pss_cons (ps_expr (pe_g (ok_check_rule T) hr (by rfl) T.glo_check_rule (kp_of T.fn_check_rule) (passes_call (takes_of rfl rfl rfl rfl) (fun _ _ _ _ h => h)) (pa_cons (pe_now T (pv 0) (hr.mono (by decide))) (pa_cons (pv 1) pa_nil))))
      (pss_cons (ps_set (i := 2) nd rfl (Or.inl rfl) (pe_lst pa_nil))
      (pss_cons (ps_for (passes_of rfl) rfl (pi_enum (by rfl) T.free_enumerate (pa_cons (SlX.pe_sl (pv 0)) pa_nil)) (pg_pair (K := K) 3 4 nd)
          (pss_one (ps_if (pt_val (pe_g (ok_is_within T) hr (by rfl) T.glo_is_within (kp_of T.fn_is_within) pass0 (pa_cons (pe_ix ix_tup (pv 1) pe_int (fun _ _ => rfl)) (pa_cons (pe_g (ok_closure T) hr (by rfl) T.glo_closure (kp_of T.fn_closure) pass0
              (pa_cons (SlX.pe_sl (pv 4)) (pa_cons (pe_ix ix_tup (pv 1) pe_int (fun _ _ => rfl)) pa_nil))) pa_nil))))
            (pss_one (ps_expr (pe_bm PySem.F.plainAttrs_list PySem.F.slot_list_append PySem.F.type_list_append mt_append (pv 2) (pa_cons (pv 3) pa_nil)))) pss_nil)))
      (pss_one (ps_ret (pv 2))))), ?_⟩
    obtain ⟨da, s1⟩ := hd.slt
    refine ⟨_, rfl, a, da, _, rfl, s1, a, p, n, fl, m, Rs, R, cs, rfl, hd, fun b hb => ⟨_, rfl, b, m, R, rv, rfl, hb, ?_⟩⟩
    rcases h with ⟨ho, q⟩ | ⟨r, hr1, hr2, hr3, q⟩
    · exact .inr ⟨ho, q⟩
    refine .inl ⟨r, hr1, hr2, hr3, fun H1 e1 => ?_⟩
    refine ⟨by show 0 ≤ sizeLine; decide, fun l hl => ?_⟩
    have e2 := e1.trans (same_new (o := .lst []) hl)
    have hd2 := hd.same e2
    obtain ⟨d2, s2⟩ := hd2.slt
    obtain ⟨bs, hp, hbs⟩ := id hd2.past
    have lbs := Paired.length hbs
    have hlen := hd.len
    refine ⟨_, rfl, a, cD K, d2, _, _, 2, _, rfl, s2, T.scls_Desk, T.sl_Desk_past, rfl, p, bs, rfl, SqL.of hp, for_it (walk_enum (xs := bs))
      (fun i σ H' => ∃ p3 p4, σ = [some (.ref a), some rv, some (.ref l), p3, p4] ∧ Same H H' ∧ H' l = some (.lst ((dueI r (Rs ++ [R]) i).map V.int))) ⟨none, none, rfl, e2, by rw [upd_same]; rfl⟩ (fun i σ H' _ p => ?_) (fun i z σ H2 H3 hi pp y => ?_) (fun σ H2 pp => ?_)⟩
    · obtain ⟨_, _, _, e3, _⟩ := p
      have := hd.same e3
      obtain ⟨bs3, hp3, hb3⟩ := this.past
      obtain ⟨bs0, hp0, hb0⟩ := hd.past
      have z1 := e3 _ _ hp0
      have z2 := e2 _ _ hp0
      rw [hp] at z2
      cases z2
      exact SqL.of z1
    · obtain ⟨T', x0, y0, rfl, hT, rfl, hx, hy⟩ := y
      obtain ⟨p3, p4, rfl, e3, h3⟩ := pp
      cases (show some (V.int ((i : Nat) : Int)) = some x0 from hx)
      have hiR : i < (Rs ++ [R]).length := by omega
      obtain ⟨bs0, hp0, hb0⟩ := id hd.past
      have z2 := e2 _ _ hp0
      rw [hp] at z2
      cases z2
      obtain ⟨Ri, hRi, bi, rfl, hbi⟩ := paired_get hb0 hy
      have e4 : Same H (upd H2 T' (.tup [.int (i : Nat), .ref bi])) := same_upd e3 (same_gone e3 hT)
      obtain ⟨ra, rp, rq, rfl, t1, t2, t3⟩ := same_rl e4 hr1
      have hbi' := same_book e4 hbi
      obtain ⟨dy, rvv, sb, rls⟩ := hbi'.slt
      have okR : OkB m Ri := hd.ok _ (List.mem_of_getElem? hRi)
      refine ⟨T', _, rfl, SqT.of upd_same, rfl, _, _, rfl, _, _, rfl, rfl, ?_⟩
      refine ⟨_, rfl, ra, _, _, _, rfl, rfl, t1, atI_nat (j := 1) rfl, ?_⟩
      refine ⟨_, rfl, bi, cB K, dy, _, _, 1, _, rfl, sb, T.scls_Book, T.sl_Book_rules, rfl, _, rfl, ra, _, _, _, rfl, rfl, t1, atI_nat (j := 0) rfl, ?_⟩
      refine ⟨rvv, rp, Ri, m, r.1, rfl, rls, t2, okR.rs, (isRule_inR hr3).1, okR.hi, hr2.1, okR.small, fun H5 pc c e5 hpc hc hcl => ?_⟩
      refine ⟨rq, pc, r.2, c, rfl, same_tup e5 t3, .inl hpc, hr2.2, fun H6 e6 => ⟨_, rfl, ?_⟩⟩
      have e7 : Same H H6 := e4.trans (e5.trans e6)
      have h6 : H6 l = some (.lst ((dueI r (Rs ++ [R]) i).map V.int)) := by
        refine e6 _ _ (e5 _ _ ?_)
        rw [upd_ne (ne_of_none h3 hT)]
        exact h3
      rw [← fol_eq hc]
      by_cases hf : fol r Ri = true
      · rw [hf]
        refine iteT ⟨_, rfl, .inl ⟨rfl, _, SqL.of h6⟩, _, rfl, l, _, _, rfl, rfl, h6, ?_, _, _, rfl, ?_, ?_⟩
        · have := dueI_len r (Rs ++ [R]) i
          have : sizeLine = 16777216 := sizeLine_eq
          rw [List.length_map]
          have : (Rs ++ [R]).length ≤ 4001 := by omega
          omega
        · exact same_upd e7 (same_gone e1 hl)
        · rw [upd_same, dueI_succ hRi, if_pos hf, List.map_append]
          rfl
      · have hf2 : fol r Ri = false := by simpa using hf
        rw [hf2]
        refine iteF ⟨_, _, rfl, e7, ?_⟩
        rw [dueI_succ hRi, if_neg hf]
        exact h6
    · obtain ⟨p3, p4, rfl, e3, h3⟩ := pp
      refine ⟨_, rfl, q _ l e3 ?_⟩
      rw [h3, lbs]
      rfl
end
end K47
set_option maxHeartbeats 4000000
/-! ### Trial: __init__, __enter__, __exit__; Desk.trial -/
namespace K47
open PySem PySem.Spec PyProof.Rows L2
/-- a trial's instance: four slots -/
def TrAt (K : PySem.W.Frag) (H : Hp) (x : Addr) (a fl n p : V) : Prop := ∃ dx, H x = some (SlX.SlO x (cT K) dx [some a, some fl, some n, some p]) ∧ H dx = some (.xd [])
section
variable {P : Program} {w : World} {K : PySem.W.Frag} {mg : Str → Option Value} {base : Heap}
theorem cT_ne (T : TX K mg) : cT K ≠ cB K := fun z => by
  obtain ⟨f1, F1⟩ := T.fn_Book_init
  obtain ⟨f2, F2⟩ := T.fn_Trial_init
  rw [show He.ga K "Trial" = He.ga K "Book" from z] at F2
  obtain ⟨_, _, _, _, _, _, _, _, _, e1, l1, _⟩ := F1.ex
  obtain ⟨_, _, _, _, _, _, _, _, _, e2, l2, _⟩ := F2.ex
  rw [l1] at l2
  subst e1 e2
  simp only [PySem.W.fnOf, Option.some.injEq, Obj.mk.injEq, Data.func.injEq, FuncData.mk.injEq] at l2
  exact absurd l2.2.2.1.2.1 (by decide +kernel)
theorem cT_nD (T : TX K mg) : cT K ≠ cD K := fun z => by
  obtain ⟨f1, F1⟩ := T.fn_Desk_init
  obtain ⟨f2, F2⟩ := T.fn_Trial_init
  rw [show He.ga K "Trial" = He.ga K "Desk" from z] at F2
  obtain ⟨_, _, _, _, _, _, _, _, _, e1, l1, _⟩ := F1.ex
  obtain ⟨_, _, _, _, _, _, _, _, _, e2, l2, _⟩ := F2.ex
  rw [l1] at l2
  subst e1 e2
  simp only [PySem.W.fnOf, Option.some.injEq, Obj.mk.injEq, Data.func.injEq, FuncData.mk.injEq] at l2
  exact absurd l2.2.2.1.2.1 (by decide +kernel)
theorem slH_at {H : Hp} {x C dx : Addr} {vs : List (Option V)} : SlX.slH H x C dx vs x = some (SlX.SlO x C dx vs) := by
  unfold SlX.slH
  rw [upd_same]
theorem slH_dx {H : Hp} {x C dx : Addr} {vs : List (Option V)} (ne : dx ≠ x) : SlX.slH H x C dx vs dx = some (.xd []) := by
  unfold SlX.slH
  rw [upd_ne ne, upd_same]
theorem ne_slO {H : Hp} {x C dx : Addr} {vs : List (Option V)} (h1 : H x = some (SlX.SlO x C dx vs)) (h2 : H dx = some (.xd [])) : dx ≠ x := ne_of h2 h1 (fun y => by unfold SlX.SlO at y; cases y)
/-! #### __init__ -/
def sp_Trial_init (K : PySem.W.Frag) : Sp := fun vs H Q _ => ∃ (x dx a : Addr), vs = [.ref x, .ref a] ∧ H x = some (.ins (cT K) dx []) ∧ H dx = some (.own x) ∧ ∀ H' f1 f2 f3, But [x, dx] H H' → TrAt K H' x (.ref a) f1 f2 f3 → Q .non H'
abbrev N_Trial_init : List Str := ["self", "desk"]
theorem sc_Trial_init : FnScope N_Trial_init ["self", "desk"] (defScope s_Trial_init) := ⟨rfl, rfl, rfl, by decide +kernel, rfl, by decide +kernel, by decide +kernel⟩
theorem ok_Trial_init (T : TX K mg) : FnR P w K mg base CX0 1 (He.ma K (cT K) "__init__") (sp_Trial_init K) := by
  refine fr0 T.fn_Trial_init sc_Trial_init (fun _ _ _ _ _ _ us hl => match us, hl with | [_, _], _ => rfl) (fun vs H Q E h => ?_) (fun cdv A outer s H vs Q E hr h => ?_)
  · obtain ⟨x, dx, a, rfl, _⟩ := h
    rfl
  · obtain ⟨x, dx, a, rfl, hx, hdx, q⟩ := h
    have ne : dx ≠ x := ne_of hdx hx (by intro z; cases z)
    refine ⟨_, pss_cons (SlX.ps_sl (pv 0) (pv 1)) (pss_cons (SlX.ps_sl (pv 0) (pe_lst pa_nil)) (pss_cons (SlX.ps_sl (pv 0) (pe_lst pa_nil)) (pss_one (SlX.ps_sl (pv 0) pe_int)))), ?_⟩
    refine ⟨_, rfl, _, rfl, x, cT K, dx, _, _, 0, rfl, .inl ⟨hx, rfl⟩, T.scls_Trial, T.sl_Trial_desk, ?_⟩
    refine ⟨by show 0 ≤ sizeLine; decide, fun p hp => ?_⟩
    have npx : p ≠ x := fun z => by rw [z, slH_at] at hp; cases hp
    have npd : p ≠ dx := fun z => by rw [z, slH_dx ne] at hp; cases hp
    have e1 := same_new (o := .lst []) hp
    refine ⟨_, rfl, x, cT K, dx, _, _, 3, rfl, .inr ⟨e1 _ _ slH_at, e1 _ _ (slH_dx ne)⟩, T.scls_Trial, T.sl_Trial_past, ?_⟩
    refine ⟨by show 0 ≤ sizeLine; decide, fun n hn => ?_⟩
    have e2 := same_new (o := .lst []) hn
    refine ⟨_, rfl, x, cT K, dx, _, _, 2, rfl, .inr ⟨e2 _ _ slH_at, e2 _ _ (slH_dx ne)⟩, T.scls_Trial, T.sl_Trial_notes, ?_⟩
    refine ⟨_, rfl, x, cT K, dx, _, _, 1, rfl, .inr ⟨slH_at, slH_dx ne⟩, T.scls_Trial, T.sl_Trial_floor, ?_⟩
    refine q _ (.int 0) (.ref n) (.ref p) ?_ ⟨dx, slH_at, slH_dx ne⟩
    have b1 : But [x, dx] H _ := (But.refl [x, dx] H).slM (a := x) (C := cT K) (dx := dx) (vs := SlX.putS 0 (.ref a) []) (by simp) (.inl (by simp))
    exact (((b1.trans (But.of e1)).slM (by simp) (.inl (by simp))).trans (But.of e2)).slM (by simp) (.inl (by simp)) |>.slM (by simp) (.inl (by simp))
/-! #### Desk.trial -/
def sp_trial (K : PySem.W.Frag) : Sp := fun vs H Q _ => ∃ a, vs = [.ref a] ∧ ∀ H' x f1 f2 f3, Same H H' → H x = none → TrAt K H' x (.ref a) f1 f2 f3 → Q (.ref x) H'
abbrev N_trial : List Str := ["self"]
theorem sc_trial : FnScope N_trial ["self"] (defScope s_Desk_trial) := ⟨rfl, rfl, rfl, by decide +kernel, rfl, by decide +kernel, by decide +kernel⟩
theorem ok_trial (T : TX K mg) : FnR P w K mg base CX0 3 (He.ma K (cD K) "trial") (sp_trial K) := by
  refine fr0 T.fn_Desk_trial sc_trial (fun _ _ _ _ _ _ us hl => match us, hl with | [_], _ => rfl) (fun vs H Q E h => ?_) (fun cdv A outer s H vs Q E hr h => ?_)
  · obtain ⟨a, rfl, _⟩ := h
    rfl
  · obtain ⟨a, rfl, q⟩ := h
    refine ⟨_, pss_one (ps_ret (StX.pe_makeR T.mkr_Trial (ok_Trial_init T) hr (by rfl) T.glo_Trial pass0 (pa_cons (pv 0) pa_nil))), ?_⟩
    refine ⟨_, rfl, ?_⟩
    intro x dx hx hdx nx
    have e2 : Same H (upd (upd H dx (.own x)) x (.ins (cT K) dx [])) := same_upd (same_new hdx) hx
    refine ⟨x, dx, a, rfl, upd_same, by rw [upd_ne nx, upd_same], fun H2 f1 f2 f3 k2 ht => ⟨rfl, q H2 x f1 f2 f3 ?_ hx ht⟩⟩
    have E1 : But [] H H2 := (But.of e2).step k2 fun y hy => .inr (by
      rcases List.mem_cons.mp hy with rfl | hy
      · exact hx
      · rw [List.mem_singleton.mp hy]
        exact hdx)
    exact fun b o h => E1 b o h (by simp)
/-! #### __enter__ -/
/-- what the trial keeps: the lists' copies -/
structure Saved (K : PySem.W.Frag) (H : Hp) (x a pl nl : Addr) (fl : Nat) (m : Int) (Rs : List (List Rl)) (cs : List Ch) : Prop where
  tr : TrAt K H x (.ref a) (.int (fl : Nat)) (.ref nl) (.ref pl)
  past : ∃ bs, H pl = some (.lst bs) ∧ Paired (BkAt K H m) bs Rs
  notes : ∃ ns, H nl = some (.lst ns) ∧ Paired (ChAt K H) ns cs
  ne : pl ≠ nl
theorem Saved.keep {M : List Addr} {H H' : Hp} {x a pl nl : Addr} {fl : Nat} {m : Int} {Rs : List (List Rl)} {cs : List Ch} (h : Saved K H x a pl nl fl m Rs cs) (e : ButN M H H') (k : Kp K H H') (hx : x ∉ M) (hp : pl ∉ M) (hn : nl ∉ M) : Saved K H' x a pl nl fl m Rs cs := by
  obtain ⟨⟨dx, h1, h2⟩, ⟨bs, h3, h4⟩, ⟨ns, h5, h6⟩, h7⟩ := h
  exact ⟨⟨dx, e _ _ h1 hx slO_tbl, k.xd h2⟩, ⟨bs, e _ _ h3 hp (fun _ z => by cases z), Paired.mapP h4 fun v R ⟨b, e1, e2⟩ => ⟨b, e1, k.book e2⟩⟩, ⟨ns, e _ _ h5 hn (fun _ z => by cases z), Paired.mapP h6 fun v c => k.ch⟩, h7⟩
def sp_enter (K : PySem.W.Frag) : Sp := fun vs H Q _ => ∃ (x a p n : Addr) (fl : Nat) (m : Int) (Rs : List (List Rl)) (cs : List Ch) (f1 f2 f3 : V), vs = [.ref x] ∧ TrAt K H x (.ref a) f1 f2 f3 ∧ DeskAt K H a p n fl m Rs cs ∧
  ∀ H' pl nl, But [x, a] H H' → H pl = none → H nl = none → Saved K H' x a pl nl fl m Rs cs → DeskAt K H' a p n cs.length m Rs cs → Q (.ref a) H'
abbrev N_enter : List Str := ["self"]
theorem sc_enter : FnScope N_enter ["self"] (defScope s_Trial_enter) := ⟨rfl, rfl, rfl, by decide +kernel, rfl, by decide +kernel, by decide +kernel⟩
theorem ok_enter (T : TX K mg) : FnR P w K mg base CX0 1 (He.ma K (cT K) "__enter__") (sp_enter K) := by
  refine fr0 T.fn_Trial_enter sc_enter (fun _ _ _ _ _ _ us hl => match us, hl with | [_], _ => rfl) (fun vs H Q E h => ?_) (fun cdv A outer s H vs Q E hr h => ?_)
  · obtain ⟨x, a, p, n, fl, m, Rs, cs, f1, f2, f3, rfl, _⟩ := h
    rfl
  · obtain ⟨x, a, p, n, fl, m, Rs, cs, f1, f2, f3, rfl, ⟨dx, hx, hdx⟩, hd, q⟩ := h
    have ne := ne_slO hx hdx
    refine ⟨_, pss_cons (SlX.ps_sl (pv 0) (pe_callTy call_list_of (by rfl) T.free_list bb_list (pa_cons (SlX.pe_sl (SlX.pe_sl (pv 0))) pa_nil)))
      (pss_cons (SlX.ps_sl (pv 0) (pe_callTy call_list_of (by rfl) T.free_list bb_list (pa_cons (SlX.pe_sl (SlX.pe_sl (pv 0))) pa_nil)))
      (pss_cons (SlX.ps_sl (pv 0) (SlX.pe_sl (SlX.pe_sl (pv 0))))
      (pss_cons (SlX.ps_sl (SlX.pe_sl (pv 0)) (pe_callB call_len_seq (by rfl) T.free_len bb_len (pa_cons (SlX.pe_sl (pv 0)) pa_nil)))
      (pss_one (ps_ret (SlX.pe_sl (pv 0))))))), ?_⟩
    obtain ⟨da, h1, h2⟩ := hd.ex
    obtain ⟨bs, hp, hb⟩ := id hd.past
    obtain ⟨ns, hn, hc⟩ := id hd.notes
    have nxa : x ≠ a := fun z => by
      rw [z] at hx
      rw [hx] at h1
      exact cT_nD T (slO_inj (Option.some.inj h1))
    have nda : da ≠ a := ne_slO h1 h2
    refine ⟨_, rfl, x, cT K, dx, _, _, 0, _, rfl, .inr ⟨hx, hdx⟩, T.scls_Trial, T.sl_Trial_desk, rfl, a, cD K, da, _, _, 2, _, rfl, .inr ⟨h1, h2⟩, T.scls_Desk, T.sl_Desk_past, rfl, p, bs, rfl, .inl (SqL.of hp), fun pl hpl => ?_⟩
    have e1 := same_new (o := .lst bs) hpl
    refine ⟨_, rfl, x, cT K, dx, _, _, 3, rfl, .inr ⟨e1 _ _ hx, e1 _ _ hdx⟩, T.scls_Trial, T.sl_Trial_past, ?_⟩
    have B2 : But [x] H (SlX.slH (upd H pl (.lst bs)) x (cT K) dx (SlX.putS 3 (.ref pl) [some (.ref a), some f1, some f2, some f3])) := (But.of e1).slM (by simp) (.inr (e1 _ _ hdx))
    have g1 : SlX.slH (upd H pl (.lst bs)) x (cT K) dx (SlX.putS 3 (.ref pl) [some (.ref a), some f1, some f2, some f3]) x = some (SlX.SlO x (cT K) dx [some (.ref a), some f1, some f2, some (.ref pl)]) := slH_at
    have g2 : SlX.slH (upd H pl (.lst bs)) x (cT K) dx (SlX.putS 3 (.ref pl) [some (.ref a), some f1, some f2, some f3]) dx = some (.xd []) := slH_dx ne
    have nplx : pl ≠ x := (ne_of_none hx hpl).symm
    have npld : pl ≠ dx := (ne_of_none hdx hpl).symm
    have g3 : SlX.slH (upd H pl (.lst bs)) x (cT K) dx (SlX.putS 3 (.ref pl) [some (.ref a), some f1, some f2, some f3]) pl = some (.lst bs) := by rw [SlX.slH_ne nplx npld, upd_same]
    generalize SlX.slH (upd H pl (.lst bs)) x (cT K) dx (SlX.putS 3 (.ref pl) [some (.ref a), some f1, some f2, some f3]) = H2 at *
    have nx1 : ∀ {y : Addr} {o : HO}, H y = some o → y ≠ x → H2 y = some o := fun h hy => B2 _ _ h (by simpa using hy)
    have nda_x : da ≠ x := fun z => by
      rw [z, hx] at h2
      injection h2 with h2
      unfold SlX.SlO at h2
      cases h2
    have k1 := nx1 h1 nxa.symm
    have k2 := nx1 h2 nda_x
    have nnx : n ≠ x := (slO_ne_lst hx hn).symm
    have npx : p ≠ x := (slO_ne_lst hx hp).symm
    refine ⟨_, rfl, x, cT K, dx, _, _, 0, _, rfl, .inr ⟨g1, g2⟩, T.scls_Trial, T.sl_Trial_desk, rfl, a, cD K, da, _, _, 1, _, rfl, .inr ⟨k1, k2⟩, T.scls_Desk, T.sl_Desk_notes, rfl, n, ns, rfl, .inl (SqL.of (nx1 hn nnx)), fun nl hnl => ?_⟩
    have e3 := same_new (o := .lst ns) hnl
    refine ⟨_, rfl, x, cT K, dx, _, _, 2, rfl, .inr ⟨e3 _ _ g1, e3 _ _ g2⟩, T.scls_Trial, T.sl_Trial_notes, ?_⟩
    have nnlx : nl ≠ x := (ne_of_none g1 hnl).symm
    have nnld : nl ≠ dx := (ne_of_none g2 hnl).symm
    have npn : pl ≠ nl := ne_of_none g3 hnl
    have hnl0 : H nl = none := by
      cases z : H nl with
      | none => rfl
      | some o =>
        rw [nx1 z nnlx] at hnl
        cases hnl
    have B4 : But [x] H (SlX.slH (upd H2 nl (.lst ns)) x (cT K) dx (SlX.putS 2 (.ref nl) [some (.ref a), some f1, some f2, some (.ref pl)])) := (B2.trans (But.of e3)).slM (by simp) (.inr (e3 _ _ g2))
    have j1 : SlX.slH (upd H2 nl (.lst ns)) x (cT K) dx (SlX.putS 2 (.ref nl) [some (.ref a), some f1, some f2, some (.ref pl)]) x = some (SlX.SlO x (cT K) dx [some (.ref a), some f1, some (.ref nl), some (.ref pl)]) := slH_at
    have j2 : SlX.slH (upd H2 nl (.lst ns)) x (cT K) dx (SlX.putS 2 (.ref nl) [some (.ref a), some f1, some f2, some (.ref pl)]) dx = some (.xd []) := slH_dx ne
    have j3 : SlX.slH (upd H2 nl (.lst ns)) x (cT K) dx (SlX.putS 2 (.ref nl) [some (.ref a), some f1, some f2, some (.ref pl)]) pl = some (.lst bs) := by rw [SlX.slH_ne nplx npld, upd_ne npn]; exact g3
    have j4 : SlX.slH (upd H2 nl (.lst ns)) x (cT K) dx (SlX.putS 2 (.ref nl) [some (.ref a), some f1, some f2, some (.ref pl)]) nl = some (.lst ns) := by rw [SlX.slH_ne nnlx nnld, upd_same]
    generalize SlX.slH (upd H2 nl (.lst ns)) x (cT K) dx (SlX.putS 2 (.ref nl) [some (.ref a), some f1, some f2, some (.ref pl)]) = H4 at *
    have nx2 : ∀ {y : Addr} {o : HO}, H y = some o → y ≠ x → H4 y = some o := fun h hy => B4 _ _ h (by simpa using hy)
    refine ⟨_, rfl, x, cT K, dx, _, _, 0, _, rfl, .inr ⟨j1, j2⟩, T.scls_Trial, T.sl_Trial_desk, rfl, a, cD K, da, _, _, 0, _, rfl, .inr ⟨nx2 h1 nxa.symm, nx2 h2 nda_x⟩, T.scls_Desk, T.sl_Desk_floor, rfl, ?_⟩
    refine ⟨_, rfl, x, cT K, dx, _, _, 1, rfl, .inr ⟨j1, j2⟩, T.scls_Trial, T.sl_Trial_floor, ?_⟩
    have B5 : But [x] H (SlX.slH H4 x (cT K) dx (SlX.putS 1 (.int (fl : Nat)) [some (.ref a), some f1, some (.ref nl), some (.ref pl)])) := B4.slM (by simp) (.inr j2)
    have l1 : SlX.slH H4 x (cT K) dx (SlX.putS 1 (.int (fl : Nat)) [some (.ref a), some f1, some (.ref nl), some (.ref pl)]) x = some (SlX.SlO x (cT K) dx [some (.ref a), some (.int (fl : Nat)), some (.ref nl), some (.ref pl)]) := slH_at
    have l2 : SlX.slH H4 x (cT K) dx (SlX.putS 1 (.int (fl : Nat)) [some (.ref a), some f1, some (.ref nl), some (.ref pl)]) dx = some (.xd []) := slH_dx ne
    have l3 : SlX.slH H4 x (cT K) dx (SlX.putS 1 (.int (fl : Nat)) [some (.ref a), some f1, some (.ref nl), some (.ref pl)]) pl = some (.lst bs) := by rw [SlX.slH_ne nplx npld]; exact j3
    have l4 : SlX.slH H4 x (cT K) dx (SlX.putS 1 (.int (fl : Nat)) [some (.ref a), some f1, some (.ref nl), some (.ref pl)]) nl = some (.lst ns) := by rw [SlX.slH_ne nnlx nnld]; exact j4
    generalize SlX.slH H4 x (cT K) dx (SlX.putS 1 (.int (fl : Nat)) [some (.ref a), some f1, some (.ref nl), some (.ref pl)]) = H5 at *
    have nx3 : ∀ {y : Addr} {o : HO}, H y = some o → y ≠ x → H5 y = some o := fun h hy => B5 _ _ h (by simpa using hy)
    have a1 := nx3 h1 nxa.symm
    have a2 := nx3 h2 nda_x
    refine ⟨_, rfl, x, cT K, dx, _, _, 2, _, rfl, .inr ⟨l1, l2⟩, T.scls_Trial, T.sl_Trial_notes, rfl, nl, ns, rfl, .inl (SqL.of l4), ?_⟩
    refine ⟨_, rfl, x, cT K, dx, _, _, 0, _, rfl, .inr ⟨l1, l2⟩, T.scls_Trial, T.sl_Trial_desk, rfl, a, cD K, da, _, _, 0, rfl, .inr ⟨a1, a2⟩, T.scls_Desk, T.sl_Desk_floor, ?_⟩
    have B6 : But [x, a] H (SlX.slH H5 a (cD K) da (SlX.putS 0 (.int (ns.length : Nat)) [some (.int (fl : Nat)), some (.ref n), some (.ref p)])) := (B5.mono (by simp)).slM (by simp) (.inr a2)
    have B7 : But [a] H5 (SlX.slH H5 a (cD K) da (SlX.putS 0 (.int (ns.length : Nat)) [some (.int (fl : Nat)), some (.ref n), some (.ref p)])) := (But.refl _ _).slM (by simp) (.inr a2)
    have m1 : SlX.slH H5 a (cD K) da (SlX.putS 0 (.int (ns.length : Nat)) [some (.int (fl : Nat)), some (.ref n), some (.ref p)]) a = some (SlX.SlO a (cD K) da [some (.int (ns.length : Nat)), some (.ref n), some (.ref p)]) := slH_at
    have m2 : SlX.slH H5 a (cD K) da (SlX.putS 0 (.int (ns.length : Nat)) [some (.int (fl : Nat)), some (.ref n), some (.ref p)]) da = some (.xd []) := slH_dx nda
    generalize SlX.slH H5 a (cD K) da (SlX.putS 0 (.int (ns.length : Nat)) [some (.int (fl : Nat)), some (.ref n), some (.ref p)]) = H6 at *
    have nx4 : ∀ {y : Addr} {o : HO}, H5 y = some o → y ≠ a → H6 y = some o := fun h hy => B7 _ _ h (by simpa using hy)
    have r1 := nx4 l1 nxa
    have r2 : H6 dx = some (.xd []) := nx4 l2 (fun z => by
      rw [z, a1] at l2
      injection l2 with l2
      unfold SlX.SlO at l2
      cases l2)
    have KT : Kp K H H6 := Kp.but (ButN.of B6) fun y hy => by
      rcases List.mem_cons.mp hy with rfl | hy
      · exact mut_slo (cT_ne T) hx
      · rw [List.mem_singleton.mp hy]
        exact mut_slo (cD_ne T) h1
    have nap : p ≠ a := (slO_ne_lst h1 hp).symm
    have nan : n ≠ a := (slO_ne_lst h1 hn).symm
    have lns := Paired.length hc
    refine ⟨_, rfl, x, cT K, dx, _, _, 0, _, rfl, .inr ⟨r1, r2⟩, T.scls_Trial, T.sl_Trial_desk, rfl, ?_⟩
    refine q H6 pl nl B6 hpl hnl0 ⟨⟨dx, r1, r2⟩, ⟨bs, nx4 l3 (slO_ne_lst a1 l3).symm, Paired.mapP hb fun v R ⟨b, e1, e2⟩ => ⟨b, e1, KT.book e2⟩⟩, ⟨ns, nx4 l4 (slO_ne_lst a1 l4).symm, Paired.mapP hc fun v c => KT.ch⟩, npn⟩ ?_
    rw [lns] at m1
    exact ⟨⟨da, m1, m2⟩, ⟨bs, nx4 (nx3 hp npx) nap, Paired.mapP hb fun v R ⟨b, e1, e2⟩ => ⟨b, e1, KT.book e2⟩⟩, ⟨ns, nx4 (nx3 hn nnx) nan, Paired.mapP hc fun v c => KT.ch⟩, hd.ok, hd.len, Nat.le_refl _, hd.ne⟩
end
end K47
set_option maxHeartbeats 4000000
/-! ### with, whose body may raise -/
namespace K47
section
open PySem PySem.W PySem.Calls PyProof.Rows
variable {prog : Program} {w : World} {A : Around} {E : Value → Shared → Prop} {s : Shared} {env : Env} {K : PySem.W.Frag} {x C fe fx : Addr} {ox : Obj} {od : Option Obj} {pos : Pos}
/-- what is asked where the body raised: the exit is called, and says no -/
def ExitX (prog : Program) (w : World) (A : Around) (E : Value → Shared → Prop) (env : Env) (x fx : Addr) (Q : Flow → Shared → Prop) (e : Value) (s : Shared) : Prop :=
  wpAny (model prog w) A (noteFrame e env) (fun _ s1 => wpAny (model prog w) A (setFlight e none) (fun _ s2 => wpAny (model prog w) A (typeOf e) (fun c s3 => wpAny (model prog w) A (tracebackOf e) (fun t s4 =>
    wpAny (model prog w) A (run (.call (.ref fx) ⟨[.ref x, c, e, t], []⟩) (some e)) (fun f s5 => f = .ret (.bool false) ∧ wpAny (model prog w) A (passOn "with" e env : Sem Flow) Q E s5) E s4) E s3) E s2) E s1) E s
theorem with_core {b : Value → Sem Unit} {bdy : Sem Flow} {Q : Flow → Shared → Prop} (X : K.In s.heap) (I : InstAt s.heap x ox C od) (he : findIn K (.ref C) "__enter__" = some (some (.ref fe))) (hfe : isFn K (.ref fe) = true) (hx : findIn K (.ref C) "__exit__" = some (some (.ref fx))) (hfx : isFn K (.ref fx) = true)
    (h : wpAny (model prog w) A (call (.ref fe) [.ref x]) (fun v s₂ => wpAny (model prog w) A (b v >>= fun _ => bdy) (fun f s₄ => wpAny (model prog w) A (call (.ref fx) [.ref x, .none, .none, .none]) (fun _ s₅ => Q f s₅) E s₄) (fun e s₄ => ExitX prog w A E env x fx Q e s₄) s₂) E s) :
    wpAny (model prog w) A (withItem false pos env (pure (.ref x)) (some b) bdy) Q E s := by
  obtain ⟨cd, hcd, ae⟩ := kw_along he
  obtain ⟨cd', hcd', ax⟩ := kw_along hx
  obtain rfl : cd = cd' := Option.some.inj (hcd.symm.trans hcd')
  obtain ⟨h1, h2, h3, h4, h5⟩ := s
  have l1 : Looks (model prog w) h1 (specialOnItsLine (.ref x) "__enter__") (some (.ref fe), cd.mro) := kw_special X I hcd ae
  have l2 : Looks (model prog w) h1 (specialOnItsLine (.ref x) "__exit__") (some (.ref fx), cd.mro) := kw_special X I hcd ax
  have l3 : Looks (model prog w) h1 (bindSpecial (.ref fe) (.ref x)) (.ref fe, [.ref x]) := bind_fn X _ (beq_iff_eq.mp hfe)
  have l4 : Looks (model prog w) h1 (bindSpecial (.ref fx) (.ref x)) (.ref fx, [.ref x]) := bind_fn X _ (beq_iff_eq.mp hfx)
  have l5 : Looks (model prog w) h1 (aMethodOfAnotherBuiltinTypeStops (.ref fe) cd.mro) () := Looks.of_pure rfl
  have l6 : Looks (model prog w) h1 (aMethodOfAnotherBuiltinTypeStops (.ref fx) cd.mro) () := Looks.of_pure rfl
  unfold withItem
  refine wpAny_bind (wpAny_pure (wpAny_bind (wpAny_standAt ?_)))
  simp only [Bool.false_eq_true, if_false]
  kw_lk
  refine wpAny_mono h (fun v s₂ q => ?_) fun _ _ z => z
  kw_lk
  refine wpAny_attempt (kw_held ?_)
  show wpAny _ _ (b v >>= fun _ => bdy) _ _ _
  refine wpAny_mono q (fun f s₄ q1 => ?_) (fun e s₄ q1 => ?_)
  · kw_lk
    refine wpAny_mono q1 (fun _ s₅ q2 => ?_) fun _ _ z => z
    kw_lk
    exact q2
  · refine wpAny_bind (wpAny_mono q1 (fun _ s5 q2 => ?_) fun _ _ z => z)
    refine wpAny_bind (wpAny_mono q2 (fun _ s6 q3 => ?_) fun _ _ z => z)
    refine wpAny_bind (wpAny_standAt (wpAny_holding ?_))
    refine wpAny_bind (wpAny_mono q3 (fun c s7 q4 => ?_) fun _ _ z => z)
    refine wpAny_bind (wpAny_mono q4 (fun t s8 q5 => ?_) fun _ _ z => z)
    unfold withItem.marked
    refine wpAny_bind (wpAny_bind (wpAny_mono q5 (fun f s9 q6 => ?_) fun _ _ z => z))
    obtain ⟨rfl, q7⟩ := q6
    refine wpAny_pure ?_
    refine wpAny_bind (wpAny_pure ?_)
    refine wpAny_bind (wpAny_pure ?_)
    simp only [Bool.false_eq_true, if_false]
    exact q7
end
end K47
set_option maxHeartbeats 4000000
/-! ### Trial.__exit__ -/
namespace K47
open PySem PySem.Spec PyProof.Rows L2 L2H
/-- a def run while an exception is handled: no calm is asked -/
theorem run_pin {CX : CXT} {P : Program} {w : World} {K : PySem.W.Frag} {mg : Str → Option Value} {base : Heap} {k : Nat} {f : Addr} {name qual : Str} {params : Arguments} {body : List Stmt} {scope : Scope} {dV kV doc pm cdv ct oc : Value} {an od : Option Addr} {osl : Array (Option Value)} {N ps : List Str}
    (lk : K.lookup f = some ⟨oc, od, .func (PySem.W.fnOf name qual params body scope dV kV doc pm an cdv ct), osl⟩) (hcd : PySem.W.codeIn K cdv qual = true) (S : FnScope N ps scope) {A : Around} {outer : List Env} {s : Shared} {H : Hp} {us : List Value} {vs : List V} {Q : VK} {E : XK} {p : Addr × Obj}
    (hr : RoomH (k + 1) A) (hpin : PinOk outer H s p) (e0 : Env0 P w K mg base A outer s H) (hb : BindsTo s (PySem.W.fnOf name qual params body scope dV kV doc pm an cdv ct) ⟨us, []⟩ (ps.zip us)) (r : Vals vs us) (hl : vs.length = ps.length)
    (hbody : ∃ t, PSs (cxH CX P w K mg base N qual scope f cdv A outer s H E p) body t ∧ t { nx := fun _ H' => Q .non H', rt := Q } (L2.start N vs) H) :
    codeAny (model P w) A (.call (.ref f) ⟨us, []⟩) (CR CX outer P w H s Q E) s := by
  have stay : ∀ b o, base.get? b = some o → s.heap.get? b = some o := fun b o e => (e0.bs b o e).1
  have kinds : ∀ y ∈ ps.zip us, scope.names.lookup y.1 = some .local ∨ (scope.names.lookup y.1 = some .cell ∧ ((cellsFrom (s.heap.objs.size + 1) scope.names []).lookup y.1).isSome = true) := by
    rintro ⟨n, v⟩ hy
    exact (S.par n (List.of_mem_zip hy).1).imp id fun q => ⟨q, PySem.W.cellsFrom_some _ _ _ (.inl q)⟩
  refine codeAny_call_function hr.depth (e0.mod.kin.keeps stay _ _ lk) rfl S.co S.gen rfl (PySem.W.codeRec_of (e0.mod.kin.keeps stay) hcd) (hb _ _ _ _ (wpAny_newFunctionEnv_cells S.kind kinds fun env he s1 x => ?_))
  subst he
  refine ⟨(e0.mod.nolimit.keeps stay).keeps x.toInCall.keep, codeAny_func ?_⟩
  obtain ⟨t, ht, hq⟩ := hbody
  refine wpAny_mono (ht.run [] s1 (L2.start N vs) H _ (inv_startH S hpin e0 hl r x) hq) (fun fl s' hs => ?_) fun e s' hs => hs
  cases fl with
  | ret u =>
    obtain ⟨v, σ', H', J, rv, q⟩ := hs
    exact ⟨v, H', J.os, J.bare, J.base, J.hok, rv, q⟩
  | next =>
    obtain ⟨σ', H', J, q⟩ := hs
    exact ⟨.non, H', J.os, J.bare, J.base, J.hok, rfl, q⟩
  | brk =>
    obtain ⟨_, _, _, q⟩ := hs
    exact q.elim
  | cont =>
    obtain ⟨_, _, _, q⟩ := hs
    exact q.elim
section
variable {P : Program} {w : World} {K : PySem.W.Frag} {mg : Str → Option Value} {base : Heap}
def sp_exit (K : PySem.W.Frag) : Sp := fun vs H Q _ => ∃ (x a pl nl : Addr) (fl : Nat) (m : Int) (Rs : List (List Rl)) (cs : List Ch) (v1 v2 v3 : V) (dd : Addr) (w1 w2 w3 : V), vs = [.ref x, v1, v2, v3] ∧ Saved K H x a pl nl fl m Rs cs ∧
  H a = some (SlX.SlO a (cD K) dd [some w1, some w2, some w3]) ∧ H dd = some (.xd []) ∧ (∀ R ∈ Rs, OkB m R) ∧ Rs.length = cs.length + 1 ∧ fl ≤ cs.length ∧ ∀ H', But [a] H H' → DeskAt K H' a pl nl fl m Rs cs → Q (.bl false) H'
abbrev N_exit : List Str := ["self", "kind", "error", "trace"]
theorem sc_exit : FnScope N_exit ["self", "kind", "error", "trace"] (defScope s_Trial_exit) := ⟨rfl, rfl, rfl, by decide +kernel, rfl, by decide +kernel, by decide +kernel⟩
/-- the reading of __exit__'s body -/
def tExit (K : PySem.W.Frag) : TS := tSeq (SlX.sSl K (SlX.tSl K (tVar 0) "desk") (SlX.tSl K (tVar 0) "past") "past") (tSeq (SlX.sSl K (SlX.tSl K (tVar 0) "desk") (SlX.tSl K (tVar 0) "notes") "notes") (tSeq (SlX.sSl K (SlX.tSl K (tVar 0) "desk") (SlX.tSl K (tVar 0) "floor") "floor") (tRet (tC (.bl false)))))
theorem exit_reads (T : TX K mg) {vs : List V} {H : Hp} {Q : VK} {E : XK} (h : sp_exit K vs H Q E) : tExit K { nx := fun _ H' => Q .non H', rt := Q } (L2.start N_exit vs) H := by
  obtain ⟨x, a, pl, nl, fl, m, Rs, cs, v1, v2, v3, dd, w1, w2, w3, rfl, sv, ha, hdd, h1, h2, h3, q⟩ := h
  obtain ⟨⟨dx, hx, hdx⟩, ⟨bs, hp, hb⟩, ⟨ns, hn, hc⟩, npn⟩ := sv
  have ne := ne_slO ha hdd
  have nxa : x ≠ a := fun z => by
    rw [z] at hx
    rw [hx] at ha
    exact cT_nD T (slO_inj (Option.some.inj ha))
  have ndx : dx ≠ a := fun z => by
    rw [z, ha] at hdx
    injection hdx with hdx
    unfold SlX.SlO at hdx
    cases hdx
  have tr : ∀ {H1 : Hp}, But [a] H H1 → H1 x = some (SlX.SlO x (cT K) dx [some (.ref a), some (.int (fl : Nat)), some (.ref nl), some (.ref pl)]) ∧ H1 dx = some (.xd []) := fun e => ⟨e _ _ hx (by simpa using nxa), e _ _ hdx (by simpa using ndx)⟩
  refine ⟨_, rfl, x, cT K, dx, _, _, 3, _, rfl, .inr ⟨hx, hdx⟩, T.scls_Trial, T.sl_Trial_past, rfl, _, rfl, x, cT K, dx, _, _, 0, _, rfl, .inr ⟨hx, hdx⟩, T.scls_Trial, T.sl_Trial_desk, rfl, a, cD K, dd, _, _, 2, rfl, .inr ⟨ha, hdd⟩, T.scls_Desk, T.sl_Desk_past, ?_⟩
  have b1 : But [a] H (SlX.slH H a (cD K) dd (SlX.putS 2 (.ref pl) [some w1, some w2, some w3])) := (But.refl _ _).slM (by simp) (.inr hdd)
  obtain ⟨t1, t2⟩ := tr b1
  refine ⟨_, rfl, x, cT K, dx, _, _, 2, _, rfl, .inr ⟨t1, t2⟩, T.scls_Trial, T.sl_Trial_notes, rfl, _, rfl, x, cT K, dx, _, _, 0, _, rfl, .inr ⟨t1, t2⟩, T.scls_Trial, T.sl_Trial_desk, rfl, a, cD K, dd, _, _, 1, rfl, .inr ⟨slH_at, slH_dx ne⟩, T.scls_Desk, T.sl_Desk_notes, ?_⟩
  rw [SlX.slH_twice ne]
  have b2 : But [a] H (SlX.slH H a (cD K) dd (SlX.putS 1 (.ref nl) (SlX.putS 2 (.ref pl) [some w1, some w2, some w3]))) := (But.refl _ _).slM (by simp) (.inr hdd)
  obtain ⟨t3, t4⟩ := tr b2
  refine ⟨_, rfl, x, cT K, dx, _, _, 1, _, rfl, .inr ⟨t3, t4⟩, T.scls_Trial, T.sl_Trial_floor, rfl, _, rfl, x, cT K, dx, _, _, 0, _, rfl, .inr ⟨t3, t4⟩, T.scls_Trial, T.sl_Trial_desk, rfl, a, cD K, dd, _, _, 0, rfl, .inr ⟨slH_at, slH_dx ne⟩, T.scls_Desk, T.sl_Desk_floor, ?_⟩
  rw [SlX.slH_twice ne]
  have b3 : But [a] H (SlX.slH H a (cD K) dd (SlX.putS 0 (.int (fl : Nat)) (SlX.putS 1 (.ref nl) (SlX.putS 2 (.ref pl) [some w1, some w2, some w3])))) := (But.refl _ _).slM (by simp) (.inr hdd)
  have KT : Kp K H _ := Kp.but (ButN.of b3) fun y hy => by
    rw [List.mem_singleton.mp hy]
    exact mut_slo (cD_ne T) ha
  exact q _ b3 ⟨⟨dd, slH_at, slH_dx ne⟩, ⟨bs, b3 _ _ hp (by simpa using (slO_ne_lst ha hp).symm), Paired.mapP hb fun v R ⟨b, e1, e2⟩ => ⟨b, e1, KT.book e2⟩⟩, ⟨ns, b3 _ _ hn (by simpa using (slO_ne_lst ha hn).symm), Paired.mapP hc fun v c => KT.ch⟩, h1, h2, h3, npn⟩
theorem ok_exit (T : TX K mg) : FnR P w K mg base CX0 1 (He.ma K (cT K) "__exit__") (sp_exit K) := by
  refine fr0 T.fn_Trial_exit sc_exit (fun _ _ _ _ _ _ us hl => match us, hl with | [_, _, _, _], _ => rfl) (fun vs H Q E h => ?_) (fun cdv A outer s H vs Q E hr h => ?_)
  · obtain ⟨x, a, pl, nl, fl, m, Rs, cs, v1, v2, v3, dd, w1, w2, w3, rfl, _⟩ := h
    rfl
  · exact ⟨tExit K, pss_cons (SlX.ps_sl (SlX.pe_sl (pv 0)) (SlX.pe_sl (pv 0))) (pss_cons (SlX.ps_sl (SlX.pe_sl (pv 0)) (SlX.pe_sl (pv 0))) (pss_cons (SlX.ps_sl (SlX.pe_sl (pv 0)) (SlX.pe_sl (pv 0))) (pss_one (ps_ret pe_bl)))), exit_reads T h⟩
/-- the same while an exception is handled -/
theorem exit_pin (T : TX K mg) {A : Around} {outer : List Env} {s : Shared} {H : Hp} {us : List Value} {vs : List V} {Q : VK} {E : XK} {p : Addr × Obj} (hr : RoomH 1 A) (hpin : PinOk outer H s p) (e0 : Env0 P w K mg base A outer s H) (r : Vals vs us) (h : sp_exit K vs H Q E) :
    codeAny (model P w) A (.call (.ref (He.ma K (cT K) "__exit__")) ⟨us, []⟩) (CR CX0 outer P w H s Q E) s := by
  obtain ⟨fd, F⟩ := T.fn_Trial_exit
  have hl : vs.length = 4 := by
    obtain ⟨x, a, pl, nl, fl, m, Rs, cs, v1, v2, v3, dd, w1, w2, w3, rfl, _⟩ := id h
    rfl
  obtain ⟨oc, od, kV, doc, pm, an, cdv, ct, osl, rfl, lk, hcd⟩ := F.ex
  have hus : us.length = 4 := by rw [← r.length, hl]
  refine run_pin (k := 0) (N := N_exit) (ps := ["self", "kind", "error", "trace"]) lk hcd sc_exit hr hpin e0 (.of_eq ?_) r hl ⟨tExit K, pss_cons (SlX.ps_sl (SlX.pe_sl (pv 0)) (SlX.pe_sl (pv 0))) (pss_cons (SlX.ps_sl (SlX.pe_sl (pv 0)) (SlX.pe_sl (pv 0))) (pss_cons (SlX.ps_sl (SlX.pe_sl (pv 0)) (SlX.pe_sl (pv 0))) (pss_one (ps_ret pe_bl)))), exit_reads T h⟩
  match us, hus with
  | [_, _, _, _], _ => rfl
end
end K47
set_option maxHeartbeats 4000000
/-! ### with c as y: body, whose body may raise; the exit says no -/
namespace K47
open PySem PySem.Spec PyProof.Rows L2 L2H
/-- what a def of the exit promises while an exception is handled -/
def PinRun (P : Program) (w : World) (K : PySem.W.Frag) (mg : Str → Option Value) (base : Heap) (k : Nat) (f : Addr) (sp : Sp) : Prop :=
  ∀ (A : Around) (outer : List Env) (s : Shared) (H : Hp) (us : List Value) (vs : List V) (Q : VK) (p : Addr × Obj), RoomH k A → PinOk outer H s p → Env0 P w K mg base A outer s H → Vals vs us → sp vs H Q E0 →
    codeAny (model P w) A (.call (.ref f) ⟨us, []⟩) (CR CX0 outer P w H s Q E0) s
/-- what the with wishes of an exception of its body: a built-in class -/
def wWith (spX : Sp) (x : Addr) (Wout : WX) : WX := fun cls d σ H => ∃ T : String, cls = .type T ∧ ∀ (ea : Addr) (vt : V), spX [.ref x, .ty T, .ref ea, vt] H (fun r H' => r = .bl false ∧ Wout cls d σ H') E0
def dWith (spX : Sp) (x : Addr) (D : Ends) : Ends where
  nx := fun σ H => spX [.ref x, .non, .non, .non] H (fun _ H' => D.nx σ H') E0
  rt := fun v H => spX [.ref x, .non, .non, .non] H (fun _ H' => D.rt v H') E0
  bk := fun σ H => spX [.ref x, .non, .non, .non] H (fun _ H' => D.bk σ H') E0
  ct := fun σ H => spX [.ref x, .non, .non, .non] H (fun _ H' => D.ct σ H') E0
section
variable {X : Cx} {pins : List (Addr × Obj)} {spX : Sp} {x fx : Addr} {kX : Nat} {Wout : WX} {D : Ends}
theorem exit_catch (hs : X.stack = X.env :: X.outer) (hf : X.env.frame = some X.env.locals) (tk : Takes X Wout) (FP : PinRun X.prog X.w X.K X.mg X.base kX fx spX) (hr : RoomH kX X.A) (ok : X.Ok) {xe : Value → Shared → Prop} {u : Value} {s' : Shared}
    (xx : XE (X.tr (X.pn ++ pins) xe) (wWith spX x Wout) u s') (hpin : ∀ pins' σ' H' sI, Inv (X.tr (X.pn ++ pins) xe) pins' σ' H' sI → Inv X pins σ' H' sI) : ExitX X.prog X.w X.A X.xe X.env x fx (SP X pins D) u s' := by
  obtain ⟨a, B, sI, pins', σ', H', cls, d, rfl, J', nb, up, sky, na, os, ag, T, rfl, wx⟩ := xx
  have J : Inv X pins σ' H' sI := hpin _ _ _ _ J'
  have hfr : X.A.frames = some (X.env :: X.outer) := by rw [ok.frames, hs]
  have sky' : Sky B (X.env :: X.outer) a (Zc (.type T) d) X.env.locals s'.heap := by rw [← hs]; exact sky
  unfold ExitX
  refine Sky.land Zc.steady hfr hf sky' fun h3 fl3 up3 => ?_
  have J3 : Inv X pins σ' H' { s' with heap := h3 } := J.landed nb fl3.1 (up.trans up3) os ag
  obtain ⟨k1, k2, k3, oe, vs, Tb, oT, ts, he, hz, hd, h1, hnT, hTe, hT, hdT, hts⟩ := id fl3
  have notFr : ∀ {b : Addr} {o : Obj} {zs : Array Value}, h3.get? b = some o → o.data = .fields zs → b ∉ frs X.stack := fun {b o zs} e dd hm => by
    rw [hs] at hm
    obtain ⟨_, o', e', hnf⟩ := k3.mem hm
    rw [e] at e'
    cases e'
    exact hnf _ dd
  have nfr := notFr he hd
  have nfT := notFr hT hdT
  have inX : ∀ b, b ∈ frs (X.env :: X.outer) → b ∈ frs X.stack := fun b hb => by rw [hs]; exact hb
  have nL : a ≠ X.env.locals := fun z => nfr (inX _ (List.mem_filterMap.mpr ⟨X.env, List.mem_cons_self, by rw [hf, z]⟩))
  have nF : a ∉ X.fs := fun hm => by
    obtain ⟨e, he', q⟩ := List.mem_filterMap.mp hm
    exact nfr (inX _ (List.mem_filterMap.mpr ⟨e, List.mem_cons_of_mem _ he', q⟩))
  have S3 := J3.suite he hd na nL nF
  -- known addresses stand in the ground
  have inB : ∀ b o, H' b = some o → (B.get? b).isSome = true := fun b o e => by
    obtain ⟨z, hz'⟩ := objOk_get (J.hok b o e)
    rw [nb b z hz' (fun hm => by rw [J.stkFree b hm] at e; cases e)]
    rfl
  have naT : H' Tb = none := by
    cases q : H' Tb with
    | none => rfl
    | some o =>
      have z := inB _ _ q
      rw [hnT] at z
      cases z
  have main : ∀ (t : Value) (vt : V), RelV vt t → wpAny (model X.prog X.w) X.A (run (.call (.ref fx) ⟨[.ref x, .type T, .ref a, t], []⟩) (some (.ref a))) (fun f s5 => f = .ret (.bool false) ∧ wpAny (model X.prog X.w) X.A (passOn "with" (.ref a) X.env : Sem Flow) (SP X pins D) X.xe s5) X.xe { s' with heap := h3 } := fun t vt rt => by
    refine wpAny_run (codeAny_mono (FP (X.A.mark (some (.ref a))) X.stack { s' with heap := h3 } H' [.ref x, .type T, .ref a, t] [.ref x, .ty T, .ref a, vt] _ (a, oe) ⟨hr.dp, hr.un⟩ ⟨he, na, nfr, fun v z => by rw [hd] at z; cases z⟩ S3.env0 (.cons rfl (.cons rfl (.cons rfl (.cons rt .nil)))) (wx a vt)) fun r s9 hq => ?_)
    cases r with
    | error e => exact hq.elim
    | ok fl =>
      cases fl with
      | next => exact hq.elim
      | brk => exact hq.elim
      | cont => exact hq.elim
      | ret u =>
        obtain ⟨v, H9, os9, ag9, un9, hok9, rv, rfl, wo⟩ := hq
        cases (show u = Value.bool false from rv)
        refine ⟨rfl, ?_⟩
        have ha9 : s9.heap.get? a = some oe := un9.keep a oe he na nfr (by simp)
        have hT9 : s9.heap.get? Tb = some oT := un9.keep Tb oT hT naT nfT (by simp)
        have na9 : H9 a = none := un9.free a oe he na (by simp)
        obtain ⟨G, g1, g2⟩ := restrict s9.heap fun b => (h3.get? b).isNone || (B.get? b).isSome || decide (b ∈ frs X.stack)
        have sub : ∀ b o, G.get? b = some o → s9.heap.get? b = some o := fun b o e => by
          cases q : ((h3.get? b).isNone || (B.get? b).isSome || decide (b ∈ frs X.stack)) with
          | false =>
            rw [g2 b q] at e
            cases e
          | true =>
            rw [g1 b q] at e
            exact e
        have gB : ∀ b o, (B.get? b).isSome = true → s9.heap.get? b = some o → G.get? b = some o := fun b o e1 e2 => by rw [g1 b (by simp [e1]), e2]
        have gF : ∀ b o, b ∈ frs X.stack → s9.heap.get? b = some o → G.get? b = some o := fun b o e1 e2 => by rw [g1 b (by simp [e1]), e2]
        have outG : ∀ {b : Addr} {o : Obj}, h3.get? b = some o → B.get? b = none → b ∉ frs X.stack → G.get? b = none := fun {b o} e1 e2 e3 => g2 b (by simp [e1, e2, e3])
        have toB : ∀ b o, sI.heap.get? b = some o → b ∉ frs X.stack → (B.get? b).isSome = true ∧ h3.get? b = some o := fun b o e n => by
          have z := nb b o e n
          exact ⟨by rw [z]; rfl, k1 b o z⟩
        have toF : ∀ b o, sI.heap.get? b = some o → b ∈ frs X.stack → ∃ sl, h3.get? b = some { o with slots := sl } := fun b o e hb => by
          obtain ⟨_, o', e', hnf⟩ := J.stack.mem hb
          rw [e] at e'
          cases e'
          obtain ⟨sl2, e2⟩ := up b _ e hnf
          exact up3 b _ e2 hnf |>.elim fun sl3 e3 => ⟨sl3, e3⟩
        have J9 : Inv X pins σ' H9 { sI with heap := G, gens := s9.gens, drawn := s9.drawn, toks := s9.toks } := by
          refine J.call (ch := []) ⟨fun b o e n hb _ => ?_, fun b o e n hb _ => ?_, fun b o e n _ => ?_, fun b o e _ => ?_, un9.tups, un9.frzs, un9.tbls⟩ (fun b o e => ?_) ag9 (fun _ z => nomatch z)
          · obtain ⟨z1, z2⟩ := toB b o e hb
            exact gB b o z1 (un9.keep b o z2 n hb (by simp))
          · obtain ⟨sl, z⟩ := toF b o e hb
            obtain ⟨sl2, z2⟩ := un9.slot b _ z n hb (by simp)
            exact ⟨sl2, gF b _ hb z2⟩
          · by_cases hb : b ∈ frs X.stack
            · obtain ⟨sl, z⟩ := toF b o e hb
              exact un9.free b _ z n (by simp)
            · obtain ⟨_, z2⟩ := toB b o e hb
              exact un9.free b o z2 n (by simp)
          · by_cases hb : b ∈ frs X.stack
            · obtain ⟨sl, z⟩ := toF b o e hb
              obtain ⟨o', z2⟩ := un9.there b _ z (by simp)
              exact ⟨o', gF b _ hb z2⟩
            · obtain ⟨z1, z2⟩ := toB b o e hb
              obtain ⟨o', z3⟩ := un9.there b o z2 (by simp)
              exact ⟨o', gB b _ z1 z3⟩
          · refine (hok9 b o e).stay (fun c v hc q => ?_) (fun _ q => q) fun _ _ q => q
            have hk : ∃ o', H9 c = some o' := by
              rcases hc with hc | hc
              · rw [hc]
                exact ⟨_, e⟩
              · exact ⟨_, hc⟩
            obtain ⟨o', hk⟩ := hk
            cases p3 : h3.get? c with
            | none => rw [g1 c (by simp [p3]), q]
            | some o3 =>
              by_cases hcf : c ∈ frs X.stack
              · exact gF c v hcf q
              · by_cases hcB : (B.get? c).isSome = true
                · exact gB c v hcB q
                · exfalso
                  have n1 : H' c = none := by
                    cases q1 : H' c with
                    | none => rfl
                    | some o1 => exact absurd (inB _ _ q1) hcB
                  rw [un9.free c o3 p3 n1 (by simp)] at hk
                  cases hk
        have aG : G.get? a = none := outG he k2 nfr
        have tG : G.get? Tb = none := outG hT hnT nfT
        have fl9 : HandSPX.FlyingZ (PySem.W.hideAll G (frs X.stack)) (X.env :: X.outer) a (Zc (.type T) d) s9.heap := by
          have noneOf : ∀ {b : Addr}, G.get? b = none → (PySem.W.hideAll G (frs X.stack)).get? b = none := fun {b} e => by
            cases q : (PySem.W.hideAll G (frs X.stack)).get? b with
            | none => rfl
            | some o =>
              have z := PySem.W.of_hideAll _ q
              rw [e] at z
              cases z
          have F9 : s9.heap.FunFrames (PySem.W.hideAll G (frs X.stack)) X.stack := Heap.FunFrames.of_keeps (fun b o e _ => ⟨o, sub b o e, rfl⟩) (funFrames_none J9.stack fun b hb => PySem.W.hideAll_none _ hb)
          have F9' : ∀ l, l = X.stack → s9.heap.FunFrames (PySem.W.hideAll G (frs X.stack)) l := fun l e => by rw [e]; exact F9
          refine ⟨fun b o e => sub b o (PySem.W.of_hideAll _ e), noneOf aG, F9' _ hs.symm, oe, vs, Tb, oT, ts, ha9, hz, hd, h1, noneOf tG, hTe, hT9, hdT, hts⟩
        unfold PySem.passOn
        refine wpAny_bind (wpAny_field ha9 hd h1 ?_)
        rw [if_neg (show ¬ ((Value.ref Tb == Value.none) = true) from by simp)]
        have fin : wpAny (model X.prog X.w) X.A (setFlight (.ref a) X.env.frame) (fun _ s4 => wpAny (model X.prog X.w) X.A (throw (.ref a) : Sem Flow) (SP X pins D) X.xe s4) X.xe s9 := by
          rw [hf]
          refine HandSPX.setFlight_upZ fl9 fun h4 hh4 up4 => wpAny_throw (tk _ _ ?_)
          refine ⟨a, PySem.W.hideAll G (frs X.stack), _, pins, σ', H9, .type T, d, rfl, J9, fun b o e hb => PySem.W.hideAll_get _ e hb, (Heap.UpToSlots.of_keeps sub).trans up4, .inr (.inr (by rw [hs] at hh4 ⊢; exact hh4)), na9, ?_, ag9, wo⟩
          exact os9.trans os
        first
          | exact wpAny_bind (wpAny_pure (wpAny_bind fin))
          | exact wpAny_bind fin
  refine wpAny_typeOf_ref he ?_
  rw [hz.1]
  unfold tracebackOf
  refine wpAny_bind (wpAny_field he hd h1 ?_)
  have h3s : 3 < ts.size := (Array.getElem?_eq_some_iff.mp hts).1
  obtain ⟨tv, htv⟩ : ∃ tv, ts[1]? = some tv := ⟨ts[1], Array.getElem?_eq_getElem (by omega)⟩
  refine wpAny_bind (wpAny_field hT hdT htv ?_)
  by_cases hn : (tv == Value.none) = true
  · rw [if_pos hn]
    exact wpAny_pure (main .none .non rfl)
  · rw [if_neg hn]
    first
      | exact wpAny_pure (main (.ref Tb) (.ref Tb) rfl)
      | exact wpAny_bind (wpAny_pure (wpAny_pure (main (.ref Tb) (.ref Tb) rfl)))
end
section
variable {X : Cx} {ctx : Expr} {y : Str} {py pos : Pos} {i kE kX : Nat} {te : TE} {body : List Stmt} {tb : WX → TS} {C fe fx : Addr} {spE spX : Sp} {Wout : WX}
theorem ps_with (hs : X.stack = X.env :: X.outer) (hf : X.env.frame = some X.env.locals) (tk : Takes X Wout) (he : PE X ctx te) (mE : Meth X.K C "__enter__" fe) (FE : FnR X.prog X.w X.K X.mg X.base CX0 kE fe spE) (hrE : Room kE X.A)
    (mX : Meth X.K C "__exit__" fx) (FX : FnR X.prog X.w X.K X.mg X.base CX0 kX fx spX) (hrX : Room kX X.A) (FP : PinRun X.prog X.w X.K X.mg X.base kX fx spX)
    (hg : ∀ pn xe, PG (X.tr pn xe) (.Name y py) (gName i)) (hb : ∀ (W : WX) (pn : List (Addr × Obj)) (xe : Value → Shared → Prop), Takes (X.tr pn xe) W → PSs (X.tr pn xe) body (tb W)) :
    PS X (.With [⟨ctx, some (.Name y py)⟩] body pos) (fun D σ H => te σ H fun v H1 => ∃ x dx vs, v = .ref x ∧ SlX.Slt H1 x C dx vs ∧ spE [.ref x] H1 (fun v2 H2 => gName i v2 σ H2 fun σ3 H3 => tb (wWith spX x Wout) (dWith spX x D) σ3 H3) E0) := by
  refine ⟨fun pins s σ H D I h => ?_⟩
  have ok := I.ok
  rw [arm_exec_With]
  refine wpAny_bind (wpAny_standAt ?_)
  rw [arm_withItems_cons, arm_withItems_nil]
  unfold withItem
  refine wpAny_bind (thn (he.run pins s σ H _ I h) fun u s1 ⟨v, H1, I1, rv, x, dx, vs, ev, hsl, q⟩ => ?_)
  subst ev
  obtain rfl : u = Value.ref x := rv
  obtain ⟨sl, od, _, IA, _⟩ := SlX.slt_inst I1 hsl
  have key := with_core (prog := X.prog) (w := X.w) (A := X.A) (E := X.xe) (s := s1) (env := X.env) (pos := ctx.pos) (b := assign (.Name y py) X.env) (bdy := execs body X.env) (Q := SP X pins D) I1.kIn IA mE.at_ mE.fn mX.at_ mX.fn ?_
  · unfold withItem at key
    exact key
  refine thn (wpAny_call (run_fnR (us := [.ref x]) (vs := [.ref x]) FE hrE pass0 I1 (.cons rfl .nil) q)) fun v2 s2 ⟨z, H2, I2, rz, q2⟩ => ?_
  have tkW : Takes (X.tr (X.pn ++ pins) (ExitX X.prog X.w X.A X.xe X.env x fx (SP X pins D))) (wWith spX x Wout) := fun u s' xx => exit_catch hs hf tk FP (roomH_of hrX) ok xx fun _ _ _ _ J => J.ofTry ok
  have I2' := I2.toTry (ExitX X.prog X.w X.A X.xe X.env x fx (SP X pins D))
  refine wpAny_bind (wpAny_mono ((hg (X.pn ++ pins) (ExitX X.prog X.w X.A X.xe X.env x fx (SP X pins D))).run [] s2 σ H2 z v2 _ I2' rz q2) (fun _ s3 hh => ?_) fun _ _ e => e)
  obtain ⟨σ3, H3, I3, q3⟩ := hh
  refine wpAny_mono ((hb _ _ _ tkW).run [] s3 σ3 H3 (dWith spX x D) I3 q3) (fun f s4 hsp => ?_) fun _ _ e => e
  cases f with
  | next =>
    obtain ⟨σ4, H4, J', q4⟩ := hsp
    exact thn (wpAny_call (run_fnR (us := [.ref x, .none, .none, .none]) (vs := [.ref x, .non, .non, .non]) FX hrX pass0 (J'.ofTry ok) (.cons rfl (.cons rfl (.cons rfl (.cons rfl .nil)))) q4)) fun _ s5 ⟨_, H5, J5, _, q5⟩ => ⟨_, _, J5, q5⟩
  | brk =>
    obtain ⟨σ4, H4, J', q4⟩ := hsp
    exact thn (wpAny_call (run_fnR (us := [.ref x, .none, .none, .none]) (vs := [.ref x, .non, .non, .non]) FX hrX pass0 (J'.ofTry ok) (.cons rfl (.cons rfl (.cons rfl (.cons rfl .nil)))) q4)) fun _ s5 ⟨_, H5, J5, _, q5⟩ => ⟨_, _, J5, q5⟩
  | cont =>
    obtain ⟨σ4, H4, J', q4⟩ := hsp
    exact thn (wpAny_call (run_fnR (us := [.ref x, .none, .none, .none]) (vs := [.ref x, .non, .non, .non]) FX hrX pass0 (J'.ofTry ok) (.cons rfl (.cons rfl (.cons rfl (.cons rfl .nil)))) q4)) fun _ s5 ⟨_, H5, J5, _, q5⟩ => ⟨_, _, J5, q5⟩
  | ret u =>
    obtain ⟨v4, σ4, H4, J', r4, q4⟩ := hsp
    exact thn (wpAny_call (run_fnR (us := [.ref x, .none, .none, .none]) (vs := [.ref x, .non, .non, .non]) FX hrX pass0 (J'.ofTry ok) (.cons rfl (.cons rfl (.cons rfl (.cons rfl .nil)))) q4)) fun _ s5 ⟨_, H5, J5, _, q5⟩ => ⟨_, _, _, J5, r4, q5⟩
end
end K47
set_option maxHeartbeats 4000000
/-! ### Desk.attempt with a nested def -/
namespace K47
open PySem PySem.Spec PyProof.Rows L2 L2H NdefX
theorem slO_fn {a C dx f : Addr} {vs : List (Option V)} {F : NF} (e : SlX.SlO a C dx vs = FnO f F) : a ≠ f := by
  rintro rfl
  unfold SlX.SlO FnO at e
  injection e with e
  have sl : SlX.SlR vs (vs.map (fun o => o.map mkVal)).toArray := fun i v hv => by
    refine ⟨mkVal v, ?_, mkVal_rel v⟩
    rw [List.getElem?_toArray, List.getElem?_map, hv]
    rfl
  have q := congrFun e (oneHeap a { PySem.W.instObj C dx with slots := (vs.map (fun o => o.map mkVal)).toArray })
  have q1 : ∃ (od : Option Addr) (sl : Array (Option Value)) (doc pm ctv : Value), (oneHeap a { PySem.W.instObj C dx with slots := (vs.map (fun o => o.map mkVal)).toArray }).get? a = some (⟨.type "function", od, .func (F.fd doc pm ctv), sl⟩ : Obj) := by
    rw [← q]
    exact ⟨_, oneHeap_get a _ (inst_live _ _ _), sl⟩
  obtain ⟨od, sl', doc, pm, ctv, e1⟩ := q1
  rw [oneHeap_get a _ (inst_live _ _ _)] at e1
  have e2 := congrArg Obj.data (Option.some.inj e1)
  cases e2
/-- w(e), w a name that holds a function of a def further out -/
theorem pe_work {X : Cx} {F : NF} {f : Addr} {ps fr : List Str} {ws : List (Option V)} {sp : List (Option V) → Sp} {k j i : Nat} {E : XK} {x : Str} {e : Expr} {es : List Expr} {t : TA} {p pos : Pos} (Fn : NOk X.prog X.w X.K X.mg X.base (L2.CX X.prog X.w) k f F ps fr sp) (C : CellsAt F.cl fr ws X.s_0.heap X.H_0)
    (nf : ∀ y c, F.cl.lookup y = some c → c ∉ X.fs) (hex : X.ex = []) (hr : Room j X.A) (hk : k ≤ j) (hx : Passes (L2.CX X.prog X.w) X E) (hN : X.N[i]? = some x) (hv : Vis X.env.scope x) (ha : PA X (e :: es) t)
    (hd : (x == ("__debug__" : Str)) = false := by decide) (hcd : (x == ("__classdict__" : Str)) = false := by decide) (he : starEach (e :: es) X.env = (false, eval e X.env) :: starEach es X.env := by rfl) (hpl : (backTo pos (starEach es X.env)).any (·.1) = false := by rfl) :
    PE X (.Call (.Name x p) (e :: es) [] pos) (fun σ H Q => σ[i]? = some (some (.ref f)) ∧ H f = some (FnO f F) ∧ t σ H fun vs H1 => H1 f = some (FnO f F) ∧ H1 F.c = some (LamX.CodeO F.c F.qual) ∧ sp ws vs H1 Q E) := by
  refine ⟨fun pins s σ H Q I h => ?_⟩
  obtain ⟨hs, hf, ht⟩ := h
  refine wpAny_Call_Name_kw (thn ((pe_var (pos := p) hN hv hd hcd).run pins s σ H (fun v H1 => v = .ref f ∧ H1 = H) I ⟨.ref f, hs, rfl, rfl⟩) fun u s1 ⟨v, H1, I1, r1, ev, eH⟩ => ?_)
  subst ev
  rw [eH] at I1
  obtain rfl : u = Value.ref f := r1
  refine PySem.W.callWith_F (first := []) (fnAt_of I1 hf) (thn (ha.run pos pins s1 σ H _ I1 ht) fun us s2 ⟨vs, H2, I2, r, h1, h2, q⟩ => ⟨fnAt_of I2 h1, ?_⟩) he hpl
  show wpAny _ _ (call (.ref f) us) _ _ _
  have C2 := CellsAt.later C nf (fun y c _ => by rw [hex]; simp) I2
  refine wpAny_call (codeAny_mono (Fn.run X.A X.stack s2 H2 us vs ws Q E (hr.mono hk) I2.env0 h1 h2 C2 r q) fun r s' hq => ?_)
  cases r with
  | error e => exact hx pins σ H2 s2 e s' I2 hq
  | ok fl =>
    cases fl with
    | ret u => exact I2.after hq
    | next => exact False.elim hq
    | brk => exact False.elim hq
    | cont => exact False.elim hq
/-- the trial is left: the desk has its lists of before again -/
def Back (K : PySem.W.Frag) (H2 : Hp) (x a pl nl : Addr) (fl : Nat) (m : Int) (Rs : List (List Rl)) (cs : List Ch) (k : Hp → Prop) : Prop :=
  Saved K H2 x a pl nl fl m Rs cs ∧ (∃ dd w1 w2 w3, H2 a = some (SlX.SlO a (cD K) dd [some w1, some w2, some w3]) ∧ H2 dd = some (.xd [])) ∧ ∀ H3, But [a] H2 H3 → DeskAt K H3 a pl nl fl m Rs cs → k H3
/-- desk.attempt(work), work's promise wk -/
def AttR (K : PySem.W.Frag) (a : Addr) (wk : Hp → VK → XK → Prop) (H : Hp) (Q : VK) (E : XK) : Prop :=
  ∃ (p n : Addr) (fl : Nat) (m : Int) (Rs : List (List Rl)) (cs : List Ch), DeskAt K H a p n fl m Rs cs ∧ ∀ H1 x pl nl, But [a] H H1 → H x = none → H pl = none → H nl = none → Saved K H1 x a pl nl fl m Rs cs → DeskAt K H1 a p n cs.length m Rs cs →
    ∀ (Q' : VK) (E' : XK), (∀ r H2, (Back K H2 x a pl nl fl m Rs cs fun H3 => Q r H3) → Q' r H2) → (∀ (T : String) d H2, (Back K H2 x a pl nl fl m Rs cs fun H3 => E (.type T) d H3) → E' (.type T) d H2) → wk H1 Q' E'
abbrev N_attempt : List Str := ["self", "work", "held"]
theorem sc_attempt : FnScope N_attempt ["self", "work"] (defScope s_Desk_attempt) := ⟨rfl, rfl, rfl, by decide +kernel, rfl, by decide +kernel, by decide +kernel⟩
section
variable {P : Program} {w : World} {K : PySem.W.Frag} {mg : Str → Option Value} {base : Heap}
theorem attempt_run (T : TX K mg) {k : Nat} {f a : Addr} {F : NF} {fr : List Str} {ws : List (Option V)} {sp : List (Option V) → Sp} {wp : Str} (Fn : NOk P w K mg base (L2.CX P w) k f F [wp] fr sp) {A : Around} {outer : List Env} {s : Shared} {H : Hp} {Q : VK} {E : XK} (hr : Room (k + 4) A) (e0 : Env0 P w K mg base A outer s H)
    (hf : H f = some (FnO f F)) (hc : H F.c = some (LamX.CodeO F.c F.qual)) (C : CellsAt F.cl fr ws s.heap H) (nf : ∀ y c, F.cl.lookup y = some c → c ∉ frs outer) (q : AttR K a (fun H1 Q E => sp ws [.ref a] H1 Q E) H Q E) :
    codeAny (model P w) A (.call (.ref (He.ma K (cD K) "attempt")) ⟨[.ref a, .ref f], []⟩) (CR (L2.CX P w) outer P w H s Q E) s := by
  obtain ⟨fd, FU⟩ := T.fn_Desk_attempt
  obtain ⟨oc, od, kV, doc, pm, an, cdv, ct, osl, rfl, lk, hcd⟩ := FU.ex
  refine LamX.run_ofS (k := k + 3) (CX := L2.CX P w) (N := N_attempt) (ps := ["self", "work"]) (us := [.ref a, .ref f]) (vs := [.ref a, .ref f]) lk hcd sc_attempt hr e0 (.of_eq rfl) (.cons rfl (.cons rfl .nil)) rfl fun hr' => ?_
  refine ⟨_, pss_one (ps_with (spX := sp_exit K) (Wout := fun cls d _ H => E cls d H) (tb := fun W => tRet (fun σ H Q => σ[1]? = some (some (.ref f)) ∧ H f = some (FnO f F) ∧ (tCons (tVar 2) tNil) σ H fun vs H1 => H1 f = some (FnO f F) ∧ H1 F.c = some (LamX.CodeO F.c F.qual) ∧ ∃ E' : XK, (∀ cls d σ' H', E' cls d H' → W cls d σ' H') ∧ sp ws vs H1 Q E'))
    rfl rfl (takes_of rfl rfl rfl rfl) (SlX.pe_methSl0 (pv 0) T.scls_Desk T.meth_Desk_trial (ok_trial T) (hr'.mono (by omega)) pass0) T.meth_Trial___enter__ (ok_enter T) (hr'.mono (by omega)) T.meth_Trial___exit__ (ok_exit T) (hr'.mono (by omega))
    (fun A outer s H us vs Q p h1 h2 h3 h4 h5 => exit_pin T h1 h2 h3 h4 h5) (fun pn xe => pg_name (i := 2) sc_attempt.nd rfl (Or.inl rfl)) (fun W pn xe tk => ?_)), ?_⟩
  · refine ⟨fun pins s1 σ H1 D I h => ?_⟩
    obtain ⟨h1, h2, v, h3, h4, h5, E', hW, h6⟩ := h
    exact (pss_one (ps_ret (pe_work (i := 1) (sp := sp) Fn C nf rfl (hr'.mono (by omega)) (Nat.le_refl k) (passes_call tk hW) rfl (Or.inl rfl) (pa_cons (pv 2) pa_nil)))).run pins s1 σ H1 D I ⟨h1, h2, v, h3, h4, h5, h6⟩
  · obtain ⟨p, n, fl, m, Rs, cs, hd, q⟩ := q
    obtain ⟨da, sa⟩ := hd.slt
    refine ⟨_, rfl, a, da, _, rfl, sa, a, rfl, fun H1 x f1 f2 f3 e1 hx tr => ?_⟩
    obtain ⟨dx, t1, t2⟩ := id tr
    refine ⟨x, dx, _, rfl, .inr ⟨t1, t2⟩, x, a, p, n, fl, m, Rs, cs, f1, f2, f3, rfl, tr, hd.same e1, fun H2 pl nl k2 hpl hnl sv hd2 => ?_⟩
    have kk : But [a] H H2 := (But.of e1).step k2 fun y hy => by
      rcases List.mem_cons.mp hy with rfl | hy
      · exact .inr hx
      · exact .inl (by simpa using hy)
    obtain ⟨da2, g1, g2⟩ := hd.ex
    have nfa : f ≠ a := fun z => by
      rw [z, g1] at hf
      exact slO_fn (Option.some.inj hf) rfl
    have nca : F.c ≠ a := fun z => by
      rw [z, g1] at hc
      exact slO_code (Option.some.inj hc) rfl
    have hf2 := kk _ _ hf (by simpa using nfa)
    have hc2 := kk _ _ hc (by simpa using nca)
    have ex : ∀ (v1 v2 v3 : V) (H' : Hp) (k : V → Hp → Prop), (Back K H' x a pl nl fl m Rs cs fun H3 => k (.bl false) H3) → sp_exit K [.ref x, v1, v2, v3] H' k E0 := fun v1 v2 v3 H' k hh => by
      obtain ⟨s1, ⟨dd, w1, w2, w3, b1, b2⟩, b3⟩ := hh
      exact ⟨x, a, pl, nl, fl, m, Rs, cs, v1, v2, v3, dd, w1, w2, w3, rfl, s1, b1, b2, hd.ok, hd.len, hd.fl', fun H3 k3 hd3 => b3 H3 k3 hd3⟩
    refine ⟨rfl, hf2, _, rfl, hf2, hc2, fun cls d H' => wWith (sp_exit K) x (fun cls d _ H => E cls d H) cls d [] H', fun cls d σ' H' hh => hh, q H2 x pl nl kk hx (same_gone e1 hpl) (same_gone e1 hnl) sv hd2 _ _ (fun r H' hh => ex _ _ _ H' (fun _ H' => Q r H') hh) fun T' d H' hh => ⟨T', rfl, fun ea vt => ?_⟩⟩
    obtain ⟨s1, b1, b2⟩ := hh
    exact ex _ _ _ H' _ ⟨s1, b1, fun H3 k3 hd3 => ⟨rfl, b2 H3 k3 hd3⟩⟩
end
/-- the cells of the running frame are no frames -/
theorem cells_nf {X : Cx} {pins : List (Addr × Obj)} {σ : L2.St} {H : Hp} {s : Shared} (I : Inv X pins σ H s) (hfn : ∀ y, X.fn y = true) {y : Str} {c : Addr} (e : X.env.cells.lookup y = some c) : c ∉ frs X.stack := fun hm => by
  rcases List.mem_cons.mp (I.stkSub c hm) with z | z
  · obtain ⟨m, ⟨o, es, ep, ho, hd, _⟩, _⟩ := I.loc
    obtain ⟨v, o', ho', hd'⟩ := I.cell y c e
    rw [z, ho] at ho'
    cases ho'
    rw [hd] at hd'
    cases hd'
  · obtain ⟨_, o, ho, _⟩ := I.ok.funs.mem z
    exact absurd (Heap.lt_size ho) (Nat.not_lt.mpr (I.ok.cab y c (hfn y) e))
section
variable {X : Cx} {o : Expr} {x : Str} {ta : TE} {p apos pos : Pos} {mk : Addr → NF} {cl : List (Str × Addr)} {fr : List Str} {js : List Nat} {sp : Addr → Addr → List (Option V) → Sp} {k i : Nat} {wp : Str} {E : XK}
/-- o.attempt(x), x the name of a def made here -/
theorem pe_attempt {pl : Sem Bool} (T : TX X.K X.mg) (he : PE X o ta) (Fn : ∀ f c', NOk X.prog X.w X.K X.mg X.base (L2.CX X.prog X.w) k f (mk c') [wp] fr (sp f c')) (hcl : ∀ c', (mk c').cl = cl) (cp : X.Ok → Caps X cl fr js) (hfn : ∀ y, X.fn y = true) (hr : Room (k + 4) X.A)
    (hx : Passes (L2.CX X.prog X.w) X E) (hN : X.N[i]? = some x) (hv : Vis X.env.scope x) (hd : (x == ("__debug__" : Str)) = false := by decide) (hcd : (x == ("__classdict__" : Str)) = false := by decide)
    (ht : eval (.Call (.Attribute o "attempt" apos) [.Name x p] [] pos) X.env = (do
      let ov ← eval o X.env
      standAt apos.atName
      let (f, first) ← holding [ov] (getMethod ov "attempt" pl)
      callWith pos f first (backTo pos (starEach [.Name x p] X.env)) (backToKw pos (keywordEach [] X.env))) := by rfl) :
    PE X (.Call (.Attribute o "attempt" apos) [.Name x p] [] pos) (fun σ H Q => ta σ H fun z H1 => ∃ a dx vs f c', z = .ref a ∧ SlX.Slt H1 a (cD X.K) dx vs ∧ σ[i]? = some (some (.ref f)) ∧ H1 f = some (FnO f (mk c')) ∧ H1 (mk c').c = some (LamX.CodeO (mk c').c (mk c').qual) ∧
      AttR X.K a (fun H1 Q E => sp f c' (js.map (slotAt σ)) [.ref a] H1 Q E) H1 Q E) := by
  refine ⟨fun pins s σ H Q I h => ?_⟩
  refine PySem.W.methodCall_KW (pl := pl) (thn (he.run pins s σ H _ I h) fun u s1 ⟨z, H1, I1, rz, a, dx, vs, f, c', ez, hsl, hs, hf, hc, q⟩ => ?_) ht
  subst ez
  obtain rfl : u = Value.ref a := rz
  have mt := T.meth_Desk_attempt
  refine SlX.getmethsl_ok I1 hsl T.scls_Desk mt ?_
  have pa : PA X [.Name x p] (tCons (tVar i) tNil) := pa_cons (pe_var (i := i) hN hv hd hcd) pa_nil rfl
  refine PySem.W.callWith_K (first := [.ref a]) (h₀ := X.base) I1.ok.mod.kin mt.kp (thn (pa.run pos pins s1 σ H1 (fun vs H2 => vs = [.ref f] ∧ H2 = H1) I1 ⟨.ref f, hs, rfl, rfl⟩) fun us s2 ⟨ws, H2, I2, r, ew, eH⟩ => ⟨I2.kIn, ?_⟩) rfl rfl
  subst ew
  rw [eH] at I2
  obtain ⟨u, rfl, ru⟩ := r.one
  cases (show u = Value.ref f from ru)
  have C := cells_of I2 (cp I2.ok)
  rw [← hcl c'] at C
  refine wpAny_call (codeAny_mono (attempt_run (A := X.A) (outer := X.stack) (E := E) T (Fn f c') hr I2.env0 hf hc C (fun y c e => ?_) q) fun r s' hq => ?_)
  · rw [hcl c'] at e
    exact cells_nf I2 hfn ((cp I2.ok).sub y c e)
  · cases r with
    | error e => exact hx pins σ H1 s2 e s' I2 hq
    | ok fl =>
      cases fl with
      | ret u => exact I2.after hq
      | next => exact False.elim hq
      | brk => exact False.elim hq
      | cont => exact False.elim hq
end
end K47
set_option maxHeartbeats 4000000
/-! ### the law's draws -/
namespace K47
open PySem PySem.Spec PyProof.Rows L2
/-- the list of the draws: some ints -/
def Drw (H : Hp) (d : Addr) : Prop := ∃ ds : List Int, H d = some (.lst (ds.map V.int)) ∧ ds.length ≤ 1000
theorem shaped_ints (ds : List Int) : SeqAt.shaped (.list (ds.map .int)) = true := by
  simp [SeqAt.shaped, PyData.canLay0, PyData.depth, lay_ints, dep_ints]
theorem dp_lints {K : PySem.W.Frag} {H : Hp} {a : Addr} {ns : List Int} (h : SqL K H a (ns.map V.int)) : Dp K H (.ref a) (.list (ns.map .int)) := .lst h (dpAll_ints ns)
section
variable {P : Program} {w : World} {K : PySem.W.Frag} {mg : Str → Option Value} {base : Heap}
/-! #### _law_take -/
def sp_take_ (K : PySem.W.Frag) : Sp := fun vs H Q _ => ∃ (d : Addr) (many : Int), vs = [.ref d, .int many] ∧ Drw H d ∧ 0 < many ∧ ∀ H' r, But [d] H H' → Drw H' d → 0 ≤ r → r < many → Q (.int r) H'
abbrev N_l_take : List Str := ["_law_draws", "_law_many"]
theorem sc_l_take : FnScope N_l_take ["_law_draws", "_law_many"] (defScope s_l_take) := ⟨rfl, rfl, rfl, by decide +kernel, rfl, by decide +kernel, by decide +kernel⟩
theorem ok_l_take (T : TX K mg) : FnR P w K mg base CX0 1 (He.ga K "_law_take") (sp_take_ K) := by
  refine fr0 T.fn_l_take sc_l_take (fun _ _ _ _ _ _ us hl => match us, hl with | [_, _], _ => rfl) (fun vs H Q E h => ?_) (fun cdv A outer s H vs Q E hr h => ?_)
  · obtain ⟨d, many, rfl, _⟩ := h
    rfl
  · obtain ⟨d, many, rfl, ⟨ds, hd, hl⟩, hm, q⟩ := h
    refine ⟨_, pss_one (ps_ret (pe_ifExp (pt_cmpR (op_neD hr.units) (pv 0) (pe_lst pa_nil) (nomark _))
      (pe_op op_mod (pe_callTy call_int1 (by rfl) T.free_int bb_int (pa_cons (pe_bm PySem.F.plainAttrs_list PySem.F.slot_list_pop PySem.F.type_list_pop mt_popAt (pv 0) (pa_cons pe_int pa_nil)) pa_nil)) (pv 1)) pe_int)), ?_⟩
    refine ⟨_, rfl, by show 0 ≤ sizeLine; decide, fun l hl2 => ?_⟩
    have e1 := same_new (o := .lst []) hl2
    refine ⟨.list (ds.map .int), .list ([] : List PyData), dp_lints (SqL.of (e1 _ _ hd)), .lst (SqL.of upd_same) .nil, shaped_ints ds, by decide +kernel, _, rfl, ?_⟩
    cases ds with
    | nil => exact iteF (q _ 0 (But.of e1) ⟨[], e1 _ _ hd, Nat.zero_le _⟩ (Int.le_refl _) hm)
    | cons z zs =>
      refine iteT ⟨_, rfl, .inl ⟨rfl, _, SqL.of (e1 _ _ hd)⟩, d, _, 0, 0, .int z, rfl, rfl, e1 _ _ hd, by decide, by decide, ?_, rfl, .inl ⟨z, rfl, _, rfl, z, many, rfl, rfl, hm, ?_⟩⟩
      · simp [PySem.seqIndex?]
      · refine q _ _ ((But.of e1).updM (by simp)) ⟨zs, ?_, ?_⟩ (Int.emod_nonneg _ (by omega)) (Int.emod_lt_of_pos _ hm)
        · rw [upd_same]
          rfl
        · simp at hl
          omega
/-! #### _law_draw -/
def sp_draw (K : PySem.W.Frag) : Sp := fun vs H Q _ => ∃ (c : Int) (k : Nat) (many : Int), vs = [.int c, .int (k : Nat), .int many] ∧ k ≤ 1000 ∧ 0 < many ∧ ∀ H' r, Same H H' → 0 ≤ r → r < many → Q (.int r) H'
abbrev N_draw : List Str := ["_law_cell", "_law_k", "_law_many", "_law_primes"]
theorem sc_draw : FnScope N_draw ["_law_cell", "_law_k", "_law_many"] (defScope s_l_draw) := ⟨rfl, rfl, rfl, by decide +kernel, rfl, by decide +kernel, by decide +kernel⟩
def primes : List Int := [1000003, 1000033, 1000037, 1000039, 1000081, 1000099, 1000117, 1000121, 1000133, 1000151, 1000159, 1000171, 1000183, 1000187, 1000193, 1000199]
theorem ok_draw (T : TX K mg) : FnR P w K mg base CX0 1 (He.ga K "_law_draw") (sp_draw K) := by
  refine fr0 T.fn_l_draw sc_draw (fun _ _ _ _ _ _ us hl => match us, hl with | [_, _, _], _ => rfl) (fun vs H Q E h => ?_) (fun cdv A outer s H vs Q E hr h => ?_)
  · obtain ⟨c, k, many, rfl, _⟩ := h
    rfl
  · obtain ⟨c, k, many, rfl, hk, hm, q⟩ := h
    refine ⟨_, pss_cons (ps_set (i := 3) sc_draw.nd rfl (Or.inl rfl) (pe_tup (pa_cons pe_int (pa_cons pe_int (pa_cons pe_int (pa_cons pe_int (pa_cons pe_int (pa_cons pe_int (pa_cons pe_int (pa_cons pe_int (pa_cons pe_int (pa_cons pe_int (pa_cons pe_int (pa_cons pe_int (pa_cons pe_int (pa_cons pe_int (pa_cons pe_int (pa_cons pe_int pa_nil))))))))))))))))))
      (pss_one (ps_ret (pe_op op_mod (pe_callTy call_int1 (by rfl) T.free_int bb_int (pa_cons (pe_op op_mod (pe_callTy call_int1 (by rfl) T.free_int bb_int (pa_cons (pe_op op_add (pe_op op_mul (pv 0) pe_int) (pe_op op_mul (pv 1) pe_int)) pa_nil))
        (pe_ix ix_tup (pv 3) (pe_op op_mod (pv 1) pe_int) (fun _ _ => rfl))) pa_nil)) (pv 2)))), ?_⟩
    refine ⟨by show 16 ≤ sizeLine; decide, fun t ht => ?_⟩
    refine ⟨_, rfl, c, 48271, rfl, rfl, .inr ⟨by decide, by decide⟩, _, rfl, k, 69621, rfl, rfl, .inr ⟨by decide, by decide⟩, _, _, rfl, rfl, .inl ⟨_, rfl, ?_⟩⟩
    refine ⟨_, rfl, _, rfl, (k : Int), 16, rfl, rfl, (by show (0 : Int) < 16; decide), ?_⟩
    have hmod : ((k : Nat) : Int) % 16 = ((k % 16 : Nat) : Int) := by omega
    have hlt : k % 16 < primes.length := Nat.mod_lt _ (by decide)
    have hp : (primes.map V.int)[k % 16]? = some (V.int primes[k % 16]) := by
      rw [List.getElem?_map, List.getElem?_eq_getElem hlt]
      rfl
    have hpos : ∀ z ∈ primes, 0 < z := by decide
    refine ⟨t, primes.map V.int, ((k % 16 : Nat) : Int), V.int primes[k % 16], rfl, by rw [← hmod], SqT.of upd_same, atI_nat hp, ?_⟩
    refine ⟨_, _, rfl, rfl, hpos _ (List.getElem_mem hlt), .inl ⟨_, rfl, _, rfl, _, many, rfl, rfl, hm, ?_⟩⟩
    exact q _ _ (same_new ht) (Int.emod_nonneg _ (by omega)) (Int.emod_lt_of_pos _ hm)
/-! #### _law_cell_at -/
def sp_cell_at (K : PySem.W.Frag) : Sp := fun vs H Q _ => ∃ (a : Addr) (zs : List Int) (k : Nat), vs = [.ref a, .int (k : Nat)] ∧ SqL K H a (zs.map V.int) ∧ k ≤ 1000 ∧ ∀ H' c, Same H H' → 0 ≤ c → Q (.int c) H'
abbrev N_cell_at : List Str := ["_law_script", "_law_k"]
theorem sc_cell_at : FnScope N_cell_at ["_law_script", "_law_k"] (defScope s_l_cell_at) := ⟨rfl, rfl, rfl, by decide +kernel, rfl, by decide +kernel, by decide +kernel⟩
theorem abs_nn (i : Int) : 0 ≤ (if i < 0 then -i else i) := by
  split <;> omega
theorem ok_cell_at (T : TX K mg) : FnR P w K mg base CX0 2 (He.ga K "_law_cell_at") (sp_cell_at K) := by
  refine fr0 T.fn_l_cell_at sc_cell_at (fun _ _ _ _ _ _ us hl => match us, hl with | [_, _], _ => rfl) (fun vs H Q E h => ?_) (fun cdv A outer s H vs Q E hr h => ?_)
  · obtain ⟨a, zs, k, rfl, _⟩ := h
    rfl
  · obtain ⟨a, zs, k, rfl, ha, hk, q⟩ := h
    refine ⟨_, pss_cons (ps_if (pt_cmpR op_lt (pv 1) (pe_callB call_len_seq (by rfl) T.free_len bb_len (pa_cons (pv 0) pa_nil)) (nomark _))
        (pss_one (ps_ret (pe_callB call_abs (by rfl) T.free_abs bb_abs (pa_cons (pe_ix ix_list (pv 0) (pv 1) (fun _ _ => rfl)) pa_nil)))) pss_nil)
      (pss_one (ps_ret (pe_g (ok_draw T) hr (by rfl) T.glo__law_draw (kp_of T.fn_l_draw) pass0 (pa_cons (pe_op op_add (pe_callB call_abs (by rfl) T.free_abs bb_abs (pa_cons (pe_callB (cr_sum rfl) (by rfl) T.free_sum bb_sum (pa_cons (pv 0) pa_nil)) pa_nil)) (pe_op op_mul pe_int (pv 1)))
        (pa_cons (pv 1) (pa_cons pe_int pa_nil)))))), ?_⟩
    refine ⟨_, rfl, _, rfl, a, _, rfl, .inl ha, _, _, rfl, rfl, _, rfl, ?_⟩
    refine ite2 (fun h => ?_) (fun h => ?_)
    · have hlt : k < zs.length := by
        have := of_decide_eq_true h
        rw [List.length_map] at this
        omega
      have hz : (zs.map V.int)[k]? = some (V.int zs[k]) := by
        rw [List.getElem?_map, List.getElem?_eq_getElem hlt]
        rfl
      exact ⟨_, rfl, _, rfl, a, _, _, _, rfl, rfl, ha, atI_nat hz, _, rfl, q _ _ (Same.refl H) (abs_nn _)⟩
    · exact ⟨_, rfl, a, zs, rfl, ha, _, rfl, _, rfl, 7919, _, rfl, rfl, .inl ⟨by decide, by decide⟩, _, _, rfl, rfl, _, rfl, _, k, 999983, rfl, hk, by decide, fun H' r e h1 h2 => q H' r e h1⟩
end
end K47
set_option maxHeartbeats 4000000
/-! ### the law's pool of draws -/
namespace K47
open PySem PySem.Spec PyProof.Rows L2
theorem big_ok {c : Int} {t b : Nat} (h0 : 0 ≤ c) (h : c - 1000000000000000000 < ((b ^ t : Nat) : Int)) (hb : b ≤ 2 ^ 20) (ht : t ≤ 120) {u v : Int} (hu0 : 0 ≤ u) (hu : u ≤ c + 200000) (hv0 : 0 ≤ v) (hv : v ≤ c + 200000) : CMulW u v := by
  have h1 : b ^ t ≤ 2 ^ 2400 := by
    refine Nat.le_trans (Nat.pow_le_pow_left hb t) ?_
    rw [← Nat.pow_mul]
    exact Nat.pow_le_pow_right (by decide) (by omega)
  have h2 : (2 : Nat) ^ 2402 = 2 ^ 2400 * 4 := Nat.pow_add 2 2400 2
  have h3 : (2 : Nat) ^ 64 ≤ 2 ^ 2400 := Nat.pow_le_pow_right (by decide) (by decide)
  have h4 : (2 : Nat) ^ 64 = 18446744073709551616 := by decide +kernel
  refine wide_mul (a := 2402) (b := 2402) ?_ ?_ (by decide) (by decide) (by decide)
  · rw [h2]
    generalize (2 : Nat) ^ 2400 = M at *
    generalize b ^ t = B at *
    omega
  · rw [h2]
    generalize (2 : Nat) ^ 2400 = M at *
    generalize b ^ t = B at *
    omega
/-- what is left shrinks: behind t turns -/
theorem left_step {c l : Int} {t b : Nat} (hb : 0 < b) (hl : 0 < l) (h : c - 1000000000000000000 < (l + 1) * ((b ^ t : Nat) : Int)) : c - 1000000000000000000 < (l / (b : Nat) + 1) * ((b ^ (t + 1) : Nat) : Int) ∧ 0 ≤ l / (b : Nat) := by
  have h1 : l + 1 ≤ (l / (b : Nat) + 1) * (b : Nat) := by
    have := Int.emod_lt_of_pos l (show (0 : Int) < (b : Nat) by omega)
    have e := Int.emod_add_mul_ediv l (b : Nat)
    have e2 : (l / (b : Nat) + 1) * (b : Nat) = (b : Nat) * (l / (b : Nat)) + (b : Nat) := by rw [Int.add_mul, Int.one_mul, Int.mul_comm]
    rw [e2]
    omega
  refine ⟨Int.lt_of_lt_of_le h ?_, Int.ediv_nonneg (by omega) (by omega)⟩
  have e : ((b ^ (t + 1) : Nat) : Int) = (b : Nat) * ((b ^ t : Nat) : Int) := by
    rw [Nat.pow_succ, Nat.mul_comm]
    exact Int.natCast_mul b (b ^ t)
  rw [e, ← Int.mul_assoc]
  exact Int.mul_le_mul_of_nonneg_right h1 (by omega)
section
variable {P : Program} {w : World} {K : PySem.W.Frag} {mg : Str → Option Value} {base : Heap}
def sp_digits (K : PySem.W.Frag) : Sp := fun vs H Q _ => ∃ (a : Addr) (zs : List Int) (k b : Nat), vs = [.ref a, .int (k : Nat), .int 120, .int (b : Nat)] ∧ SqL K H a (zs.map V.int) ∧ k ≤ 1000 ∧ 1 < b ∧ b ≤ 2 ^ 20 ∧
  ∀ H' l (ns : List Int), Same H H' → H' l = some (.lst (ns.map V.int)) → ns.length = 120 → Q (.ref l) H'
abbrev N_digits : List Str := ["_law_script", "_law_at", "_law_many", "_law_base", "_law_cell", "_law_found", "_law_left", "_law_turn", "_law_blend", "_law_more"]
theorem sc_digits : FnScope N_digits ["_law_script", "_law_at", "_law_many", "_law_base"] (defScope s_l_digits) := ⟨rfl, rfl, rfl, by decide +kernel, rfl, by decide +kernel, by decide +kernel⟩
theorem ok_digits (T : TX K mg) : FnR P w K mg base CX0 3 (He.ga K "_law_digits") (sp_digits K) := by
  refine fr0 T.fn_l_digits sc_digits (fun _ _ _ _ _ _ us hl => match us, hl with | [_, _, _, _], _ => rfl) (fun vs H Q E h => ?_) (fun cdv A outer s H vs Q E hr h => ?_)
  · obtain ⟨a, zs, k, b, rfl, _⟩ := h
    rfl
  · obtain ⟨a, zs, k, b, rfl, ha, hk, hb1, hb2, q⟩ := h
    have nd := sc_digits.nd
    refine ⟨_, pss_cons (ps_par (i := 4) (j := 5) rfl nd rfl rfl (by decide) rfl rfl (pa_cons (pe_g (ok_cell_at T) hr (by rfl) T.glo__law_cell_at (kp_of T.fn_l_cell_at) pass0 (pa_cons (pv 0) (pa_cons (pv 1) pa_nil))) (pa_cons (pe_lst pa_nil) pa_nil)) (by rfl))
      (pss_cons (ps_set (i := 6) nd rfl (Or.inl rfl) (pe_op op_sub (pv 4) (pe_op op_pow pe_int pe_int)))
      (pss_cons (ps_for PassesOwn.never rfl (pi_range1 rfl T.free_range (pa_cons (pv 2) pa_nil)) (pg_name (i := 7) nd rfl (Or.inl rfl))
        (pss_one (ps_if (pt_cmpR op_gt (pv 6) pe_int (nomark _))
          (pss_cons (ps_expr (pe_bm PySem.F.plainAttrs_list PySem.F.slot_list_append PySem.F.type_list_append mt_append (pv 5) (pa_cons (pe_op op_mod (pe_callTy call_int1 (by rfl) T.free_int bb_int (pa_cons (pv 6) pa_nil)) (pv 3)) pa_nil)))
            (pss_one (ps_set (i := 6) nd rfl (Or.inl rfl) (pe_op op_fdiv (pv 6) (pv 3)))))
          (pss_cons (ps_set (i := 8) nd rfl (Or.inl rfl) (pe_g (ok_draw T) hr (by rfl) T.glo__law_draw (kp_of T.fn_l_draw) pass0 (pa_cons (pe_op op_mulW (pe_op op_add (pv 4) (pe_op op_mul pe_int (pv 7))) (pe_op op_add (pe_op op_add (pv 4) (pe_op op_mul pe_int (pv 7))) pe_int))
              (pa_cons (pe_op op_add (pe_op op_mod (pv 7) pe_int) pe_int) (pa_cons pe_int pa_nil)))))
            (pss_cons (ps_set (i := 9) nd rfl (Or.inl rfl) (pe_g (ok_draw T) hr (by rfl) T.glo__law_draw (kp_of T.fn_l_draw) pass0 (pa_cons (pe_op op_add (pe_op op_mulW (pe_op op_add (pv 4) (pe_op op_mul pe_int (pv 7))) (pe_op op_add (pv 4) pe_int)) (pe_op op_mul pe_int (pv 7)))
              (pa_cons (pe_op op_add (pe_op op_mod (pv 7) pe_int) pe_int) (pa_cons pe_int pa_nil)))))
            (pss_one (ps_expr (pe_bm PySem.F.plainAttrs_list PySem.F.slot_list_append PySem.F.type_list_append mt_append (pv 5) (pa_cons (pe_op op_mod (pe_callTy call_int1 (by rfl) T.free_int bb_int (pa_cons (pe_op op_add (pe_op op_mul (pv 8) pe_int) (pv 9)) pa_nil)) (pv 3)) pa_nil)))))))))
      (pss_one (ps_ret (pv 5))))), ?_⟩
    refine ⟨_, rfl, _, rfl, a, zs, k, rfl, ha, hk, fun H1 c e1 hc => ?_⟩
    refine ⟨by show 0 ≤ sizeLine; decide, fun l hl => ?_⟩
    have e2 := e1.trans (same_new (o := .lst []) hl)
    refine ⟨_, _, rfl, ?_⟩
    refine ⟨_, rfl, 10, 18, rfl, rfl, ⟨by decide, by decide, by decide⟩, _, _, rfl, rfl, ?_⟩
    have e10 : (10 : Int) ^ (18 : Int).toNat = 1000000000000000000 := by decide +kernel
    rw [e10]
    refine ⟨_, rfl, 120, rfl, by decide, by decide, for_it (walk_range (lo := 0) (n := 120))
      (fun i σ H' => ∃ (left : Int) (p7 p8 p9 : Option V) (ns : List Int), σ = [some (.ref a), some (.int (k : Nat)), some (.int 120), some (.int (b : Nat)), some (.int c), some (.ref l), some (.int left), p7, p8, p9] ∧ Same H H' ∧ H' l = some (.lst (ns.map V.int)) ∧ ns.length = i ∧
        ((0 ≤ left ∧ c - 1000000000000000000 < (left + 1) * ((b ^ i : Nat) : Int)) ∨ (left ≤ 0 ∧ c - 1000000000000000000 < ((b ^ i : Nat) : Int))))
      ⟨_, none, none, none, [], rfl, e2, upd_same, rfl, ?_⟩ (fun _ _ _ _ _ => True.intro) (fun i x σ H2 H3 hi pp y => ?_) (fun σ H2 pp => ?_)⟩
    · by_cases h : 0 ≤ c - 1000000000000000000
      · refine .inl ⟨h, ?_⟩
        simp
        omega
      · refine .inr ⟨by omega, ?_⟩
        simp
        omega
    · obtain ⟨rfl, rfl⟩ := y
      obtain ⟨left, p7, p8, p9, ns, rfl, e3, h3, hlen, inv⟩ := pp
      have sz : (ns.map V.int).length < sizeLine := by
        rw [List.length_map]
        exact small1000 (by omega)
      refine ⟨_, rfl, _, _, rfl, rfl, _, rfl, ?_⟩
      refine ite2 (fun h => ?_) (fun h => ?_)
      · have hpos : 0 < left := of_decide_eq_true h
        refine ⟨_, rfl, .inl ⟨rfl, _, SqL.of h3⟩, _, rfl, .inl ⟨left, rfl, _, rfl, left, (b : Int), rfl, rfl, by show (0 : Int) < (b : Nat); omega, l, _, _, rfl, rfl, h3, sz, ?_⟩⟩
        refine ⟨_, rfl, _, rfl, left, (b : Int), rfl, rfl, ⟨by omega, by omega⟩, ?_⟩
        have inv' : c - 1000000000000000000 < (left + 1) * ((b ^ i : Nat) : Int) := inv.elim (fun z => z.2) (fun z => by omega)
        obtain ⟨n1, n2⟩ := left_step (by omega) hpos inv'
        exact ⟨_, _, p8, p9, ns ++ [left % (b : Nat)], rfl, same_upd e3 (same_gone e1 hl), by rw [upd_same, List.map_append]; rfl, by simp [hlen], .inl ⟨n2, n1⟩⟩
      · have hle : left ≤ 0 := by
          have := of_decide_eq_false (Bool.eq_false_iff.mpr h)
          omega
        have inv' : c - 1000000000000000000 < ((b ^ i : Nat) : Int) := by
          rcases inv with ⟨z1, z2⟩ | ⟨_, z⟩
          · have e0 : left = 0 := by omega
            rw [e0] at z2
            simpa using z2
          · exact z
        have hi2 : i < 120 := hi
        refine ⟨_, rfl, _, rfl, 977, _, rfl, rfl, .inl ⟨by decide, by decide⟩, _, _, rfl, rfl, _, rfl, _, rfl, 31, _, rfl, rfl, .inl ⟨by decide, by decide⟩, _, _, rfl, rfl, _, _, rfl, rfl, _, _, rfl, rfl, ?_, ?_⟩
        · exact big_ok hc inv' hb2 (by omega) (by omega) (by omega) (by omega) (by omega)
        refine ⟨_, rfl, _, 9, rfl, rfl, (by show (0 : Int) < 9; decide), _, _, rfl, rfl, ?_⟩
        have m9 : (0 + (i : Int)) % 9 + 1 = ((i % 9 + 1 : Nat) : Int) := by omega
        refine ⟨_, i % 9 + 1, 999983, by rw [← m9] <;> rfl, by omega, by decide, fun H4 r e4 r1 r2 => ?_⟩
        refine ⟨_, rfl, _, rfl, 31, _, rfl, rfl, .inl ⟨by decide, by decide⟩, _, _, rfl, rfl, _, rfl, _, _, rfl, rfl, _, _, rfl, rfl, ?_, _, rfl, 977, _, rfl, rfl, .inl ⟨by decide, by decide⟩, _, _, rfl, rfl, ?_⟩
        · exact big_ok hc inv' hb2 (by omega) (by omega) (by omega) (by omega) (by omega)
        refine ⟨_, rfl, _, 7, rfl, rfl, (by show (0 : Int) < 7; decide), _, _, rfl, rfl, ?_⟩
        have m7 : (0 + (i : Int)) % 7 + 2 = ((i % 7 + 2 : Nat) : Int) := by omega
        refine ⟨_, i % 7 + 2, 1000003, by rw [← m7] <;> rfl, by omega, by decide, fun H5 r' e5 r3 r4 => ?_⟩
        have h5 : H5 l = some (.lst (ns.map V.int)) := e5 _ _ (e4 _ _ h3)
        refine ⟨_, rfl, .inl ⟨rfl, _, SqL.of h5⟩, _, rfl, r, 1000003, rfl, rfl, .inr ⟨by decide, by decide⟩, _, rfl, _, _, rfl, rfl, .inl ⟨_, rfl, _, rfl, _, (b : Int), rfl, rfl, by show (0 : Int) < (b : Nat); omega, l, _, _, rfl, rfl, h5, sz, ?_⟩⟩
        exact ⟨_, _, _, _, ns ++ [(r * 1000003 + r') % (b : Nat)], rfl, same_upd (e3.trans (e4.trans e5)) (same_gone e1 hl), by rw [upd_same, List.map_append]; rfl, by simp [hlen], .inr ⟨hle, Int.lt_of_lt_of_le inv' (Int.ofNat_le.mpr (Nat.pow_le_pow_right (by omega) (Nat.le_succ i)))⟩⟩
    · obtain ⟨left, p7, p8, p9, ns, rfl, e3, h3, hlen, inv⟩ := pp
      exact ⟨_, rfl, q _ l ns e3 h3 hlen⟩
/-! #### _law_pool -/
def bases : List Nat := [1009, 1013, 1000033, 1000037]
def sp_pool (K : PySem.W.Frag) : Sp := fun vs H Q _ => ∃ (a g : Addr) (zs : List Int), vs = [.ref a, .ref g] ∧ SqL K H a (zs.map V.int) ∧ SqT K H g (bases.map fun b => V.int (b : Nat)) ∧
  ∀ H' l (ns : List Int), Same H H' → H l = none → H' l = some (.lst (ns.map V.int)) → ns.length = 480 → Q (.ref l) H'
abbrev N_pool : List Str := ["_law_script", "_law_grounds", "_law_found", "_law_at", "_law_base"]
theorem sc_pool : FnScope N_pool ["_law_script", "_law_grounds"] (defScope s_l_pool) := ⟨rfl, rfl, rfl, by decide +kernel, rfl, by decide +kernel, by decide +kernel⟩
theorem same_sql {H H' : Hp} {a : Addr} {xs : List V} (e : Same H H') (h : SqL K H a xs) : SqL K H' a xs := by
  rcases h with h | h
  · rcases h with h | ⟨o, h⟩
    · exact .inl (.inl (e _ _ h))
    · exact .inl (.inr ⟨o, e _ _ h⟩)
  · exact .inr h
theorem ok_pool (T : TX K mg) : FnR P w K mg base CX0 4 (He.ga K "_law_pool") (sp_pool K) := by
  refine fr0 T.fn_l_pool sc_pool (fun _ _ _ _ _ _ us hl => match us, hl with | [_, _], _ => rfl) (fun vs H Q E h => ?_) (fun cdv A outer s H vs Q E hr h => ?_)
  · obtain ⟨a, g, zs, rfl, _⟩ := h
    rfl
  · obtain ⟨a, g, zs, rfl, ha, hg, q⟩ := h
    have nd := sc_pool.nd
    refine ⟨_, pss_cons (ps_set (i := 2) nd rfl (Or.inl rfl) (pe_lst pa_nil))
      (pss_cons (ps_for PassesOwn.never rfl (pi_enumT (by rfl) T.free_enumerate (pa_cons (pv 1) pa_nil)) (pg_pair (K := K) 3 4 nd)
        (pss_one (ps_set (i := 2) nd rfl (Or.inl rfl) (pe_op op_cat (pv 2) (pe_g (ok_digits T) hr (by rfl) T.glo__law_digits (kp_of T.fn_l_digits) pass0 (pa_cons (pv 0) (pa_cons (pv 3) (pa_cons pe_int (pa_cons (pv 4) pa_nil)))))))))
      (pss_one (ps_ret (pv 2)))), ?_⟩
    refine ⟨by show 0 ≤ sizeLine; decide, fun l hl => ?_⟩
    refine ⟨_, rfl, g, _, rfl, same_tup (same_new hl) hg, for_it (walk_enumT (xs := bases.map fun b => V.int (b : Nat)))
      (fun i σ H' => ∃ (p3 p4 : Option V) (l : Addr) (ns : List Int), σ = [some (.ref a), some (.ref g), some (.ref l), p3, p4] ∧ Same H H' ∧ H l = none ∧ H' l = some (.lst (ns.map V.int)) ∧ ns.length = 120 * i)
      ⟨none, none, l, [], rfl, same_new hl, hl, upd_same, rfl⟩ (fun i σ H' _ pp => ?_) (fun i x σ H2 H3 hi pp y => ?_) (fun σ H2 pp => ?_)⟩
    · obtain ⟨_, _, _, _, _, e, _⟩ := pp
      exact same_tup e hg
    · obtain ⟨T', v, rfl, hT, rfl, hv⟩ := y
      obtain ⟨p3, p4, l, ns, rfl, e, hl0, h3, hlen⟩ := pp
      obtain ⟨b, hb, rfl⟩ := map_get hv
      have hi4 : i < 4 := hi
      have hbm : b ∈ bases := List.mem_of_getElem? hb
      have hb1 : 1 < b := (by decide : ∀ z ∈ bases, 1 < z) b hbm
      have hb2 : b ≤ 2 ^ 20 := (by decide : ∀ z ∈ bases, z ≤ 2 ^ 20) b hbm
      have e4 : Same H (upd H2 T' (.tup [.int (i : Nat), .int (b : Nat)])) := same_upd e (same_gone e hT)
      refine ⟨T', _, rfl, SqT.of upd_same, rfl, _, _, rfl, _, _, rfl, rfl, ?_⟩
      refine ⟨_, rfl, _, rfl, _, rfl, _, rfl, a, zs, i, b, rfl, same_sql e4 ha, by omega, hb1, hb2, fun H5 l5 ns5 e5 h5 hl5 => ?_⟩
      have h35 : H5 l = some (.lst (ns.map V.int)) := e5 _ _ (by rw [upd_ne (ne_of_none h3 hT)]; exact h3)
      refine ⟨l, l5, _, _, rfl, rfl, h35, h5, ?_, fun l6 hl6 => ?_⟩
      · rw [List.length_map, List.length_map]
        have : sizeLine = 16777216 := sizeLine_eq
        omega
      · have e6 := e4.trans e5
        exact ⟨_, _, l6, ns ++ ns5, rfl, e6.trans (same_new hl6), same_gone e6 hl6, by rw [upd_same, List.map_append], by rw [List.length_append, hlen, hl5]; omega⟩
    · obtain ⟨p3, p4, l, ns, rfl, e, hl0, h3, hlen⟩ := pp
      exact ⟨_, rfl, q _ l ns e hl0 h3 hlen⟩
end
end K47
set_option maxHeartbeats 4000000
/-! ### sorted(xs, key=lambda x: (len(x), x)), xs tuples of ints -/
namespace K47
/-! #### the order -/
section
open PySem PySem.W PyProof.Rows
def keyD (ns : List Int) : PyData := .tuple [.int (ns.length : Nat), .tuple (ns.map .int)]
theorem keyD_alike (a b : List Int) : alike (keyD a) (keyD b) = true := by
  simp [keyD, alike, alikeAll, alike_ints]
theorem keyD_le {a b : List Int} (h : dataLe false keyD a b = true) : a.length ≤ b.length := by
  refine Nat.not_lt.mp fun hlt => ?_
  have h1 : (!(listOrd itemOrd).blt (keyToks (keyD b)) (keyToks (keyD a))) = true := h
  have h2 : (listOrd itemOrd).blt (keyToks (keyD b)) (keyToks (keyD a)) = true := by
    show lexLt itemOrd (keyToks (keyD b)) (keyToks (keyD a)) = true
    have e : ∀ ns : List Int, keyToks (keyD ns) = .inl 1 :: .inl ((ns.length : Nat) : Int) :: keyToksAll [.tuple (ns.map .int)] := fun ns => by
      unfold keyD
      simp only [keyToks, keyToksAll, List.cons_append, List.nil_append]
    have e1 : itemOrd.blt (.inl ((b.length : Nat) : Int)) (.inl ((a.length : Nat) : Int)) = true := by
      show decide (((b.length : Nat) : Int) < ((a.length : Nat) : Int)) = true
      exact decide_eq_true (by omega)
    have e2 : itemOrd.blt (.inl 1) (.inl 1) = false := by
      show decide ((1 : Int) < 1) = false
      rfl
    rw [e, e, lex_cons, lex_cons, e1, e2]
    rfl
  rw [h2] at h1
  cases h1
theorem keyD_depth (ns : List Int) : (keyD ns).depth ≤ 3 := by
  have := dep_ints ns
  simp [keyD, PyData.depth, PyData.depthAll]
  omega
theorem keyD_sorted (S : List (List Int)) : (S.mergeSort (dataLe false keyD)).Pairwise fun a b => a.length ≤ b.length := by
  have tl := sortLe_total (listOrd itemOrd) false fun b : List Int => keyToks (keyD b)
  refine (List.pairwise_mergeSort (le := dataLe false keyD) (fun a b c => tl.trans a b c) (fun a b => ?_) S).imp keyD_le
  have := tl.total a b
  simpa [dataLe] using this
theorem each_of_paired {α β : Type} {F : α → β → Prop} : ∀ {xs : List α} {ys : List β}, Paired F xs ys → EachIs F xs ys
  | _, _, .nil => .nil
  | _, _, .cons r t => .cons r (each_of_paired t)
theorem paired_of_each {α β : Type} {F : α → β → Prop} : ∀ {xs : List α} {ys : List β}, EachIs F xs ys → Paired F xs ys
  | _, _, .nil => .nil
  | _, _, .cons r t => .cons r (paired_of_each t)
end
open PySem PySem.Spec PyProof.Rows L2
def SetAt (K : PySem.W.Frag) (H : Hp) (v : V) (ns : List Int) : Prop := ∃ a : Addr, v = .ref a ∧ SqT K H a (ns.map V.int)
/-- what the keyed sort asks and tells -/
def SortR (K : PySem.W.Frag) (T : List (Addr × Str)) (x : V) (H1 : Hp) (Q : VK) : Prop := LamX.Tabs T H1 ∧ ∃ (l : Addr) (vs : List V) (S : List (List Int)), x = .ref l ∧ H1 l = some (.lst vs) ∧ Paired (SetAt K H1) vs S ∧ S.length ≤ 1000 ∧ (∀ ns ∈ S, ns.length ≤ 1000) ∧
  ∀ (H2 : Hp) (p : Addr) (vs' : List V) (S' : List (List Int)), LamX.ExtN H1 H2 → LamX.Tabs T H2 → H2 p = some (.lst vs') → Paired (SetAt K H1) vs' S' → S'.Perm S → S'.Pairwise (fun a b => a.length ≤ b.length) → Q (.ref p) H2
def tSort (K : PySem.W.Frag) (T : List (Addr × Str)) (te : TE) : TE := fun σ H Q => te σ H fun x H1 => SortR K T x H1 Q
/-- the values of a sorted list, as V's -/
def toV : Value → V
  | .ref a => .ref a
  | _ => .non
theorem readsAll_ints {h : Heap} : ∀ {ns : List Int} {us : List Value}, Vals (ns.map V.int) us → ReadsAll h us (ns.map .int) []
  | [], _, r => by
    cases r
    exact .nil
  | n :: ns, _, r => by
    cases r with
    | cons r t =>
      obtain ⟨k, rfl⟩ := (show ∃ t, _ = Value.int n t from r)
      exact .cons (.int n k) (readsAll_ints t)
section
variable {X : Cx} {e : Expr} {te : TE} {p pos lpos kpos p1 p2 p3 p4 p5 : Pos} {kk : Nat} {one : Str} {params : Arguments} {scope : Scope} {T : List (Addr × Str)} {c P : Addr}
theorem pe_sortSets (TT : TX X.K X.mg) (hg : Gl X "sorted") (he : PE X e te) (TB : LamX.TabB X.base X.mg c P) (hcode : X.env.code = .ref c) (hmT : (P, X.env.qual ++ "<lambda>") ∈ T) (hu : ∀ q ∈ T, q.1 = P → q.2 = X.env.qual ++ "<lambda>") (hr : Room 4 X.A)
    (hdef : defaultsOf params X.env = ([], [])) (hk : scope.kind = .function) (hco : scope.isCoroutine = false) (hgen : scope.isGenerator = false) (hone : scope.names.lookup one = some .local) (hlen : scope.names.lookup ("len" : Str) = some .globalImplicit) (hcell : ∀ y ∈ scope.names, y.2 ≠ .cell) (hfree : ∀ y ∈ scope.names, y.2 ≠ .free)
    (hbind : ∀ (q : Str) (cl : List (Str × Addr)) (pm cv ctv v : Value), bindArgs (PySem.W.kla_fn "<lambda>" q params (.Tuple [.Call (.Name "len" p1) [.Name one p2] [] p3, .Name one p4] kk p5) scope cl pm cv ctv) ⟨[v], []⟩ = pure [(one, v)])
    (hd : (one == ("__debug__" : Str)) = false := by decide) (hst : starEach [e] X.env = (false, eval e X.env) :: starEach [] X.env := by rfl) (hb1 : backTo pos (starEach [e] X.env) = (false, eval e X.env) :: backTo pos (starEach [] X.env) := by rfl)
    (hb2 : (backTo pos (starEach [e] X.env)).any (·.1) = false := by rfl) :
    PE X (.Call (.Name "sorted" p) [e] [⟨some "key", .Lambda params (.Tuple [.Call (.Name "len" p1) [.Name one p2] [] p3, .Name one p4] kk p5) scope lpos, kpos⟩] pos) (tSort X.K T te) := by
  refine ⟨fun pins s σ H Q I h => ?_⟩
  refine wpAny_Call_Name_kw (ld_blt I hg TT.free_sorted bb_sorted ?_)
  have pa : PA X [e] (tCons te tNil) := pa_cons he pa_nil hst
  refine PyProof.Rows.callWith_kw (thn (pa.run pos pins s σ H (fun vs H1 => match vs with
    | [x] => SortR X.K T x H1 Q
    | _ => False) I h) fun us s1 ⟨vs, H1, I1, r1, q⟩ => ?_) hb1 hb2 rfl rfl
  match vs, q with
  | [x], q => ?_
  obtain ⟨hT, l, ws, S, rfl, hl, hS, hSl, hNl, q⟩ := q
  obtain ⟨u, rfl, ru⟩ := r1.one
  cases (show u = Value.ref l from ru)
  show wpAny _ _ (evalAll [do let v ← eval (.Lambda params (.Tuple [.Call (.Name "len" p1) [.Name one p2] [] p3, .Name one p4] kk p5) scope lpos) X.env; standAt pos; pure v]) _ _ s1
  refine wpAny_evalAll_cons (wpAny_bind (LamX.lam_make2 I1 TB hcode hmT hu hT hdef (fun y hy e => absurd e (hfree y hy)) fun f c' pm ctv H2 s2 I2 eN T2 hf hfn hfr hco2 => wpAny_bind (wpAny_standAt (wpAny_pure (wpAny_evalAll_nil ?_)))))
  show wpAny _ _ (call (.builtin "sorted") [.ref l] [(Str.ofString "key", .ref f)]) _ _ s2
  have hl2 : H2 l = some (.lst ws) := eN _ _ hl (fun _ z => by cases z)
  have tup2 : ∀ {a : Addr} {xs : List V}, SqT X.K H1 a xs → SqT X.K H2 a xs := fun {a xs} h => by
    rcases h with (h | ⟨o, h⟩) | h
    · exact .inl (.inl (eN _ _ h (fun _ z => by cases z)))
    · exact .inl (.inr ⟨o, eN _ _ h (fun _ z => by cases z)⟩)
    · exact .inr h
  obtain ⟨its, rv, pl, hz⟩ := I2.list (SqL.of hl2)
  have eR : ∀ {ws : List V} {its : List Value} {S : List (List Int)}, Vals ws its → Paired (SetAt X.K H1) ws S → Paired (fun (u : Value) ns => ∃ a : Addr, u = .ref a ∧ SqT X.K H1 a (ns.map V.int)) its S := fun {ws} => by
    induction ws with
    | nil =>
      intro its S r p
      cases r
      cases p
      exact .nil
    | cons w ws ih =>
      intro its S r p
      cases r with
      | cons r t =>
        cases p with
        | cons p tp =>
          obtain ⟨a, rfl, ha⟩ := p
          exact .cons ⟨a, r, ha⟩ (ih t tp)
  have code2 : s2.heap.CodeRec (.ref c') (X.env.qual ++ "<lambda>") := NdefX.codeO_at I2.hok hco2
  have gl2 : s2.heap.Ns mainGlobals X.mg := I2.mod.glob.keeps I2.bk
  obtain ⟨mb, b1, b2⟩ := I2.mod.blt
  have bl2 := b1.keeps I2.bk
  refine PySem.W.sorted_key_data (b := false) (β := List Int) (R := fun (u : Value) ns => ∃ a : Addr, u = .ref a ∧ SqT X.K H1 a (ns.map V.int)) keyD pl.isList (each_of_paired (eR rv hS)) (PySem.W.AllAlike.of keyD_alike) (PySem.W.Sortable.tuples fun ns => ⟨_, _, rfl⟩) (by have : sizeLine = 16777216 := sizeLine_eq; omega)
    (fun ns _ => ?_) (PyProof.Rows.ksk_s1 _ _) (fun _ => PyProof.Rows.ksk_l1 _ _) (fun _ => PyProof.Rows.ksk_t1 _ _) (fun v ns hR hmem h3 tk3 kp => ?_) (fun out cnt h3 tk3 kp fr at3 hol eo => ?_)
  · have := keyD_depth ns
    have := hr.units
    omega
  · obtain ⟨a, rfl, ha⟩ := hR
    obtain ⟨ats, ra, pa2, haz⟩ := I2.tuple (tup2 ha)
    have pa3 : IsTup h3 a ats.toArray := by
      obtain ⟨o, ho, r⟩ := pa2
      exact ⟨o, kp _ _ ho, r⟩
    have hroom : X.A.in1.in1.depth < recursionLimit := hr.depth
    refine wpAny_call (PySem.W.kla_callFunE hroom (s := { s2 with heap := h3, toks := tk3 }) (kp _ _ hf) rfl hco hgen rfl (code2.keeps kp) ?_)
    rw [hbind]
    refine wpAny_pure (wpAny_newFunctionEnv hcell (fun y hy => ?_) (fun h4 hns hsb => ⟨(I2.nolimit.keeps kp).fresh _ hsb, ?_⟩) hk)
    · rw [List.mem_singleton.mp hy]
      exact hone
    have k4 : ∀ b o, h3.get? b = some o → h4.get? b = some o := fun b o e => hsb.extBut b o (Nat.ne_of_lt (Heap.lt_size e)) (Heap.get?_push_of_some _ e)
    show codeAny _ _ (.expr (.Tuple [.Call (.Name "len" p1) [.Name one p2] [] p3, .Name one p4] kk p5) (PySem.W.envX (X.env.qual ++ "<lambda>") scope h3.objs.size f (.ref c') (cloFrom X.env.cells scope.names []))) _ _
    have nm : ∀ {A : Around} {E : Value → Shared → Prop} {Q : Value → Shared → Prop} {h : Heap} {tk : Nat} {p : Pos}, (∀ b o, h4.get? b = some o → h.get? b = some o) → Q (.ref a) { s2 with heap := h, toks := tk } →
        wpAny (model X.prog X.w) A (eval (.Name one p) (PySem.W.envX (X.env.qual ++ "<lambda>") scope h3.objs.size f (.ref c') (cloFrom X.env.cells scope.names []))) Q E { s2 with heap := h, toks := tk } := fun {A E Q h tk p} k q =>
      wpAny_Name (wpAny_loadName_local hk hone (hns.keeps k) (show ([(one, Value.ref a)] : List (Str × Value)).reverse.lookup one = some (.ref a) by simp [List.lookup]) q) hd
    refine PySem.W.kla_codeExpr ?_
    refine wpAny_Tuple_spliced ?_
    show wpAny _ _ (spliced [(false, eval (.Call (.Name "len" p1) [.Name one p2] [] p3) _), (false, eval (.Name one p4) _)]) _ _ _
    refine Calls.spliced_cons ?_
    refine wpAny_Call_Name_kw (Calls.Name_function_global hk hlen (Calls.loadGlobal_builtin (gl2.keeps fun b o e => k4 _ _ (kp _ _ e)) TT.free_len (bl2.keeps fun b o e => k4 _ _ (kp _ _ e)) ((b2 _ (by decide)).trans bb_len) ?_) (by decide))
    refine PyProof.Rows.callWith_builtin1 ?_ rfl rfl
    show wpAny _ _ (spliced [(false, eval (.Name one p2) _)]) _ _ _
    refine Calls.spliced_cons (nm (fun _ _ e => e) (Calls.spliced_nil ?_))
    have pa4 : IsTup h4 a ats.toArray := by
      obtain ⟨o, ho, r⟩ := pa3
      exact ⟨o, k4 _ _ ho, r⟩
    refine len_tuple pa4 (by have := hNl ns hmem; have h5 := ra.length; rw [List.length_map] at h5; rw [List.size_toArray]; omega) ?_
    refine Calls.spliced_cons (nm (fun _ _ e => e) (Calls.spliced_nil ⟨by show 2 ≤ sizeLine; decide, ?_⟩))
    refine ⟨_, _, rfl, fun b o e => Heap.get?_push_of_some _ (k4 _ _ e), ?_⟩
    have hlen5 : ats.toArray.size = ns.length := by
      have h5 := ra.length
      rw [List.length_map] at h5
      rw [List.size_toArray, h5]
    obtain ⟨o4, ho4, hc4, n4, hd4⟩ := pa4
    refine .tuple (as := [] ++ ([] ++ [])) (Heap.get?_push_size _ rfl) rfl rfl (.cons ?_ (.cons ?_ .nil))
    · rw [hlen5]
      exact .int _ _
    · exact .tuple (Heap.get?_push_of_some _ ho4) hc4 hd4 (readsAll_ints (by simpa using ra))
  · have ep := paired_of_each eo
    have hperm : (S.mergeSort (PySem.W.dataLe false keyD)).Perm S := List.mergeSort_perm S _
    have toP : ∀ {out : List Value} {S' : List (List Int)}, Paired (fun (u : Value) ns => ∃ a : Addr, u = .ref a ∧ SqT X.K H1 a (ns.map V.int)) out S' → Paired (SetAt X.K H1) (out.map toV) S' ∧ Vals (out.map toV) out := fun {out} => by
      induction out with
      | nil =>
        intro S' p
        cases p
        exact ⟨.nil, .nil⟩
      | cons u out ih =>
        intro S' p
        cases p with
        | cons p t =>
          obtain ⟨a, rfl, ha⟩ := p
          obtain ⟨i1, i2⟩ := ih t
          exact ⟨.cons ⟨a, rfl, ha⟩ i1, .cons rfl i2⟩
    obtain ⟨o1, o2⟩ := toP ep
    have hlo : (out.map toV).length ≤ sizeLine := by
      rw [List.length_map, hol]
      have : sizeLine = 16777216 := sizeLine_eq
      omega
    have I3 : Inv X pins σ (upd H2 (s2.heap.objs.size + 1) (.lst (out.map toV))) { s2 with heap := h3, toks := tk3 } := I2.laid (fun b u e => kp b u e) (Nat.le_succ _) ⟨hlo, out, cnt, o2, at3⟩
    have hp2 : H2 (s2.heap.objs.size + 1) = none := I2.hok.fresh (Nat.le_succ _)
    refine ⟨.ref _, _, I3, rfl, q _ _ (out.map toV) _ ?_ ?_ upd_same o1 hperm (keyD_sorted S)⟩
    · exact fun b o e n => by
        have e1 := eN b o e n
        rw [upd_ne (ne_of_none e1 hp2)]
        exact e1
    · exact T2.ext fun b o e => by rw [upd_ne (ne_of_none e hp2)]; exact e
end
end K47
set_option maxHeartbeats 4000000
/-! ### the tables of code; _law_sets -/
namespace K47
open PySem PySem.Spec PyProof.Rows L2
/-! #### tables -/
def tabT (K : PySem.W.Frag) : List (Addr × Str) := [((He.cT K ("_law_sets", none)).2, ("_law_sets" : Str) ++ ".<locals>." ++ "<lambda>"), ((He.cT K ("_law_step", none)).2, ("_law_step" : Str) ++ ".<locals>." ++ "<lambda>"),
  ((He.cT K ("_law_inside_right", none)).2, ("_law_inside_right" : Str) ++ ".<locals>." ++ "<lambda>"), ((He.cT K ("_law_attempt_right", none)).2, ("_law_attempt_right" : Str) ++ ".<locals>." ++ "_law_work"), ((He.cT K ("law", none)).2, ("law" : Str) ++ ".<locals>." ++ "<lambda>")]
def TBs (K : PySem.W.Frag) (mg : Str → Option Value) (base : Heap) : Prop := ∀ p ∈ tabDefs, LamX.TabB base mg (He.cT K p).1 (He.cT K p).2
theorem nd_snd {α β : Type} : ∀ {l : List (α × β)} {p q : α × β}, (l.map (·.1)).Nodup → p ∈ l → q ∈ l → p.1 = q.1 → p.2 = q.2
  | [], _, _, _, h, _, _ => by cases h
  | a :: l, p, q, nd, hp, hq, e => by
    rw [List.map_cons, List.nodup_cons] at nd
    rcases List.mem_cons.mp hp with hp | hp
    · rcases List.mem_cons.mp hq with hq | hq
      · rw [hp, hq]
      · exact absurd (List.mem_map.mpr ⟨q, hq, by rw [← e, hp]⟩) nd.1
    · rcases List.mem_cons.mp hq with hq | hq
      · exact absurd (List.mem_map.mpr ⟨p, hp, by rw [e, hq]⟩) nd.1
      · exact nd_snd nd.2 hp hq e
theorem tab_hu {K : PySem.W.Frag} {mg : Str → Option Value} (T : TX K mg) {P : Addr} {q : Str} (h : (P, q) ∈ tabT K) : ∀ p ∈ tabT K, p.1 = P → p.2 = q := fun p hp e => nd_snd (p := p) (q := (P, q)) (show ((tabT K).map (·.1)).Nodup from T.tabs_nd) hp h e
/-- tables stand where nothing but soft things change -/
theorem tabs_but {K : PySem.W.Frag} {T : List (Addr × Str)} {M : List Addr} {H H' : Hp} (h : LamX.Tabs T H) (e : But M H H') (m : ∀ x ∈ M, Mut K H x) : LamX.Tabs T H' := fun p hp => by
  obtain ⟨ps, h1, h2, h3⟩ := h p hp
  refine ⟨ps, e _ _ h1 fun z => firm_not (m _ z) h1 (.tb ps), h2, fun pos cv hc => ?_⟩
  obtain ⟨c, e1, e2⟩ := h3 pos cv hc
  exact ⟨c, e1, e _ _ e2 fun z => firm_not (m _ z) e2 (.co _)⟩
section
variable {P : Program} {w : World} {K : PySem.W.Frag} {mg : Str → Option Value} {base : Heap} {x qual : Str} {st : Stmt} {p : He.Defn} {N ps : List Str} {k : Nat} {sp : Sp}
theorem fr0T (F : ∃ fd, Fun K x qual st (He.fAd K p) fd) (S : FnScope N ps (defScope st)) (hb : BindsAs x qual st ps) (len : ∀ vs H Q E, sp vs H Q E → vs.length = ps.length)
    (body : ∀ (A : Around) (outer : List Env) (s : Shared) (H : Hp) (vs : List V) (Q : VK) (E : XK), Room k (A.deeper (envOfC qual (defScope st) s.heap.objs.size (He.fAd K p) (.ref (He.cT K p).1))) → sp vs H Q E →
      ∃ t, PSs (cxOf CX0 P w K mg base N qual (defScope st) (He.fAd K p) (.ref (He.cT K p).1) A outer s H E).nox (defBody st) t ∧ t { nx := fun _ H' => Q .non H', rt := Q } (start N vs) H) : FnR P w K mg base CX0 (k + 1) (He.fAd K p) sp := by
  obtain ⟨fd, F⟩ := F
  obtain ⟨oc, od, kV, doc, pm, an, cdv, ct, osl, rfl, lk, hcd⟩ := F.ex
  obtain ⟨c, rfl⟩ := He.codeIn_ref hcd
  have ec : (He.cT K p).1 = c := He.codeOf_eq lk rfl
  have body' : FnOk P w K mg base CX0 (k + 1) (He.fAd K p) _ ps sp := fn_of lk hcd S len fun A outer s H vs Q E hr hsp => by
    rw [← ec] at hr ⊢
    obtain ⟨t, h, q⟩ := body A outer s H vs Q E hr hsp
    exact ⟨t, h.nox, q⟩
  refine (FnOk.raw body' (F.binds hb) .nil).imp fun vs H Q E h => ?_
  rw [List.append_nil]
  exact h
end
/-! #### all sets -/
def setsF : Nat → List (List Int)
  | 0 => [[]]
  | n + 1 => setsF n ++ (setsF n).map fun t => t ++ [(n : Int)]
theorem setsF_len : ∀ n, (setsF n).length = 2 ^ n
  | 0 => rfl
  | n + 1 => by
    rw [setsF, List.length_append, List.length_map, setsF_len n, Nat.pow_succ]
    omega
theorem setsF_ok : ∀ (n : Nat) (t : List Int), t ∈ setsF n → t.Nodup ∧ InR (n : Nat) t
  | 0, t, h => by
    rw [setsF, List.mem_singleton] at h
    subst h
    exact ⟨List.nodup_nil, fun x hx => by cases hx⟩
  | n + 1, t, h => by
    rcases List.mem_append.mp h with h | h
    · obtain ⟨h1, h2⟩ := setsF_ok n t h
      exact ⟨h1, fun x hx => by have := h2 x hx; omega⟩
    · obtain ⟨u, hu, rfl⟩ := List.mem_map.mp h
      obtain ⟨h1, h2⟩ := setsF_ok n u hu
      refine ⟨List.nodup_append.mpr ⟨h1, by simp, fun a ha b hb => ?_⟩, fun x hx => ?_⟩
      · have := h2 a ha
        have := List.mem_singleton.mp hb
        omega
      · rcases List.mem_append.mp hx with hx | hx
        · have := h2 x hx
          omega
        · have := List.mem_singleton.mp hx
          omega
theorem setsF_all : ∀ (n : Nat) (u : List Int), InR (n : Nat) u → ∃ t ∈ setsF n, ∀ x, x ∈ t ↔ x ∈ u
  | 0, u, h => by
    refine ⟨[], by simp [setsF], fun x => ⟨fun z => (by cases z), fun z => ?_⟩⟩
    have := h x z
    omega
  | n + 1, u, h => by
    have h' : InR (n : Nat) (u.filter fun x => decide (x ≠ (n : Int))) := fun x hx => by
      obtain ⟨h1, h2⟩ := List.mem_filter.mp hx
      have := h x h1
      have h3 : x ≠ (n : Int) := of_decide_eq_true h2
      omega
    obtain ⟨t, ht, e⟩ := setsF_all n _ h'
    by_cases hn : (n : Int) ∈ u
    · refine ⟨t ++ [(n : Int)], List.mem_append_right _ (List.mem_map.mpr ⟨t, ht, rfl⟩), fun x => ?_⟩
      rw [List.mem_append, e, List.mem_filter, List.mem_singleton]
      constructor
      · rintro (⟨h1, _⟩ | h1)
        · exact h1
        · rw [h1]
          exact hn
      · intro h1
        by_cases q : x = (n : Int)
        · exact .inr q
        · exact .inl ⟨h1, decide_eq_true q⟩
    · refine ⟨t, List.mem_append_left _ ht, fun x => ?_⟩
      rw [e, List.mem_filter]
      refine ⟨fun h1 => h1.1, fun h1 => ⟨h1, decide_eq_true fun q => hn (q ▸ h1)⟩⟩
theorem setsF_nl {n : Nat} {t : List Int} (h : t ∈ setsF n) : t.length ≤ n := by
  obtain ⟨h1, h2⟩ := setsF_ok n t h
  have := inR_len h2 h1
  simpa using this
theorem allSets_of {n : Nat} {S : List (List Int)} (hp : S.Perm (setsF n)) (hs : S.Pairwise fun a b => a.length ≤ b.length) : AllSets (n : Nat) S :=
  ⟨fun t ht => setsF_ok n t (hp.mem_iff.mp ht), fun u hu => (setsF_all n u hu).imp fun t ⟨h1, h2⟩ => ⟨hp.mem_iff.mpr h1, h2⟩, hs⟩
section
variable {P : Program} {w : World} {K : PySem.W.Frag} {mg : Str → Option Value} {base : Heap}
theorem ext_tup {H H' : Hp} {a : Addr} {xs : List V} (eN : LamX.ExtN H H') (h : SqT K H a xs) : SqT K H' a xs := by
  rcases h with (h | ⟨o, h⟩) | h
  · exact .inl (.inl (eN _ _ h (fun _ z => by cases z)))
  · exact .inl (.inr ⟨o, eN _ _ h (fun _ z => by cases z)⟩)
  · exact .inr h
theorem SetAt.ext {H H' : Hp} {v : V} {ns : List Int} (e : LamX.ExtN H H') (h : SetAt K H v ns) : SetAt K H' v ns := let ⟨a, h1, h2⟩ := h; ⟨a, h1, ext_tup e h2⟩
theorem SetAt.same {H H' : Hp} {v : V} {ns : List Int} (e : Same H H') (h : SetAt K H v ns) : SetAt K H' v ns := let ⟨a, h1, h2⟩ := h; ⟨a, h1, same_tup e h2⟩
theorem SetAt.kp {H H' : Hp} {v : V} {ns : List Int} (e : Kp K H H') (h : SetAt K H v ns) : SetAt K H' v ns := let ⟨a, h1, h2⟩ := h; ⟨a, h1, e.tk.tup h2⟩
def sp_sets (K : PySem.W.Frag) : Sp := fun vs H Q _ => ∃ n : Nat, vs = [.int (n : Nat)] ∧ n ≤ 5 ∧ LamX.Tabs (tabT K) H ∧ ∀ H' p ws S, LamX.ExtN H H' → LamX.Tabs (tabT K) H' → H' p = some (.lst ws) → Paired (SetAt K H') ws S → AllSets (n : Nat) S → S.length ≤ 1000 → Q (.ref p) H'
abbrev N_sets : List Str := ["_law_marks", "_law_found", "_law_mark", "_law_one"]
theorem sc_sets : FnScope N_sets ["_law_marks"] (defScope s_l_sets) := ⟨rfl, rfl, rfl, by decide +kernel, rfl, by decide +kernel, by decide +kernel⟩
theorem pow_le32 {i : Nat} (h : i ≤ 5) : 2 ^ i ≤ 32 := Nat.pow_le_pow_right (by decide) h
theorem ok_sets (T : TX K mg) (B : TBs K mg base) : FnR P w K mg base CX0 5 (He.ga K "_law_sets") (sp_sets K) := by
  refine fr0T (p := ("_law_sets", none)) T.fn_l_sets sc_sets (fun _ _ _ _ _ _ us hl => match us, hl with | [_], _ => rfl) (fun vs H Q E h => ?_) (fun A outer s H vs Q E hr h => ?_)
  · obtain ⟨n, rfl, _⟩ := h
    rfl
  · obtain ⟨n, rfl, hn, hT, q⟩ := h
    have nd := sc_sets.nd
    refine ⟨_, pss_cons (ps_set (i := 1) nd rfl (Or.inl rfl) (pe_lst (pa_cons (pe_tup pa_nil) pa_nil)))
      (pss_cons (ps_for PassesOwn.never rfl (pi_range1 rfl T.free_range (pa_cons (pv 0) pa_nil)) (pg_name (i := 2) nd rfl (by first | exact Or.inl rfl | exact Or.inr rfl) (by first | exact Or.inl rfl | exact Or.inr rfl))
        (pss_one (ps_set (i := 1) nd rfl (Or.inl rfl) (pe_op op_cat (pv 1) (pe_lc (own := [("_law_one", 3)]) rfl nd (pi_list (pv 1)) (blkOk_by (N := N_sets) (sc := defScope s_l_sets) (by decide +kernel)) (fun _ _ _ _ _ => pg_name (i := 3) nd rfl (Or.inl rfl)) (fun _ _ _ _ _ => pts_nil)
          (fun _ _ _ _ _ => pe_op (r := rCatA K) (by exact op_catA) (pv 3) (pe_tup (pa_cons (pv 2) pa_nil))))))))
      (pss_one (ps_ret (pe_sortSets (T := tabT K) T (by rfl) (pv 1) (B ("_law_sets", none) (by simp [tabDefs])) rfl (by exact .head _) (tab_hu T (by exact .head _)) (hr.mono (by decide)) rfl rfl rfl rfl rfl rfl (by decide +kernel) (by decide +kernel) (fun _ _ _ _ _ _ => rfl))))), ?_⟩
    refine ⟨by show 0 ≤ sizeLine; decide, fun t0 ht0 => ⟨by show 1 ≤ sizeLine; decide, fun l hl => ?_⟩⟩
    have e1 : Same H (upd (upd H t0 (.tup [])) l (.lst [.ref t0])) := (same_new ht0).trans (same_new hl)
    have p0 : Paired (SetAt K (upd (upd H t0 (.tup [])) l (.lst [.ref t0]))) [.ref t0] (setsF 0) := .cons ⟨t0, rfl, same_tup (same_new hl) (SqT.of upd_same)⟩ .nil
    refine ⟨_, rfl, ((n : Nat) : Int), rfl, by omega, by omega, for_it (walk_range (lo := 0) (n := (((n : Nat) : Int)).toNat))
      (fun i σ H' => ∃ (p2 p3 : Option V) (l : Addr) (ws : List V), σ = [some (.int (n : Nat)), some (.ref l), p2, p3] ∧ Same H H' ∧ H' l = some (.lst ws) ∧ Paired (SetAt K H') ws (setsF i))
      ⟨none, none, l, _, rfl, e1, upd_same, p0⟩ (fun _ _ _ _ _ => True.intro) (fun i x σ H2 H3 hi pp y => ?_) (fun σ H2 pp => ?_)⟩
    · obtain ⟨rfl, rfl⟩ := y
      obtain ⟨p2, p3, l, ws, rfl, e, h3, hp⟩ := pp
      have hi5 : i < n := by simpa using hi
      have l1 := Paired.length hp
      rw [setsF_len] at l1
      have l32 := pow_le32 (i := i) (by omega)
      refine ⟨_, rfl, _, rfl, l, rfl, ⟨_, SqL.of h3⟩, fun D hD => lc_it (walk_list (xs := ws)) (fun j H' => Same H3 H' ∧ ∃ vs, H' D = some (.lst vs) ∧ Paired (SetAt K H') vs (((setsF i).take j).map fun t => t ++ [(i : Int)]))
        ⟨same_new hD, [], upd_same, by simpa using Paired.nil⟩ (fun j H' _ pp => same_sql pp.1 (SqL.of h3)) (fun j x H4 H5 hj pp y => ?_) (fun H4 pp => ?_)⟩
      · obtain ⟨rfl, hx⟩ := y
        obtain ⟨e4, vs, hv, hvp⟩ := pp
        obtain ⟨ns, hns, a, rfl, ha⟩ := paired_get hp hx
        have ha5 := same_tup e4 ha
        refine ⟨rfl, _, rfl, _, rfl, by show 1 ≤ sizeLine; decide, fun t ht => ?_⟩
        have e5 := same_new (o := .tup [.int (0 + (i : Int))]) ht
        have hnl := setsF_nl (List.mem_of_getElem? hns)
        have fin : ∀ (v : V) (H6 : Hp), Same (upd H5 t (.tup [.int (0 + (i : Int))])) H6 → SetAt K H6 v (ns ++ [(i : Int)]) → ∃ acc, H6 D = some (.lst acc) ∧ acc.length < sizeLine ∧ (Same H3 (upd H6 D (.lst (acc ++ [v]))) ∧ ∃ vs, upd H6 D (.lst (acc ++ [v])) D = some (.lst vs) ∧ Paired (SetAt K (upd H6 D (.lst (acc ++ [v])))) vs (((setsF i).take (j + 1)).map fun t => t ++ [(i : Int)])) := fun v H6 e6 hv6 => by
          have lv := Paired.length hvp
          rw [List.length_map, List.length_take] at lv
          have hD6 : H6 D = some (.lst vs) := e6 _ _ (e5 _ _ hv)
          have K7 : Kp K H6 (upd H6 D (.lst (vs ++ [v]))) := Kp.but (M := [D]) (ButN.of ((But.refl _ _).updM (by simp))) fun y hy => by
            rw [List.mem_singleton.mp hy]
            exact mut_lst hD6
          have K57 : Kp K H5 (upd H6 D (.lst (vs ++ [v]))) := (Kp.same (e5.trans e6)).trans K7
          refine ⟨vs, hD6, small1000 (by omega), same_upd (e4.trans (e5.trans e6)) hD, _, upd_same, ?_⟩
          rw [take_snoc hns, List.map_append]
          exact paired_snoc (Paired.mapP hvp fun _ _ => SetAt.kp K57) (hv6.kp K7)
        refine ⟨a, t, _, _, rfl, rfl, same_tup e5 ha5, SqT.of upd_same, ?_, fun hnil => ?_, fun _ z => (by cases z), fun hne _ p' hp' => ?_⟩
        · rw [List.length_map]
          show ns.length + 1 ≤ sizeLine
          have : sizeLine = 16777216 := sizeLine_eq
          omega
        · have en : ns = [] := by simpa using hnil
          subst en
          refine fin _ _ (Same.refl _) ⟨t, rfl, ?_⟩
          have z : SqT K (upd H5 t (.tup [.int (0 + (i : Int))])) t [.int (0 + (i : Int))] := SqT.of upd_same
          simpa using z
        · refine fin _ _ (same_new hp') ⟨p', rfl, ?_⟩
          have z : SqT K (upd (upd H5 t (.tup [.int (0 + (i : Int))])) p' (.tup (ns.map V.int ++ [.int (0 + (i : Int))]))) p' (ns.map V.int ++ [.int (0 + (i : Int))]) := SqT.of upd_same
          simpa using z
      · obtain ⟨e4, vs, hv, hvp⟩ := pp
        have lv := Paired.length hvp
        rw [take_full (Paired.length hp)] at hvp lv
        rw [List.length_map, setsF_len] at lv
        refine ⟨l, D, ws, vs, rfl, rfl, e4 _ _ h3, hv, ?_, fun l6 hl6 => ?_⟩
        · have : sizeLine = 16777216 := sizeLine_eq
          omega
        · have e6 := same_new (o := .lst (ws ++ vs)) hl6
          refine ⟨_, _, l6, _, rfl, e.trans (e4.trans e6), upd_same, ?_⟩
          exact paired_app (Paired.mapP hp fun _ _ => SetAt.same (e4.trans e6)) (Paired.mapP hvp fun _ _ => SetAt.same e6)
    · obtain ⟨p2, p3, l, ws, rfl, e, h3, hp⟩ := pp
      rw [show (((n : Nat) : Int)).toNat = n from Int.toNat_natCast n] at hp
      have l32 := pow_le32 hn
      refine ⟨_, rfl, hT.ext e, l, ws, setsF n, rfl, h3, hp, by rw [setsF_len]; omega, fun ns hns => by have := setsF_nl hns; omega, fun H4 p' ws' S' eN T4 h4 hp' hperm hsort => ?_⟩
      refine q H4 p' ws' S' ((LamX.ExtN.of e).trans eN) T4 h4 (Paired.mapP hp' fun _ _ => SetAt.ext eN) (allSets_of hperm hsort) ?_
      rw [hperm.length_eq, setsF_len]
      omega
end
end K47
set_option maxHeartbeats 4000000
/-! ### the law's closure -/
namespace K47
open PySem PySem.Spec PyProof.Rows L2
theorem Kp.ext {K : PySem.W.Frag} {H H' : Hp} (e : LamX.ExtN H H') : Kp K H H' := Kp.but (M := []) (ButN.ext e) (fun _ h => by cases h)
section
variable {P : Program} {w : World} {K : PySem.W.Frag} {mg : Str → Option Value} {base : Heap}
/-! #### _law_within -/
def sp_lwithin (K : PySem.W.Frag) : Sp := fun vs H Q _ => ∃ (a b : Addr) (xs ys : List Int), vs = [.ref a, .ref b] ∧ SqT K H a (xs.map V.int) ∧ SqT K H b (ys.map V.int) ∧ xs.length ≤ 1000 ∧ ∀ H', Same H H' → Q (.bl (within xs ys)) H'
abbrev N_lwithin : List Str := ["_law_one", "_law_other", "_law_mark"]
theorem sc_lwithin : FnScope N_lwithin ["_law_one", "_law_other"] (defScope s_l_within) := ⟨rfl, rfl, rfl, by decide +kernel, rfl, by decide +kernel, by decide +kernel⟩
theorem ok_lwithin (T : TX K mg) : FnR P w K mg base CX0 1 (He.ga K "_law_within") (sp_lwithin K) := by
  refine fr0 T.fn_l_within sc_lwithin (fun _ _ _ _ _ _ us hl => match us, hl with | [_, _], _ => rfl) (fun vs H Q E h => ?_) (fun cdv A outer s H vs Q E hr h => ?_)
  · obtain ⟨a, b, xs, ys, rfl, _⟩ := h
    rfl
  · obtain ⟨a, b, xs, ys, rfl, hA, hB, hl, q⟩ := h
    have nd := sc_lwithin.nd
    refine ⟨_, pss_one (ps_ret (pe_callB (cr_all rfl) (by rfl) T.free_all bb_all (pa_cons (pe_lc (own := [("_law_mark", 2)]) rfl nd (pi_tup (pv 0)) (blkOk_by (N := N_lwithin) (sc := defScope s_l_within) (by decide +kernel)) (fun _ _ _ _ _ => pg_name (i := 2) nd rfl (Or.inl rfl)) (fun _ _ _ _ _ => pts_nil)
      (fun _ _ _ _ _ => pe_cmpR (r := rIn K false) (by exact op_in_seq) (pv 2) (pv 1) (by rfl))) pa_nil))), ?_⟩
    refine ⟨_, rfl, a, rfl, ⟨_, hA⟩, fun D hD => lc_same (walk_tup (xs := xs.map V.int)) (fun i => ((xs.map fun x => ys.contains x).map V.bl).take i) rfl hD (fun H1 e => same_tup e hA) (fun i x H1 H2 hi p y => ?_) (fun H1 e hD1 => ?_)⟩
    · obtain ⟨rfl, hx⟩ := y
      obtain ⟨z, hz, rfl⟩ := map_get hx
      refine ⟨rfl, _, rfl, _, rfl, b, _, rfl, .inr (same_tup p.1 hB), rfl, all_flat_ints ys, ?_⟩
      refine lcn_yes hD (take_lt (n := xs.length) (by simp) hl) p (take_snoc ?_)
      rw [get_map (get_map hz), inV_ints]
      rfl
    · rw [take_full (by simp)] at hD1
      refine ⟨D, _, rfl, SqL.of hD1, ?_⟩
      rw [List.all_map]
      exact q _ e
/-! #### _law_shut -/
theorem shut_all (R : List Rl) (t : List Int) : ((R.filter fun r => within r.1 t).map fun r => within r.2 t).all id = shut R t := by
  unfold shut
  induction R with
  | nil => rfl
  | cons r R ih =>
    rw [List.filter_cons, List.all_cons]
    cases e : within r.1 t with
    | true =>
      rw [if_pos rfl, List.map_cons, List.all_cons, ih]
      rfl
    | false =>
      rw [if_neg (by simp), ih]
      simp
def sp_shut (K : PySem.W.Frag) : Sp := fun vs H Q _ => ∃ (rv : V) (t : Addr) (R : List Rl) (ns : List Int), vs = [rv, .ref t] ∧ RlsAt K H rv R ∧ SqT K H t (ns.map V.int) ∧ (∀ r ∈ R, small r) ∧ R.length ≤ 1000 ∧ ∀ H', Same H H' → Q (.bl (shut R ns)) H'
abbrev N_shut : List Str := ["_law_rules_here", "_law_thing", "_law_first", "_law_late"]
theorem sc_shut : FnScope N_shut ["_law_rules_here", "_law_thing"] (defScope s_l_shut) := ⟨rfl, rfl, rfl, by decide +kernel, rfl, by decide +kernel, by decide +kernel⟩
theorem ok_shut (T : TX K mg) : FnR P w K mg base CX0 2 (He.ga K "_law_shut") (sp_shut K) := by
  refine fr0 T.fn_l_shut sc_shut (fun _ _ _ _ _ _ us hl => match us, hl with | [_, _], _ => rfl) (fun vs H Q E h => ?_) (fun cdv A outer s H vs Q E hr h => ?_)
  · obtain ⟨rv, t, R, ns, rfl, _⟩ := h
    rfl
  · obtain ⟨rv, t, R, ns, rfl, ⟨ra, rvs, rfl, hra, hrs⟩, ht, hsm, hl, q⟩ := h
    have nd := sc_shut.nd
    refine ⟨_, pss_one (ps_ret (pe_callB (cr_all rfl) (by rfl) T.free_all bb_all (pa_cons (pe_lc (own := [("_law_first", 2), ("_law_late", 3)]) rfl nd (pi_tup (pv 0)) (blkOk_by (N := N_shut) (sc := defScope s_l_shut) (by decide +kernel)) (fun _ _ _ _ _ => pg_pair (K := K) 2 3 nd)
      (fun _ _ _ _ _ => pts_one (pt_val (pe_g (ok_lwithin T) hr (by rfl) T.glo__law_within (kp_of T.fn_l_within) pass0 (pa_cons (pv 2) (pa_cons (pv 1) pa_nil)))))
      (fun _ _ _ _ _ => pe_g (ok_lwithin T) hr (by rfl) T.glo__law_within (kp_of T.fn_l_within) pass0 (pa_cons (pv 3) (pa_cons (pv 1) pa_nil)))) pa_nil))), ?_⟩
    refine ⟨_, rfl, ra, rfl, ⟨_, hra⟩, fun D hD => lc_same (walk_tup (xs := rvs)) (fun i => (((R.take i).filter fun r => within r.1 ns).map fun r => within r.2 ns).map V.bl) rfl hD (fun H1 e => same_tup e hra) (fun i x H1 H2 hi p y => ?_) (fun H1 e hD1 => ?_)⟩
    · obtain ⟨rfl, hx⟩ := y
      obtain ⟨r, hr1, hr2⟩ := paired_get hrs hx
      obtain ⟨a, pp, pq, rfl, t1, t2, t3⟩ := same_rl p.1 hr2
      have sm := hsm r (List.mem_of_getElem? hr1)
      refine ⟨a, _, rfl, t1, rfl, _, _, rfl, _, _, rfl, rfl, rfl, ?_⟩
      refine ⟨_, rfl, _, rfl, pp, t, r.1, ns, rfl, t2, same_tup p.1 ht, sm.1, fun H3 e3 => ⟨_, rfl, ?_⟩⟩
      by_cases hw : within r.1 ns = true
      · rw [hw]
        refine iteT ⟨_, rfl, _, rfl, pq, t, r.2, ns, rfl, same_tup e3 t3, same_tup e3 (same_tup p.1 ht), sm.2, fun H4 e4 => ?_⟩
        refine lcn_yes hD ?_ (lcn_same p (e3.trans e4)) ?_
        · rw [List.length_map, List.length_map]
          have h1 := List.length_filter_le (fun r : Rl => within r.1 ns) (R.take i)
          have h2 : (R.take i).length ≤ R.length := by simp; omega
          exact small1000 (by omega)
        · rw [take_snoc hr1, List.filter_append, List.map_append, List.map_append]
          simp [hw]
      · have hw2 : within r.1 ns = false := by simpa using hw
        rw [hw2]
        refine iteF (lcn_no (lcn_same p e3) ?_)
        rw [take_snoc hr1, List.filter_append]
        simp [hw2]
    · rw [take_full (Paired.length hrs)] at hD1
      refine ⟨D, _, rfl, SqL.of hD1, ?_⟩
      rw [shut_all]
      exact q _ e
/-! #### _law_closed_sets -/
def sp_closed (K : PySem.W.Frag) : Sp := fun vs H Q _ => ∃ (n : Nat) (rv : V) (R : List Rl), vs = [.int (n : Nat), rv] ∧ n ≤ 5 ∧ RlsAt K H rv R ∧ (∀ r ∈ R, small r) ∧ R.length ≤ 1000 ∧ LamX.Tabs (tabT K) H ∧
  ∀ H' p ws S, LamX.ExtN H H' → LamX.Tabs (tabT K) H' → H' p = some (.lst ws) → Paired (SetAt K H') ws (S.filter fun t => shut R t) → AllSets (n : Nat) S → S.length ≤ 1000 → Q (.ref p) H'
abbrev N_closed : List Str := ["_law_marks", "_law_rules_here", "_law_one"]
theorem sc_closed : FnScope N_closed ["_law_marks", "_law_rules_here"] (defScope s_l_closed_sets) := ⟨rfl, rfl, rfl, by decide +kernel, rfl, by decide +kernel, by decide +kernel⟩
theorem ok_closed (T : TX K mg) (B : TBs K mg base) : FnR P w K mg base CX0 6 (He.ga K "_law_closed_sets") (sp_closed K) := by
  refine fr0 T.fn_l_closed_sets sc_closed (fun _ _ _ _ _ _ us hl => match us, hl with | [_, _], _ => rfl) (fun vs H Q E h => ?_) (fun cdv A outer s H vs Q E hr h => ?_)
  · obtain ⟨n, rv, R, rfl, _⟩ := h
    rfl
  · obtain ⟨n, rv, R, rfl, hn, hR, hsm, hl, hT, q⟩ := h
    have nd := sc_closed.nd
    refine ⟨_, pss_one (ps_ret (pe_lc (own := [("_law_one", 2)]) rfl nd (pi_list (pe_g (ok_sets T B) hr (by rfl) T.glo__law_sets (kp_of T.fn_l_sets) pass0 (pa_cons (pv 0) pa_nil))) (blkOk_by (N := N_closed) (sc := defScope s_l_closed_sets) (by decide +kernel)) (fun _ _ _ _ _ => pg_name (i := 2) nd rfl (Or.inl rfl))
      (fun _ _ _ _ _ => pts_one (pt_val (pe_g (ok_shut T) hr (by rfl) T.glo__law_shut (kp_of T.fn_l_shut) pass0 (pa_cons (pv 1) (pa_cons (pv 2) pa_nil))))) (fun _ _ _ _ _ => pv 2))), ?_⟩
    refine ⟨_, rfl, n, rfl, hn, hT, fun H1 p ws S eN T1 h1 hp hall hSl => ?_⟩
    have R1 := (Kp.ext eN).rls hR
    refine ⟨p, rfl, ⟨_, SqL.of h1⟩, fun D hD => lc_it (walk_list (xs := ws)) (fun i H' => Same H1 H' ∧ ∃ vs, H' D = some (.lst vs) ∧ Paired (SetAt K H') vs ((S.take i).filter fun t => shut R t))
      ⟨same_new hD, [], upd_same, by simpa using Paired.nil⟩ (fun i H' _ pp => same_sql pp.1 (SqL.of h1)) (fun i x H2 H3 hi pp y => ?_) (fun H2 pp => ?_)⟩
    · obtain ⟨rfl, hx⟩ := y
      obtain ⟨e2, vs, hv, hvp⟩ := pp
      obtain ⟨ns, hns, a, rfl, ha⟩ := paired_get hp hx
      refine ⟨rfl, _, rfl, _, rfl, rv, a, R, ns, rfl, same_rls e2 R1, same_tup e2 ha, hsm, hl, fun H4 e4 => ⟨_, rfl, ?_⟩⟩
      have lv := Paired.length hvp
      by_cases hw : shut R ns = true
      · rw [hw]
        have hv4 := e4 _ _ hv
        refine iteT ⟨_, rfl, vs, hv4, ?_, same_upd (e2.trans e4) hD, _, upd_same, ?_⟩
        · have h1 := List.length_filter_le (fun t => shut R t) (S.take i)
          have h2 : (S.take i).length ≤ S.length := by simp; omega
          exact small1000 (by omega)
        · have K4 : Kp K H4 (upd H4 D (.lst (vs ++ [.ref a]))) := Kp.but (M := [D]) (ButN.of ((But.refl _ _).updM (by simp))) fun y hy => by
            rw [List.mem_singleton.mp hy]
            exact mut_lst hv4
          have KT := (Kp.same (K := K) e4).trans K4
          rw [take_snoc hns, List.filter_append]
          have e1 : ([ns].filter fun t => shut R t) = [ns] := by simp [hw]
          rw [e1]
          exact paired_snoc (Paired.mapP hvp fun _ _ => SetAt.kp KT) ⟨a, rfl, KT.tk.tup (same_tup e2 ha)⟩
      · have hw2 : shut R ns = false := by simpa using hw
        rw [hw2]
        refine iteF ⟨e2.trans e4, vs, e4 _ _ hv, ?_⟩
        rw [take_snoc hns, List.filter_append]
        have e1 : ([ns].filter fun t => shut R t) = [] := by simp [hw2]
        rw [e1, List.append_nil]
        exact Paired.mapP hvp fun _ _ => SetAt.same e4
    · obtain ⟨e2, vs, hv, hvp⟩ := pp
      rw [take_full (Paired.length hp)] at hvp
      exact q H2 D vs S (eN.trans (LamX.ExtN.of e2)) (T1.ext e2) hv hvp hall hSl
/-! #### _law_closure -/
def sp_lclosure (K : PySem.W.Frag) : Sp := fun vs H Q _ => ∃ (n : Nat) (rv : V) (t : Addr) (R : List Rl) (ns : List Int), vs = [.int (n : Nat), rv, .ref t] ∧ n ≤ 5 ∧ RlsAt K H rv R ∧ SqT K H t (ns.map V.int) ∧ ValidR (n : Nat) R ∧ InR (n : Nat) ns ∧ ns.length ≤ 1000 ∧ (∀ r ∈ R, small r) ∧ R.length ≤ 1000 ∧ LamX.Tabs (tabT K) H ∧
  ∀ H' p c, LamX.ExtN H H' → LamX.Tabs (tabT K) H' → SqT K H' p (c.map V.int) → IsCl R ns c → Q (.ref p) H'
abbrev N_lclosure : List Str := ["_law_marks", "_law_rules_here", "_law_thing", "_law_one"]
theorem sc_lclosure : FnScope N_lclosure ["_law_marks", "_law_rules_here", "_law_thing"] (defScope s_l_closure) := ⟨rfl, rfl, rfl, by decide +kernel, rfl, by decide +kernel, by decide +kernel⟩
theorem ok_lclosure (T : TX K mg) (B : TBs K mg base) : FnR P w K mg base CX0 7 (He.ga K "_law_closure") (sp_lclosure K) := by
  refine fr0 T.fn_l_closure sc_lclosure (fun _ _ _ _ _ _ us hl => match us, hl with | [_, _, _], _ => rfl) (fun vs H Q E h => ?_) (fun cdv A outer s H vs Q E hr h => ?_)
  · obtain ⟨n, rv, t, R, ns, rfl, _⟩ := h
    rfl
  · obtain ⟨n, rv, t, R, ns, rfl, hn, hR, ht, hV, hI, hnl, hsm, hl, hT, q⟩ := h
    have nd := sc_lclosure.nd
    refine ⟨_, pss_one (ps_ret (pe_ix ix_list (pe_lc (own := [("_law_one", 3)]) rfl nd (pi_list (pe_g (ok_closed T B) hr (by rfl) T.glo__law_closed_sets (kp_of T.fn_l_closed_sets) pass0 (pa_cons (pv 0) (pa_cons (pv 1) pa_nil)))) (blkOk_by (N := N_lclosure) (sc := defScope s_l_closure) (by decide +kernel)) (fun _ _ _ _ _ => pg_name (i := 3) nd rfl (Or.inl rfl))
      (fun _ _ _ _ _ => pts_one (pt_val (pe_g (ok_lwithin T) hr (by rfl) T.glo__law_within (kp_of T.fn_l_within) pass0 (pa_cons (pv 2) (pa_cons (pv 3) pa_nil))))) (fun _ _ _ _ _ => pv 3)) pe_int (fun _ _ => rfl))), ?_⟩
    refine ⟨_, rfl, _, rfl, n, rv, R, rfl, hn, hR, hsm, hl, hT, fun H1 p ws S eN T1 h1 hp hall hSl => ?_⟩
    have t1 : SqT K H1 t (ns.map V.int) := ext_tup eN ht
    refine ⟨p, rfl, ⟨_, SqL.of h1⟩, fun D hD => lc_it (walk_list (xs := ws)) (fun i H' => Same H1 H' ∧ ∃ vs, H' D = some (.lst vs) ∧ Paired (SetAt K H') vs (((S.filter fun t => shut R t).take i).filter fun t => within ns t))
      ⟨same_new hD, [], upd_same, by simpa using Paired.nil⟩ (fun i H' _ pp => same_sql pp.1 (SqL.of h1)) (fun i x H2 H3 hi pp y => ?_) (fun H2 pp => ?_)⟩
    · obtain ⟨rfl, hx⟩ := y
      obtain ⟨e2, vs, hv, hvp⟩ := pp
      obtain ⟨us, hus, a, rfl, ha⟩ := paired_get hp hx
      refine ⟨rfl, _, rfl, _, rfl, t, a, ns, us, rfl, same_tup e2 t1, same_tup e2 ha, hnl, fun H4 e4 => ⟨_, rfl, ?_⟩⟩
      have lv := Paired.length hvp
      by_cases hw : within ns us = true
      · rw [hw]
        have hv4 := e4 _ _ hv
        refine iteT ⟨_, rfl, vs, hv4, ?_, same_upd (e2.trans e4) hD, _, upd_same, ?_⟩
        · have h1 := List.length_filter_le (fun t => within ns t) ((S.filter fun t => shut R t).take i)
          have h2 : ((S.filter fun t => shut R t).take i).length ≤ (S.filter fun t => shut R t).length := by simp; omega
          have h3 := List.length_filter_le (fun t => shut R t) S
          exact small1000 (by omega)
        · have K4 : Kp K H4 (upd H4 D (.lst (vs ++ [.ref a]))) := Kp.but (M := [D]) (ButN.of ((But.refl _ _).updM (by simp))) fun y hy => by
            rw [List.mem_singleton.mp hy]
            exact mut_lst hv4
          have KT := (Kp.same (K := K) e4).trans K4
          rw [take_snoc hus, List.filter_append]
          have e1 : ([us].filter fun t => within ns t) = [us] := by simp [hw]
          rw [e1]
          exact paired_snoc (Paired.mapP hvp fun _ _ => SetAt.kp KT) ⟨a, rfl, KT.tk.tup (same_tup e2 ha)⟩
      · have hw2 : within ns us = false := by simpa using hw
        rw [hw2]
        refine iteF ⟨e2.trans e4, vs, e4 _ _ hv, ?_⟩
        rw [take_snoc hus, List.filter_append]
        have e1 : ([us].filter fun t => within ns t) = [] := by simp [hw2]
        rw [e1, List.append_nil]
        exact Paired.mapP hvp fun _ _ => SetAt.same e4
    · obtain ⟨e2, vs, hv, hvp⟩ := pp
      rw [take_full (Paired.length hp)] at hvp
      obtain ⟨c, l, ec, hc⟩ := first_cl hall hV hI
      rw [ec] at hvp
      cases hvp with
      | cons r t =>
        obtain ⟨a, rfl, ha⟩ := r
        exact ⟨D, _, 0, _, rfl, rfl, SqL.of hv, atI_nat (j := 0) rfl, q H2 a c (eN.trans (LamX.ExtN.of e2)) (T1.ext e2) ha hc⟩
end
end K47
set_option maxHeartbeats 4000000
/-! ### the law's drawn sets and rules; the law's own change -/
namespace K47
open PySem PySem.Spec PyProof.Rows L2
section
variable {P : Program} {w : World} {K : PySem.W.Frag} {mg : Str → Option Value} {base : Heap}
theorem kp_d {H H' : Hp} {d : Addr} (hd : Drw H d) (e : But [d] H H') : Kp K H H' := Kp.but (ButN.of e) fun y hy => by
  obtain ⟨ds, h, _⟩ := hd
  rw [List.mem_singleton.mp hy]
  exact mut_lst h
/-! #### _law_set -/
def sp_lset (K : PySem.W.Frag) : Sp := fun vs H Q _ => ∃ (d : Addr) (n : Nat) (often : Int), vs = [.ref d, .int (n : Nat), .int often] ∧ Drw H d ∧ n ≤ 5 ∧ 0 < often ∧
  ∀ H' p (ns : List Int), But [d] H H' → Drw H' d → SqT K H' p (ns.map V.int) → isSet (n : Nat) ns = true → Q (.ref p) H'
abbrev N_lset : List Str := ["_law_draws", "_law_marks", "_law_often", "_law_mark"]
theorem sc_lset : FnScope N_lset ["_law_draws", "_law_marks", "_law_often"] (defScope s_l_set) := ⟨rfl, rfl, rfl, by decide +kernel, rfl, by decide +kernel, by decide +kernel⟩
theorem isSet_of {n : Nat} {ns : List Int} (h1 : ns.Pairwise (· < ·)) (h2 : ∀ x ∈ ns, 0 ≤ x ∧ x < (n : Nat)) : isSet (n : Nat) ns = true := by
  unfold isSet
  rw [Bool.and_eq_true, List.all_eq_true]
  refine ⟨fun x hx => ?_, pw_asc h1⟩
  obtain ⟨a, b⟩ := h2 x hx
  rw [isIn_int, decide_eq_true (by omega), decide_eq_true (by omega)]
  rfl
theorem ok_lset (T : TX K mg) : FnR P w K mg base CX0 2 (He.ga K "_law_set") (sp_lset K) := by
  refine fr0 T.fn_l_set sc_lset (fun _ _ _ _ _ _ us hl => match us, hl with | [_, _, _], _ => rfl) (fun vs H Q E h => ?_) (fun cdv A outer s H vs Q E hr h => ?_)
  · obtain ⟨d, n, often, rfl, _⟩ := h
    rfl
  · obtain ⟨d, n, often, rfl, hd, hn, ho, q⟩ := h
    have nd := sc_lset.nd
    refine ⟨_, pss_one (ps_ret (pe_callTy call_tuple_of (by rfl) T.free_tuple bb_tuple (pa_cons (pe_lc (own := [("_law_mark", 3)]) rfl nd (pi_range1 rfl T.free_range (pa_cons (pv 1) pa_nil)) (blkOk_by (N := N_lset) (sc := defScope s_l_set) (by decide +kernel)) (fun _ _ _ _ _ => pg_name (i := 3) nd rfl (Or.inl rfl))
      (fun _ _ _ _ _ => pts_one (pt_cmpR op_eq (pe_g (ok_l_take T) hr (by rfl) T.glo__law_take (kp_of T.fn_l_take) pass0 (pa_cons (pv 0) (pa_cons (pv 2) pa_nil))) pe_int (nomark _))) (fun _ _ _ _ _ => pv 3)) pa_nil))), ?_⟩
    refine ⟨_, rfl, ((n : Nat) : Int), rfl, by omega, by omega, fun D hD => ?_⟩
    have hdD : d ≠ D := by
      obtain ⟨ds, h, _⟩ := hd
      exact ne_of_none h hD
    refine lc_it (walk_range (lo := 0) (n := (((n : Nat) : Int)).toNat)) (fun j H' => But [d] H H' ∧ Drw H' d ∧ ∃ ns : List Int, H' D = some (.lst (ns.map V.int)) ∧ ns.Pairwise (· < ·) ∧ (∀ x ∈ ns, 0 ≤ x ∧ x < (j : Nat)) ∧ ns.length ≤ j)
      ⟨But.of (same_new hD), ?_, [], upd_same, .nil, fun _ z => (by cases z), Nat.le_refl _⟩ (fun _ _ _ _ => True.intro) (fun j x H2 H3 hj pp y => ?_) (fun H2 pp => ?_)
    · obtain ⟨ds, h, h2⟩ := hd
      exact ⟨ds, by rw [upd_ne hdD]; exact h, h2⟩
    · obtain ⟨rfl, rfl⟩ := y
      obtain ⟨b1, d1, ns, h1, h2, h3, h4⟩ := pp
      have hj5 : j < n := by simpa using hj
      refine ⟨rfl, _, rfl, _, rfl, d, often, rfl, d1, ho, fun H4 r b4 d4 r1 r2 => ⟨rfl, _, rfl, ?_⟩⟩
      have hD4 : H4 D = some (.lst (ns.map V.int)) := b4 _ _ h1 (by simpa using hdD.symm)
      refine ite2 (fun _ => ?_) (fun _ => ?_)
      · refine ⟨_, rfl, _, hD4, by rw [List.length_map]; exact small1000 (by omega), ?_, ?_, ns ++ [(j : Int)], ?_, ?_, fun x hx => ?_, ?_⟩
        · intro b o hb hn'
          have nb : b ≠ D := ne_of_none hb hD
          rw [upd_ne nb]
          exact (b1.trans b4) b o hb hn'
        · obtain ⟨ds, z1, z2⟩ := d4
          exact ⟨ds, by rw [upd_ne hdD]; exact z1, z2⟩
        · rw [upd_same, List.map_append]
          show some (HO.lst (_ ++ [V.int (0 + (j : Int))])) = _
          rw [Int.zero_add]
          rfl
        · exact List.pairwise_append.mpr ⟨h2, by simp, fun a ha b hb => by have := h3 a ha; have := List.mem_singleton.mp hb; omega⟩
        · rcases List.mem_append.mp hx with hx | hx
          · have := h3 x hx
            omega
          · have := List.mem_singleton.mp hx
            omega
        · rw [List.length_append]
          simp
          exact h4
      · exact ⟨b1.trans b4, d4, ns, hD4, h2, fun x hx => by have := h3 x hx; omega, by omega⟩
    · obtain ⟨b1, d1, ns, h1, h2, h3, h4⟩ := pp
      refine ⟨D, _, rfl, .inl ⟨SqL.of h1, fun t ht => ?_⟩⟩
      have e := same_new (o := .tup (ns.map V.int)) ht
      obtain ⟨ds, z1, z2⟩ := d1
      refine q _ t ns (b1.trans (But.of e)) ⟨ds, e _ _ z1, z2⟩ (SqT.of upd_same) (isSet_of h2 fun x hx => ?_)
      have := h3 x hx
      rw [show (((n : Nat) : Int)).toNat = n from Int.toNat_natCast n] at this
      exact this
/-! #### _law_rules -/
def sp_lrules (K : PySem.W.Frag) : Sp := fun vs H Q _ => ∃ (d : Addr) (n : Nat) (most : Nat), vs = [.ref d, .int (n : Nat), .int (most : Nat)] ∧ Drw H d ∧ n ≤ 5 ∧ most ≤ 16 ∧
  ∀ H' v R, But [d] H H' → Drw H' d → RlsAt K H' v R → ValidR (n : Nat) R → R.length ≤ most → Q v H'
abbrev N_lrules : List Str := ["_law_draws", "_law_marks", "_law_most", "_law_found", "_law_turn", "_law_premise"]
theorem sc_lrules : FnScope N_lrules ["_law_draws", "_law_marks", "_law_most"] (defScope s_l_rules) := ⟨rfl, rfl, rfl, by decide +kernel, rfl, by decide +kernel, by decide +kernel⟩
theorem ok_lrules (T : TX K mg) : FnR P w K mg base CX0 3 (He.ga K "_law_rules") (sp_lrules K) := by
  refine fr0 T.fn_l_rules sc_lrules (fun _ _ _ _ _ _ us hl => match us, hl with | [_, _, _], _ => rfl) (fun vs H Q E h => ?_) (fun cdv A outer s H vs Q E hr h => ?_)
  · obtain ⟨d, n, most, rfl, _⟩ := h
    rfl
  · obtain ⟨d, n, most, rfl, hd, hn, hm, q⟩ := h
    have nd := sc_lrules.nd
    refine ⟨_, pss_cons (ps_set (i := 3) nd rfl (Or.inl rfl) (pe_lst pa_nil))
      (pss_cons (ps_for PassesOwn.never rfl (pi_range1 rfl T.free_range (pa_cons (pe_g (ok_l_take T) hr (by rfl) T.glo__law_take (kp_of T.fn_l_take) pass0 (pa_cons (pv 0) (pa_cons (pe_op op_add (pv 2) pe_int) pa_nil))) pa_nil)) (pg_name (i := 4) nd rfl (Or.inl rfl))
        (pss_cons (ps_set (i := 5) nd rfl (Or.inl rfl) (pe_g (ok_lset T) hr (by rfl) T.glo__law_set (kp_of T.fn_l_set) pass0 (pa_cons (pv 0) (pa_cons (pv 1) (pa_cons (pe_op op_add pe_int (pe_g (ok_l_take T) hr (by rfl) T.glo__law_take (kp_of T.fn_l_take) pass0 (pa_cons (pv 0) (pa_cons pe_int pa_nil)))) pa_nil)))))
        (pss_one (ps_expr (pe_bm PySem.F.plainAttrs_list PySem.F.slot_list_append PySem.F.type_list_append mt_append (pv 3) (pa_cons (pe_tup (pa_cons (pv 5) (pa_cons (pe_g (ok_lset T) hr (by rfl) T.glo__law_set (kp_of T.fn_l_set) pass0 (pa_cons (pv 0) (pa_cons (pv 1) (pa_cons (pe_op op_add pe_int (pe_g (ok_l_take T) hr (by rfl) T.glo__law_take (kp_of T.fn_l_take) pass0 (pa_cons (pv 0) (pa_cons pe_int pa_nil)))) pa_nil)))) pa_nil))) pa_nil))))))
      (pss_one (ps_ret (pe_callTy call_tuple_of (by rfl) T.free_tuple bb_tuple (pa_cons (pv 3) pa_nil))))), ?_⟩
    refine ⟨by show 0 ≤ sizeLine; decide, fun l hl => ?_⟩
    have e0 := same_new (o := .lst []) hl
    have ndl : d ≠ l := by
      obtain ⟨ds, h, _⟩ := hd
      exact ne_of_none h hl
    have d0 : Drw (upd H l (.lst [])) d := let ⟨ds, h, h2⟩ := hd; ⟨ds, e0 _ _ h, h2⟩
    refine ⟨_, rfl, _, rfl, _, _, rfl, rfl, d, _, rfl, d0, by omega, fun H1 r b1 d1 r1 r2 => ?_⟩
    have hl1 : H1 l = some (.lst []) := b1 _ _ upd_same (by simpa using ndl.symm)
    refine ⟨r, rfl, by omega, by omega, for_it (walk_range (lo := 0) (n := r.toNat))
      (fun i σ H' => ∃ (p4 p5 : Option V) (rvs : List V) (R : List Rl), σ = [some (.ref d), some (.int (n : Nat)), some (.int (most : Nat)), some (.ref l), p4, p5] ∧ But [d] H H' ∧ Drw H' d ∧ H' l = some (.lst rvs) ∧ Paired (RlAt K H') rvs R ∧ ValidR (n : Nat) R ∧ R.length = i)
      ⟨none, none, [], [], rfl, (But.of e0).trans b1, d1, hl1, .nil, fun _ z => (by cases z), rfl⟩ (fun _ _ _ _ _ => True.intro) (fun i x σ H2 H3 hi pp y => ?_) (fun σ H2 pp => ?_)⟩
    · obtain ⟨rfl, rfl⟩ := y
      obtain ⟨p4, p5, rvs, R, rfl, b2, d2, h2, hp, hV, hlen⟩ := pp
      have nbl : l ∉ [d] := by simpa using ndl.symm
      refine ⟨_, rfl, _, rfl, _, rfl, d, 3, rfl, d2, by decide, fun H3 r3 b3 d3 q1 q2 => ⟨_, _, rfl, rfl, d, n, _, rfl, d3, hn, by omega, fun H4 pa na b4 d4 ha4 hs4 => ?_⟩⟩
      have h4 := b4 _ _ (b3 _ _ h2 nbl) nbl
      refine ⟨_, rfl, .inl ⟨rfl, _, SqL.of h4⟩, _, rfl, _, rfl, _, rfl, _, rfl, d, 3, rfl, d4, by decide, fun H5 r5 b5 d5 q3 q4 => ⟨_, _, rfl, rfl, d, n, _, rfl, d5, hn, by omega, fun H6 pb nb b6 d6 hb6 hs6 => ⟨by show 2 ≤ sizeLine; decide, fun t ht => ?_⟩⟩⟩
      have h6 := b6 _ _ (b5 _ _ h4 nbl) nbl
      have e7 := same_new (o := .tup [.ref pa, .ref pb]) ht
      have h7 := e7 _ _ h6
      have lr := Paired.length hp
      refine ⟨l, _, _, rfl, rfl, h7, small1000 (by omega), ?_⟩
      have K24 := (kp_d (K := K) d2 b3).trans (kp_d d3 b4)
      have K46 : Kp K H4 H6 := (kp_d d4 b5).trans (kp_d d5 b6)
      have K7 : Kp K H6 (upd H6 t (.tup [.ref pa, .ref pb])) := Kp.same e7
      have K8 : Kp K (upd H6 t (.tup [.ref pa, .ref pb])) (upd (upd H6 t (.tup [.ref pa, .ref pb])) l (.lst (rvs ++ [.ref t]))) := Kp.but (M := [l]) (ButN.of ((But.refl _ _).updM (by simp))) fun y hy => by
        rw [List.mem_singleton.mp hy]
        exact mut_lst h7
      have rl : RlAt K (upd (upd H6 t (.tup [.ref pa, .ref pb])) l (.lst (rvs ++ [.ref t]))) (.ref t) (na, nb) := ⟨t, pa, pb, rfl, K8.tk.tup (SqT.of upd_same), ((K46.trans K7).trans K8).tk.tup ha4, (K7.trans K8).tk.tup hb6⟩
      refine ⟨_, _, rvs ++ [.ref t], R ++ [(na, nb)], rfl, ?_, ?_, upd_same, paired_snoc (Paired.mapP hp fun _ _ => (((K24.trans K46).trans K7).trans K8).tk.rl) rl, fun x hx => ?_, by rw [List.length_append, hlen]; rfl⟩
      · intro b o hb hn'
        have nb' : b ≠ l := ne_of_none hb hl
        rw [upd_ne nb']
        exact ((((b2.trans b3).trans b4).trans b5).trans b6 |>.trans (But.of e7)) b o hb hn'
      · obtain ⟨ds, z1, z2⟩ := d6
        exact ⟨ds, by rw [upd_ne ndl]; exact e7 _ _ z1, z2⟩
      · rcases List.mem_append.mp hx with hx | hx
        · exact hV x hx
        · rw [List.mem_singleton.mp hx]
          unfold isRule
          rw [hs4, hs6]
          rfl
    · obtain ⟨p4, p5, rvs, R, rfl, b2, d2, h2, hp, hV, hlen⟩ := pp
      refine ⟨_, rfl, l, rvs, rfl, .inl ⟨SqL.of h2, fun t ht => ?_⟩⟩
      have e := same_new (o := .tup rvs) ht
      exact q _ _ R (b2.trans (But.of e)) (let ⟨ds, h, h2⟩ := d2; ⟨ds, e _ _ h, h2⟩) ⟨t, rvs, rfl, SqT.of upd_same, Paired.mapP hp fun _ _ => same_rl e⟩ hV (by omega)
/-! #### _law_changed -/
def chR : Ch → List Rl → List Rl
  | .put i r, R => putR i r R
  | .take i, R => takeR i R
  | .move i j, R => match R[i]? with
    | some r => moveR i j r R
    | none => R
theorem chR_move (i j : Nat) (R : List Rl) : chR (.move i j) R = (match R[i]? with
    | some r => moveR i j r R
    | none => R) := rfl
/-- the change can be made to R -/
def ChOk (m : Int) : Ch → List Rl → Prop
  | .put i r, R => i ≤ R.length ∧ R.length < 16 ∧ isRule m r = true
  | .take i, R => i < R.length
  | .move i j, R => i < R.length ∧ j < R.length
theorem chR_ok {m : Int} {c : Ch} {R : List Rl} (h : OkB m R) (k : ChOk m c R) : OkB m (chR c R) := by
  cases c with
  | put i r => exact putR_ok h k.2.2 k.2.1 k.1
  | take i => exact takeR_ok h
  | move i j =>
    obtain ⟨k1, k2⟩ := k
    have e : R[i]? = some R[i] := List.getElem?_eq_getElem k1
    rw [chR_move, e]
    exact moveR_ok h k1 (List.getElem_mem k1)
def sp_changed_ (K : PySem.W.Frag) : Sp := fun vs H Q _ => ∃ (rv cv : V) (m : Int) (R : List Rl) (c : Ch), vs = [rv, cv] ∧ RlsAt K H rv R ∧ ChAt K H cv c ∧ ChOk m c R ∧ R.length ≤ 16 ∧ ∀ H' v, Same H H' → RlsAt K H' v (chR c R) → Q v H'
abbrev N_lchanged : List Str := ["_law_rules_here", "_law_change_here", "_law_found", "_law_rule"]
theorem sc_lchanged : FnScope N_lchanged ["_law_rules_here", "_law_change_here"] (defScope s_l_changed) := ⟨rfl, rfl, rfl, by decide +kernel, rfl, by decide +kernel, by decide +kernel⟩
theorem ne_pt : decide (V.str (Str.ofString "take") = V.str (Str.ofString "put")) = false := by decide +kernel
theorem ne_pm : decide (V.str (Str.ofString "move") = V.str (Str.ofString "put")) = false := by decide +kernel
theorem ne_tm : decide (V.str (Str.ofString "take") = V.str (Str.ofString "move")) = false := by decide +kernel
theorem ne_mt : decide (V.str (Str.ofString "move") = V.str (Str.ofString "take")) = false := by decide +kernel
theorem eq_pp : decide (V.str (Str.ofString "put") = V.str (Str.ofString "put")) = true := by decide +kernel
theorem eq_tt : decide (V.str (Str.ofString "take") = V.str (Str.ofString "take")) = true := by decide +kernel
theorem eq_mm : decide (V.str (Str.ofString "move") = V.str (Str.ofString "move")) = true := by decide +kernel
theorem ok_lchanged (T : TX K mg) : FnR P w K mg base CX0 1 (He.ga K "_law_changed") (sp_changed_ K) := by
  refine fr0 T.fn_l_changed sc_lchanged (fun _ _ _ _ _ _ us hl => match us, hl with | [_, _], _ => rfl) (fun vs H Q E h => ?_) (fun cdv A outer s H vs Q E hr h => ?_)
  · obtain ⟨rv, cv, m, R, c, rfl, _⟩ := h
    rfl
  · obtain ⟨rv, cv, m, R, c, rfl, ⟨ra, rvs, rfl, hra, hrs⟩, hc, hk, hl, q⟩ := h
    have nd := sc_lchanged.nd
    have lr := Paired.length hrs
    refine ⟨_, pss_cons (ps_set (i := 2) nd rfl (Or.inl rfl) (pe_callTy call_list_of (by rfl) T.free_list bb_list (pa_cons (pv 0) pa_nil)))
      (pss_cons (ps_if (pt_cmpR op_eq (pe_ix ix_tup (pv 1) pe_int (fun _ _ => rfl)) pe_str (nomark _))
        (pss_one (ps_expr (pe_bm PySem.F.plainAttrs_list PySem.F.slot_list_insert PySem.F.type_list_insert mt_insert (pv 2) (pa_cons (pe_ix ix_tup (pv 1) pe_int (fun _ _ => rfl)) (pa_cons (pe_ix ix_tup (pv 1) pe_int (fun _ _ => rfl)) pa_nil)))))
        (pss_cons (ps_set (i := 3) nd rfl (Or.inl rfl) (pe_bm PySem.F.plainAttrs_list PySem.F.slot_list_pop PySem.F.type_list_pop mt_popAt (pv 2) (pa_cons (pe_ix ix_tup (pv 1) pe_int (fun _ _ => rfl)) pa_nil)))
          (pss_one (ps_if (pt_cmpR op_eq (pe_ix ix_tup (pv 1) pe_int (fun _ _ => rfl)) pe_str (nomark _))
            (pss_one (ps_expr (pe_bm PySem.F.plainAttrs_list PySem.F.slot_list_insert PySem.F.type_list_insert mt_insert (pv 2) (pa_cons (pe_ix ix_tup (pv 1) pe_int (fun _ _ => rfl)) (pa_cons (pv 3) pa_nil))))) pss_nil))))
      (pss_one (ps_ret (pe_callTy call_tuple_of (by rfl) T.free_tuple bb_tuple (pa_cons (pv 2) pa_nil))))), ?_⟩
    refine ⟨_, rfl, ra, rvs, rfl, .inr hra, fun l hl2 => ?_⟩
    have e1 := same_new (o := .lst rvs) hl2
    have sz : sizeLine = 16777216 := sizeLine_eq
    have fin : ∀ (ws : List V) (H5 : Hp) (R' : List Rl), Same H H5 → H5 l = some (.lst ws) → Paired (RlAt K H) ws R' → R' = chR c R → ∃ p ys, [V.ref l] = [V.ref p] ∧ ((SqL K H5 p ys ∧ ∀ l', H5 l' = none → Q (.ref l') (upd H5 l' (.tup ys))) ∨ (SqT K H5 p ys ∧ Q (.ref p) H5)) := fun ws H5 R' e5 h5 hp5 eR => by
      refine ⟨l, ws, rfl, .inl ⟨SqL.of h5, fun t ht => ?_⟩⟩
      have e6 := same_new (o := .tup ws) ht
      exact q _ _ (e5.trans e6) (eR ▸ ⟨t, ws, rfl, SqT.of upd_same, Paired.mapP hp5 fun _ _ => same_rl (e5.trans e6)⟩)
    cases c with
    | put i r =>
      obtain ⟨a, rv, rfl, h1, h2⟩ := hc
      obtain ⟨k1, k2, k3⟩ := hk
      have t1 := same_tup e1 h1
      refine ⟨_, rfl, a, _, _, _, rfl, rfl, t1, atI_nat (j := 0) rfl, rfl, _, rfl, ?_⟩
      rw [eq_pp]
      refine iteT ⟨_, rfl, .inl ⟨rfl, _, SqL.of upd_same⟩, _, rfl, a, _, _, _, rfl, rfl, t1, atI_nat (j := 1) rfl, _, rfl, a, _, _, _, rfl, rfl, t1, atI_nat (j := 2) rfl, l, rvs, _, _, rfl, rfl, upd_same, by omega, by omega, by omega, ?_⟩
      refine ⟨_, rfl, fin _ _ (putR i r R) (same_upd e1 hl2) upd_same ?_ rfl⟩
      rw [Int.toNat_natCast, List.append_assoc]
      exact paired_app (paired_take i hrs) (.cons h2 (paired_drop i hrs))
    | take i =>
      obtain ⟨a, rfl, h1⟩ := hc
      have hk : i < R.length := hk
      have t1 := same_tup e1 h1
      refine ⟨_, rfl, a, _, _, _, rfl, rfl, t1, atI_nat (j := 0) rfl, rfl, _, rfl, ?_⟩
      rw [ne_pt]
      obtain ⟨v, hv⟩ : ∃ v, rvs[i]? = some v := ⟨_, List.getElem?_eq_getElem (by omega)⟩
      refine iteF ⟨_, rfl, .inl ⟨rfl, _, SqL.of upd_same⟩, _, rfl, a, _, _, _, rfl, rfl, t1, atI_nat (j := 1) rfl, l, rvs, _, i, v, rfl, rfl, upd_same, by omega, by omega, ?_, hv, ?_⟩
      · obtain ⟨j, z1, z2, _⟩ := atI_get (atI_nat hv)
        have : j = i := by
          unfold PySem.seqIndex? at z1
          simp at z1
          omega
        rw [this] at z1
        exact z1
      have e2 : Same H (upd (upd H l (.lst rvs)) l (.lst (rvs.eraseIdx i))) := same_upd e1 hl2
      have t2 := same_tup e2 h1
      refine ⟨_, rfl, a, _, _, _, rfl, rfl, t2, atI_nat (j := 0) rfl, rfl, _, rfl, ?_⟩
      rw [ne_tm]
      refine iteF ⟨_, rfl, fin _ _ (R.eraseIdx i) e2 upd_same (paired_erase i hrs) ?_⟩
      rw [List.eraseIdx_eq_take_drop_succ]
      rfl
    | move i j =>
      obtain ⟨a, rfl, h1⟩ := hc
      obtain ⟨k1, k2⟩ := hk
      have t1 := same_tup e1 h1
      refine ⟨_, rfl, a, _, _, _, rfl, rfl, t1, atI_nat (j := 0) rfl, rfl, _, rfl, ?_⟩
      rw [ne_pm]
      obtain ⟨v, hv⟩ : ∃ v, rvs[i]? = some v := ⟨_, List.getElem?_eq_getElem (by omega)⟩
      obtain ⟨r, hr1, hr2⟩ := paired_get hrs hv
      refine iteF ⟨_, rfl, .inl ⟨rfl, _, SqL.of upd_same⟩, _, rfl, a, _, _, _, rfl, rfl, t1, atI_nat (j := 1) rfl, l, rvs, _, i, v, rfl, rfl, upd_same, by omega, by omega, ?_, hv, ?_⟩
      · obtain ⟨j, z1, z2, _⟩ := atI_get (atI_nat hv)
        have : j = i := by
          unfold PySem.seqIndex? at z1
          simp at z1
          omega
        rw [this] at z1
        exact z1
      have e2 : Same H (upd (upd H l (.lst rvs)) l (.lst (rvs.eraseIdx i))) := same_upd e1 hl2
      have t2 := same_tup e2 h1
      refine ⟨_, rfl, a, _, _, _, rfl, rfl, t2, atI_nat (j := 0) rfl, rfl, _, rfl, ?_⟩
      rw [eq_mm]
      have lE : (rvs.eraseIdx i).length = rvs.length - 1 := List.length_eraseIdx_of_lt (by omega)
      refine iteT ⟨_, rfl, .inl ⟨rfl, _, SqL.of upd_same⟩, _, rfl, a, _, _, _, rfl, rfl, t2, atI_nat (j := 2) rfl, _, rfl, l, _, _, _, rfl, rfl, upd_same, by omega, by omega, by omega, ?_⟩
      refine ⟨_, rfl, fin _ _ (moveR i j r R) (same_upd e2 hl2) upd_same ?_ ?_⟩
      · rw [Int.toNat_natCast, List.append_assoc]
        exact paired_app (paired_take j (paired_erase i hrs)) (.cons hr2 (paired_drop j (paired_erase i hrs)))
      · rw [chR_move, hr1]
end
end K47
set_option maxHeartbeats 4000000
/-! ### the law's own list of books; is it right -/
namespace K47
open PySem PySem.Spec PyProof.Rows L2
/-- the law's own list of books, its own list of changes -/
structure OwnAt (K : PySem.W.Frag) (H : Hp) (o lb lp : Addr) (Rs : List (List Rl)) (cs : List Ch) : Prop where
  t : SqT K H o [.ref lb, .ref lp]
  b : ∃ bs, H lb = some (.lst bs) ∧ Paired (RlsAt K H) bs Rs
  c : ∃ ps, H lp = some (.lst ps) ∧ Paired (ChAt K H) ps cs
theorem OwnAt.keep {K : PySem.W.Frag} {M : List Addr} {H H' : Hp} {o lb lp : Addr} {Rs : List (List Rl)} {cs : List Ch} (h : OwnAt K H o lb lp Rs cs) (e : ButN M H H') (k : Kp K H H') (hb : lb ∉ M) (hp : lp ∉ M) : OwnAt K H' o lb lp Rs cs := by
  obtain ⟨h0, ⟨bs, h1, h2⟩, ⟨ps, h3, h4⟩⟩ := h
  exact ⟨k.tk.tup h0, ⟨bs, e _ _ h1 hb (fun _ z => by cases z), Paired.mapP h2 fun _ _ => k.rls⟩, ⟨ps, e _ _ h3 hp (fun _ z => by cases z), Paired.mapP h4 fun _ _ => k.ch⟩⟩
theorem OwnAt.ext {K : PySem.W.Frag} {H H' : Hp} {o lb lp : Addr} {Rs : List (List Rl)} {cs : List Ch} (h : OwnAt K H o lb lp Rs cs) (e : LamX.ExtN H H') : OwnAt K H' o lb lp Rs cs := h.keep (M := []) (ButN.ext e) (Kp.ext e) (by simp) (by simp)
theorem DeskAt.ext {K : PySem.W.Frag} {H H' : Hp} {a p n : Addr} {fl : Nat} {m : Int} {Rs : List (List Rl)} {cs : List Ch} (h : DeskAt K H a p n fl m Rs cs) (e : LamX.ExtN H H') : DeskAt K H' a p n fl m Rs cs := h.keep (M := []) (ButN.ext e) (Kp.ext e) (by simp) (by simp) (by simp)
theorem passF {X : Cx} : Passes (L2.CX X.prog X.w) X E0 := fun _ _ _ _ _ _ _ c => by
  obtain ⟨_, _, _, _, _, _, _, _, _, _, _, _, z⟩ := c
  exact z.elim
theorem list_last {α : Type} : ∀ {l : List α}, l ≠ [] → ∃ l' x, l = l' ++ [x]
  | l, h => ⟨l.dropLast, l.getLast h, (List.dropLast_concat_getLast h).symm⟩
section
variable {P : Program} {w : World} {K : PySem.W.Frag} {mg : Str → Option Value} {base : Heap}
def sp_is_right (K : PySem.W.Frag) : Sp := fun vs H Q _ => ∃ (n : Nat) (a o p nn lb lp : Addr) (fl : Nat) (rv : V) (r : Rl) (Rs : List (List Rl)) (R : List Rl) (cs : List Ch), vs = [.int (n : Nat), .ref a, .ref o, rv] ∧ n ≤ 5 ∧ DeskAt K H a p nn fl (n : Nat) (Rs ++ [R]) cs ∧ OwnAt K H o lb lp (Rs ++ [R]) cs ∧
  RlAt K H rv r ∧ isRule (n : Nat) r = true ∧ cs.length ≤ 900 ∧ LamX.Tabs (tabT K) H ∧ ∀ H', LamX.ExtN H H' → LamX.Tabs (tabT K) H' → Q (.bl true) H'
abbrev N_is_right : List Str := ["_law_marks", "_law_desk", "_law_own", "_law_rule", "_law_books", "_law_past", "_law_due", "_law_at", "_law_rules_here"]
theorem sc_is_right : FnScope N_is_right ["_law_marks", "_law_desk", "_law_own", "_law_rule"] (defScope s_l_is_right) := ⟨rfl, rfl, rfl, by decide +kernel, rfl, by decide +kernel, by decide +kernel⟩
theorem shaped_dues (ds : List Int) : SeqAt.shaped (.list (ds.map .int)) = true := shaped_ints ds
theorem ok_is_right (T : TX K mg) (B : TBs K mg base) : FnR P w K mg base CX0 8 (He.ga K "_law_is_right") (sp_is_right K) := by
  refine fr0 T.fn_l_is_right sc_is_right (fun _ _ _ _ _ _ us hl => match us, hl with | [_, _, _, _], _ => rfl) (fun vs H Q E h => ?_) (fun cdv A outer s H vs Q E hr h => ?_)
  · obtain ⟨n, a, o, p, nn, lb, lp, fl, rv, r, Rs, R, cs, rfl, _⟩ := h
    rfl
  · obtain ⟨n, a, o, p, nn, lb, lp, fl, rv, r, Rs, R, cs, rfl, hn, hd, ho, hrl, hrr, hle, hT, q⟩ := h
    have nd := sc_is_right.nd
    have me := T.meth_Book___eq__
    have hm5 : ((n : Nat) : Int) ≤ 5 := by omega
    refine ⟨_, pss_cons (ps_asg (pv 2) (pg_pair (K := K) 4 5 nd))
      (pss_cons (ps_if (PW.pt (pw_or (pt_cmpR (op_neOwn T.ne_Book me.at_ me.fn T.sisi_Book.cm (ok_Book_eq T) (hr.mono (by decide)) pass0) (pe_now T (pv 1) (hr.mono (by decide)))
            (StX.pe_makeR T.mkr_Book (ok_Book_init T) (hr.mono (by decide)) (by rfl) T.glo_Book pass0 (pa_cons (pv 0) (pa_cons (pe_ix ix_list (pv 4) (pe_un un_neg pe_int) (fun _ _ => rfl)) pa_nil))) (nomark _))
          (pw_or1 (pt_cmpR (op_neD hr.units) (pe_journal T (pv 1) (hr.mono (by decide))) (pv 5) (nomark _)))))
        (pss_one (ps_ret pe_bl)) pss_nil)
      (pss_cons (ps_setLc (i := 6) (own := [("_law_at", 7), ("_law_rules_here", 8)]) rfl nd rfl rfl (sw_true rfl rfl rfl (by decide +kernel)) (pi_enum (by rfl) T.free_enumerate (pa_cons (pv 4) pa_nil)) (blkOk_by (N := N_is_right) (sc := defScope s_l_is_right) (by decide +kernel))
          (fun _ _ _ _ _ => pg_pair (K := K) 7 8 nd) (fun _ _ _ _ _ => pts_one (pt_val (pe_g (ok_lwithin T) hr (by rfl) T.glo__law_within (kp_of T.fn_l_within) pass0 (pa_cons (pe_ix (r := rIxT K) (by exact ix_tup) (pv 3) pe_int (fun _ _ => rfl)) (pa_cons (pe_g (ok_lclosure T B) hr (by rfl) T.glo__law_closure (kp_of T.fn_l_closure) pass0
            (pa_cons (pv 0) (pa_cons (pv 8) (pa_cons (pe_ix (r := rIxT K) (by exact ix_tup) (pv 3) pe_int (fun _ _ => rfl)) pa_nil)))) pa_nil))))) (fun _ _ _ _ _ => pv 7))
      (pss_one (ps_ret (pe_cmpR (op_eqD hr.units) (SlX.pe_methSl (pv 1) T.scls_Desk T.meth_Desk_asked (ok_asked T) (hr.mono (by decide)) passF (pa_cons (pv 3) pa_nil)) (pv 6) (nomark _)))))), ?_⟩
    obtain ⟨ot, ⟨bs, ob, obp⟩, ⟨ps, oc, ocp⟩⟩ := ho
    have hsm : small r := isRule_small hm5 hrr
    have okR : OkB (n : Nat) R := hd.okL
    refine ⟨_, rfl, o, _, rfl, ot, rfl, _, _, rfl, _, _, rfl, rfl, ?_⟩
    obtain ⟨da, sa⟩ := hd.slt
    refine ⟨_, rfl, a, da, _, rfl, sa, a, p, nn, fl, _, Rs, R, cs, rfl, hd, fun b hb => ?_⟩
    obtain ⟨bs', rv0, rfl, hb1, hb2⟩ := paired_last obp
    refine ⟨_, rfl, _, rfl, 1, rfl, lb, _, _, _, rfl, rfl, SqL.of ob, atI_last _ _, ?_⟩
    intro x dx hx hdx nx
    have e1 : Same H (upd (upd H dx (.own x)) x (.ins (cB K) dx [])) := same_upd (same_new hdx) hx
    refine ⟨x, dx, _, rv0, R, rfl, upd_same, by rw [upd_ne nx, upd_same], same_rls e1 hb2, okR, fun H2 k2 hbk => ⟨rfl, ?_⟩⟩
    have S2 : Same H H2 := same_of_but (M := []) ((But.of e1).step k2 fun y hy => .inr (by
      rcases List.mem_cons.mp hy with rfl | hy
      · exact hx
      · rw [List.mem_singleton.mp hy]
        exact hdx)) (fun _ z => by cases z)
    obtain ⟨d1, v1, s1, _⟩ := (same_book S2 hb).slt
    obtain ⟨d2, v2, s2, _⟩ := hbk.slt
    refine ⟨b, d1, _, x, d2, _, rfl, rfl, s1, s2, b, x, _, R, rfl, same_book S2 hb, hbk, fun H3 e3 => ⟨true, rfl, _, rfl, ?_⟩⟩
    have S3 := S2.trans e3
    have hd3 := hd.same S3
    obtain ⟨da3, sa3⟩ := hd3.slt
    refine iteF ⟨_, rfl, a, da3, _, rfl, sa3, a, p, nn, fl, _, _, cs, rfl, hd3, fun l ns hl hns => ?_⟩
    have e4 := same_new (o := .lst ns) hl
    have S4 := S3.trans e4
    have KT4 := Kp.same (K := K) S4
    refine ⟨_, rfl, .list (cs.map chD), .list (cs.map chD), .lst (SqL.of upd_same) (dpAll_ch (Paired.mapP hns fun _ _ => (Kp.same e4).ch)), .lst (SqL.of (S4 _ _ oc)) (dpAll_ch (Paired.mapP ocp fun _ _ => KT4.ch)), shaped_chs cs, shaped_chs cs, _, rfl, ?_⟩
    rw [eqv_of_shaped (shaped_chs cs)]
    have lb' := Paired.length obp
    have hlen := hd.len
    have hd4 := hd.same S4
    refine iteF ⟨_, rfl, lb, _, rfl, SqL.of (S4 _ _ ob), fun D hD => lc_it (walk_enum (xs := bs' ++ [rv0])) (fun i H' => LamX.ExtN (upd H3 l (.lst ns)) H' ∧ LamX.Tabs (tabT K) H' ∧ H' D = some (.lst ((dueI r (Rs ++ [R]) i).map V.int)))
      ⟨LamX.ExtN.of (same_new hD), hT.ext (S4.trans (same_new hD)), by rw [upd_same]; rfl⟩ (fun i H' _ pp => SqL.of (pp.1 _ _ (S4 _ _ ob) (fun _ z => by cases z))) (fun i z H5 H6 hi pp y => ?_) (fun H5 pp => ?_)⟩
    · obtain ⟨T', x0, y0, rfl, hT', rfl, hx0, hy0⟩ := y
      obtain ⟨e5, T5, h5⟩ := pp
      cases (show some (V.int ((i : Nat) : Int)) = some x0 from hx0)
      obtain ⟨Ri, hRi, hri⟩ := paired_get obp hy0
      have okRi : OkB (n : Nat) Ri := hd.ok _ (List.mem_of_getElem? hRi)
      have e6 : LamX.ExtN H (upd H5 T' (.tup [.int (i : Nat), y0])) := ((LamX.ExtN.of S4).trans e5).trans (LamX.ExtN.of (same_new hT'))
      have K6 := Kp.ext (K := K) e6
      have T6 := T5.ext (same_new (o := .tup [.int (i : Nat), y0]) hT')
      obtain ⟨ra, rp, rq, rfl, t1, t2, t3⟩ := K6.tk.rl hrl
      refine ⟨T', _, rfl, SqT.of upd_same, rfl, _, _, rfl, _, _, rfl, rfl, rfl, ?_⟩
      refine ⟨_, rfl, ra, _, _, _, rfl, rfl, t1, atI_nat (j := 1) rfl, ?_⟩
      refine ⟨_, rfl, _, rfl, _, rfl, ra, _, _, _, rfl, rfl, t1, atI_nat (j := 0) rfl, ?_⟩
      have lR := okRi.len
      refine ⟨n, y0, rp, Ri, r.1, rfl, hn, K6.rls hri, t2, okRi.rs, (isRule_inR hrr).1, hsm.1, okRi.small, by omega, T6, fun H7 pc c e7 T7 hpc hc => ?_⟩
      refine ⟨rq, pc, r.2, c, rfl, ext_tup e7 t3, hpc, hsm.2, fun H8 e8 => ⟨_, rfl, ?_⟩⟩
      have E8 : LamX.ExtN (upd H3 l (.lst ns)) H8 := ((e5.trans (LamX.ExtN.of (same_new hT'))).trans e7).trans (LamX.ExtN.of e8)
      have T8 := T7.ext e8
      have h8 : H8 D = some (.lst ((dueI r (Rs ++ [R]) i).map V.int)) := e8 _ _ (e7 _ _ (by rw [upd_ne (ne_of_none h5 hT')]; exact h5) (fun _ z => by cases z))
      rw [← fol_eq hc]
      by_cases hf : fol r Ri = true
      · rw [hf]
        have ldu := dueI_len r (Rs ++ [R]) i
        refine iteT ⟨_, rfl, _, h8, by rw [List.length_map]; exact small1000 (by omega), ?_, ?_, ?_⟩
        · intro b o hb hnt
          have q1 := E8 b o hb hnt
          rw [upd_ne (ne_of_none hb hD)]
          exact q1
        · exact tabs_but (K := K) T8 ((But.refl _ _).updM (M := [D]) (by simp)) fun y hy => by
            rw [List.mem_singleton.mp hy]
            exact mut_lst h8
        · rw [upd_same, dueI_succ hRi, if_pos hf, List.map_append]
          rfl
      · have hf2 : fol r Ri = false := by simpa using hf
        rw [hf2]
        refine iteF ⟨E8, T8, ?_⟩
        rw [dueI_succ hRi, if_neg hf]
        exact h8
    · obtain ⟨e5, T5, h5⟩ := pp
      rw [lb'] at h5
      have E5 : LamX.ExtN H H5 := (LamX.ExtN.of S4).trans e5
      have hd5 := hd.ext E5
      obtain ⟨da5, sa5⟩ := hd5.slt
      refine ⟨_, rfl, a, da5, _, rfl, sa5, _, rfl, a, p, nn, fl, _, Rs, R, cs, rv, rfl, hd5, by omega, .inr ⟨r, (Kp.ext (K := K) E5).tk.rl hrl, hsm, hrr, fun H6 l6 e6 h6 => ⟨_, rfl, ?_⟩⟩⟩
      refine ⟨_, _, dp_lints (SqL.of h6), dp_lints (SqL.of (e6 _ _ h5)), shaped_ints _, shaped_ints _, ?_⟩
      have eq0 : PyData.eqv (.list ((due r (Rs ++ [R])).map .int)) (.list ((dueI r (Rs ++ [R]) (Rs ++ [R]).length).map .int)) = true := eqv_of_shaped (shaped_ints _)
      rw [eq0]
      exact q H6 (E5.trans (LamX.ExtN.of e6)) (T5.ext e6)
end
end K47
set_option maxHeartbeats 4000000
/-! ### _law_word(lambda: ..), _law_do -/
namespace K47
open PySem PySem.Spec PyProof.Rows L2
/-- what _law_word wishes of what leaves the lambda -/
def wordE (K : PySem.W.Frag) (Q : VK) : XK := fun cls _ H => (cls = .ref (He.ga K "NothingDone") ∧ Q (.str "none") H) ∨ (cls = .ref (He.ga K "BadPlace") ∧ Q (.str "place") H) ∨ (cls = .ref (He.ga K "BadRule") ∧ Q (.str "rule") H) ∨ (cls = .ref (He.ga K "TooLarge") ∧ Q (.str "large") H)
def TWord (K : PySem.W.Frag) : (XK → Hp → VK → Prop) → Hp → VK → Prop := fun tl H Q => ∀ Q' : VK, (∀ v H1, Q v H1 → Q' v H1) → tl (wordE K Q) H Q'
abbrev N_word : List Str := ["_law_work_here", "_law_found"]
theorem sc_word : FnScope N_word ["_law_work_here"] (defScope s_l_word) := ⟨rfl, rfl, rfl, by decide +kernel, rfl, by decide +kernel, by decide +kernel⟩
section
variable {X : Cx} {scope : Scope} {params : Arguments} {body : Expr} {c P : Addr} {k : Nat} {t : XK → TE} {p lpos pos : Pos}
theorem word_gives (T : TX X.K X.mg) {g : Addr} {cdg : Value} {q : Str} : LamX.GivesTo X N_word "_law_word" (defScope s_l_word) g cdg (defBody s_l_word) "_law_work_here" q (TWord X.K) := by
  intro f c' s H Q tl act hc h
  have nd := sc_word.nd
  refine ⟨_, pss_cons (ps_try_many (X := (cxOf C8.CX0 X.prog X.w X.K X.mg X.base N_word "_law_word" (defScope s_l_word) g cdg X.A X.stack s H C8.E0).nox) (Wout := fun _ _ _ _ => False)
      (l := [(.ref (He.ga X.K "NothingDone"), fun _ _ _ => tRet (tC (.str "none"))), (.ref (He.ga X.K "BadPlace"), fun _ _ _ => tRet (tC (.str "place"))), (.ref (He.ga X.K "BadRule"), fun _ _ _ => tRet (tC (.str "rule"))), (.ref (He.ga X.K "TooLarge"), fun _ _ _ => tRet (tC (.str "large")))])
      (tb := fun W D σ H => ∃ Ech : XK, (∀ cls d σ' H', Ech cls d H' → W cls d σ' H') ∧ σ[0]? = some (some (.ref f)) ∧ H c' = some (LamX.CodeO c' q) ∧ tl Ech H fun v H1 => D.nx (σ.set 1 (some v)) H1)
      rfl rfl takes_none5 (fun W pn xe tk _ => ?_)
      (.cons ⟨by rfl, by decide, .inl T.glo_NothingDone⟩ (fun _ _ _ _ _ _ _ => pss_one (ps_ret pe_str)) (.cons ⟨by rfl, by decide, .inl T.glo_BadPlace⟩ (fun _ _ _ _ _ _ _ => pss_one (ps_ret pe_str))
        (.cons ⟨by rfl, by decide, .inl T.glo_BadRule⟩ (fun _ _ _ _ _ _ _ => pss_one (ps_ret pe_str)) (.cons ⟨by rfl, by decide, .inl T.glo_TooLarge⟩ (fun _ _ _ _ _ _ _ => pss_one (ps_ret pe_str)) .nil)))))
    (pss_one (ps_ret (pv 1))), ?_⟩
  · refine ⟨fun pins s' σ H' D I h' => ?_⟩
    obtain ⟨Ech, hW, h1, h2, h3⟩ := h'
    exact (pss_one (ps_set (i := 1) nd rfl (Or.inl rfl) (act W pn xe Ech _ _ tk hW))).run pins s' σ H' D I ⟨h1, h2, h3⟩
  · refine ⟨wordE X.K Q, fun cls d σ' H' hh => ?_, rfl, hc, ?_⟩
    · rcases hh with ⟨rfl, hq⟩ | ⟨rfl, hq⟩ | ⟨rfl, hq⟩ | ⟨rfl, hq⟩
      · exact ⟨true, T.exm_NothingDone_NothingDone_true, fun _ a _ => hq, fun z => (by cases z)⟩
      · exact ⟨false, T.exm_BadPlace_NothingDone_false, fun z => (by cases z), fun _ => ⟨true, T.exm_BadPlace_BadPlace_true, fun _ a _ => hq, fun z => (by cases z)⟩⟩
      · exact ⟨false, T.exm_BadRule_NothingDone_false, fun z => (by cases z), fun _ => ⟨false, T.exm_BadRule_BadPlace_false, fun z => (by cases z), fun _ => ⟨true, T.exm_BadRule_BadRule_true, fun _ a _ => hq, fun z => (by cases z)⟩⟩⟩
      · exact ⟨false, T.exm_TooLarge_NothingDone_false, fun z => (by cases z), fun _ => ⟨false, T.exm_TooLarge_BadPlace_false, fun z => (by cases z), fun _ => ⟨false, T.exm_TooLarge_BadRule_false, fun z => (by cases z), fun _ => ⟨true, T.exm_TooLarge_TooLarge_true, fun _ a _ => hq, fun z => (by cases z)⟩⟩⟩⟩
    · exact h _ fun v H1 hv => ⟨v, rfl, hv⟩
theorem pe_word (T : TX X.K X.mg) (hg : Gl X "_law_word") (TB : LamX.TabB X.base X.mg c P) (hcode : X.env.code = .ref c) (hmT : (P, X.env.qual ++ "<lambda>") ∈ tabT X.K) (hr : Room (k + 2) X.A) (L : LamX.LamS X.env.scope scope) (hdef : defaultsOf params X.env = ([], []))
    (hbind : ∀ (q : Str) (cl : List (Str × Addr)) (pm cv ctv : Value), bindArgs (PySem.W.kla_fn "<lambda>" q params body scope cl pm cv ctv) ⟨[], []⟩ = pure [])
    (hbody : ∀ (A : Around) (outer : List Env) (s : Shared) (H : Hp) (E : XK) (f c' : Addr), Room k (A.deeper (LamX.lamEnv X scope s.heap.objs.size f c')) → PE (LamX.lamCx X A outer s H E scope f c') body (t E)) :
    PE X (.Call (.Name "_law_word" p) [.Lambda params body scope lpos] [] pos) (LamX.tLam (tabT X.K) (TWord X.K) t) := by
  obtain ⟨fd, F⟩ := T.fn_l_word
  have kp := F.kp
  obtain ⟨oc, od, kV, doc, pm, an, cdv, ct, osl, rfl, lk, hcd⟩ := F.ex
  exact LamX.pe_lamcall hg T.glo__law_word kp lk hcd (.all fun us hl => match us, hl with | [_], _ => rfl) sc_word rfl (Or.inl rfl) (word_gives T) TB hcode hmT (tab_hu T hmT) hr L hdef hbind hbody
end
section
variable {P : Program} {w : World} {K : PySem.W.Frag} {mg : Str → Option Value} {base : Heap}
/-! #### _law_do -/
def sp_do (K : PySem.W.Frag) : Sp := fun vs H Q E => ∃ (a t : Addr), vs = [.ref a, .ref t] ∧ ((∃ x rv, SqT K H t [.str "put", x, rv] ∧ sp_put K [.ref a, x, rv] H Q E) ∨ (∃ x, SqT K H t [.str "take", x] ∧ sp_take K [.ref a, x] H Q E) ∨ ∃ x y, SqT K H t [.str "move", x, y] ∧ sp_move K [.ref a, x, y] H Q E)
abbrev N_do : List Str := ["_law_desk", "_law_change_here"]
theorem sc_do : FnScope N_do ["_law_desk", "_law_change_here"] (defScope s_l_do) := ⟨rfl, rfl, rfl, by decide +kernel, rfl, by decide +kernel, by decide +kernel⟩
theorem ok_do (T : TX K mg) : FnR P w K mg base (L2.CX P w) 8 (He.ga K "_law_do") (sp_do K) := by
  refine frX T.fn_l_do sc_do (fun _ _ _ _ _ _ us hl => match us, hl with | [_, _], _ => rfl) (fun vs H Q E h => ?_) (fun cdv A outer s H vs Q E hr h => ?_)
  · obtain ⟨a, t, rfl, _⟩ := h
    rfl
  · obtain ⟨a, t, rfl, h⟩ := h
    refine ⟨_, pss_cons (ps_if (pt_cmpR op_eq (pe_ix ix_tup (pv 1) pe_int (fun _ _ => rfl)) pe_str (nomark _))
        (pss_one (ps_ret (SlX.pe_methSl (pv 0) T.scls_Desk T.meth_Desk_put (ok_put T) hr (passes_call (takes_of rfl rfl rfl rfl) (fun _ _ _ _ h => h)) (pa_cons (pe_ix ix_tup (pv 1) pe_int (fun _ _ => rfl)) (pa_cons (pe_ix ix_tup (pv 1) pe_int (fun _ _ => rfl)) pa_nil))))) pss_nil)
      (pss_cons (ps_if (pt_cmpR op_eq (pe_ix ix_tup (pv 1) pe_int (fun _ _ => rfl)) pe_str (nomark _))
        (pss_one (ps_ret (SlX.pe_methSl (pv 0) T.scls_Desk T.meth_Desk_take (ok_take T) hr (passes_call (takes_of rfl rfl rfl rfl) (fun _ _ _ _ h => h)) (pa_cons (pe_ix ix_tup (pv 1) pe_int (fun _ _ => rfl)) pa_nil)))) pss_nil)
      (pss_one (ps_ret (SlX.pe_methSl (pv 0) T.scls_Desk T.meth_Desk_move (ok_move T) hr (passes_call (takes_of rfl rfl rfl rfl) (fun _ _ _ _ h => h)) (pa_cons (pe_ix ix_tup (pv 1) pe_int (fun _ _ => rfl)) (pa_cons (pe_ix ix_tup (pv 1) pe_int (fun _ _ => rfl)) pa_nil)))))), ?_⟩
    rcases h with ⟨x, rv, ht, hq⟩ | ⟨x, ht, hq⟩ | ⟨x, y, ht, hq⟩
    · obtain ⟨a', p, n, fl, m, Rs, R, cs, x', rv', ev, hd, _⟩ := id hq
      cases ev
      obtain ⟨da, sa⟩ := hd.slt
      refine ⟨_, rfl, t, _, _, _, rfl, rfl, ht, atI_nat (j := 0) rfl, rfl, _, rfl, ?_⟩
      rw [eq_pp]
      exact iteT ⟨_, rfl, a, da, _, rfl, sa, _, rfl, t, _, _, _, rfl, rfl, ht, atI_nat (j := 1) rfl, _, rfl, t, _, _, _, rfl, rfl, ht, atI_nat (j := 2) rfl, hq⟩
    · obtain ⟨a', p, n, fl, m, Rs, R, cs, x', ev, hd, _⟩ := id hq
      cases ev
      obtain ⟨da, sa⟩ := hd.slt
      refine ⟨_, rfl, t, _, _, _, rfl, rfl, ht, atI_nat (j := 0) rfl, rfl, _, rfl, ?_⟩
      rw [ne_pt]
      refine iteF ⟨_, rfl, t, _, _, _, rfl, rfl, ht, atI_nat (j := 0) rfl, rfl, _, rfl, ?_⟩
      rw [eq_tt]
      exact iteT ⟨_, rfl, a, da, _, rfl, sa, _, rfl, t, _, _, _, rfl, rfl, ht, atI_nat (j := 1) rfl, hq⟩
    · obtain ⟨a', p, n, fl, m, Rs, R, cs, x', y', ev, hd, _⟩ := id hq
      cases ev
      obtain ⟨da, sa⟩ := hd.slt
      refine ⟨_, rfl, t, _, _, _, rfl, rfl, ht, atI_nat (j := 0) rfl, rfl, _, rfl, ?_⟩
      rw [ne_pm]
      refine iteF ⟨_, rfl, t, _, _, _, rfl, rfl, ht, atI_nat (j := 0) rfl, rfl, _, rfl, ?_⟩
      rw [ne_mt]
      exact iteF ⟨_, rfl, a, da, _, rfl, sa, _, rfl, t, _, _, _, rfl, rfl, ht, atI_nat (j := 1) rfl, _, rfl, t, _, _, _, rfl, rfl, ht, atI_nat (j := 2) rfl, hq⟩
end
end K47
set_option maxHeartbeats 4000000
/-! ### _law_change: parts -/
namespace K47
open PySem PySem.Spec PyProof.Rows L2
theorem ps_imp {X : Cx} {s : Stmt} {t t' : TS} (h : PS X s t) (i : ∀ D σ H, t' D σ H → t D σ H) : PS X s t' := ⟨fun pins s σ H D I q => h.run pins s σ H D I (i D σ H q)⟩
theorem pt_imp {X : Cx} {e : Expr} {t t' : TT} (h : PT X e t) (i : ∀ σ H Q, t' σ H Q → t σ H Q) : PT X e t' := ⟨fun pins s σ H Q I q => h.run pins s σ H Q I (i σ H Q q)⟩
theorem pe_imp {X : Cx} {e : Expr} {t t' : TE} (h : PE X e t) (i : ∀ σ H Q, t' σ H Q → t σ H Q) : PE X e t' := ⟨fun pins s σ H Q I q => h.run pins s σ H Q I (i σ H Q q)⟩
theorem set_self {σ : L2.St} {i : Nat} {v : V} (h : σ[i]? = some (some v)) : σ.set i (some v) = σ := by
  have hi : i < σ.length := lt_of_get h
  have e : σ[i] = some v := by
    rw [List.getElem?_eq_getElem hi] at h
    exact Option.some.inj h
  rw [← e, List.set_getElem_self]
/-- what isinstance asks, of flat values -/
def kb : V → Bool
  | .bl _ => true
  | _ => false
def ki : V → Bool
  | .bl _ => true
  | .int _ => true
  | _ => false
theorem kt_nonb : kitB "NoneType" "bool" = some false := by decide +kernel
theorem kt_strb : kitB "str" "bool" = some false := by decide +kernel
theorem kitb_flat {v : V} (h : flat v = true) : kitB (flTy v) "bool" = some (kb v) := by
  cases v with
  | non => exact kt_nonb
  | bl _ => exact kt_blb
  | int _ => exact kt_intb
  | str _ => exact kt_strb
  | _ => cases h
theorem kiti_flat {v : V} (h : flat v = true) : kitB (flTy v) "int" = some (ki v) := by
  cases v with
  | non => exact kt_non
  | bl _ => exact kt_bl
  | int _ => exact kt_int
  | str _ => exact kt_str
  | _ => cases h
section
variable {X : Cx} {i j : Nat} {x y : Str} {p1 p2 p3 p4 p5 p6 p7 p8 p9 q1 q2 q3 q4 q5 pos : Pos} {kk : Nat}
/-- isinstance(x, bool) or not isinstance(x, int) or not 0 <= x <= y -/
def tBad (i j : Nat) : TT := fun σ H Q => ∃ (v : V) (m : Int), σ[i]? = some (some v) ∧ flat v = true ∧ σ[j]? = some (some (.int m)) ∧ Q (!isIn v 0 m) H
theorem pt_bad (T : TX X.K X.mg) (hg1 : Gl X "isinstance") (hg2 : Gl X "bool") (hg3 : Gl X "int") (hi : X.N[i]? = some x) (vi : Vis X.env.scope x) (hj : X.N[j]? = some y) (vj : Vis X.env.scope y) (dx : (x == ("__debug__" : Str)) = false := by decide) (cx : (x == ("__classdict__" : Str)) = false := by decide)
    (dy : (y == ("__debug__" : Str)) = false := by decide) (cy : (y == ("__classdict__" : Str)) = false := by decide) :
    PT X (.BoolOp .Or [.Call (.Name "isinstance" p1) [.Name x p2, .Name "bool" p3] [] p4, .UnaryOp .Not (.Call (.Name "isinstance" p5) [.Name x p6, .Name "int" p7] [] p8) p9, .UnaryOp .Not (.Compare (.Constant (.int 0) kk q1) [.LtE, .LtE] [.Name x q2, .Name y q3] q4) q5] pos) (tBad i j) := by
  refine pt_imp (PW.pt (pw_or (pt_val (pe_callB call_isi hg1 T.free_isinstance bb_isinstance (pa_cons (pe_var (i := i) hi vi dx cx) (pa_cons (pe_bltn (v := .ty "bool") hg2 T.free_bool bb_bool rfl) pa_nil))))
    (pw_or (pt_not (pt_val (pe_callB call_isi hg1 T.free_isinstance bb_isinstance (pa_cons (pe_var (i := i) hi vi dx cx) (pa_cons (pe_bltn (v := .ty "int") hg3 T.free_int bb_int rfl) pa_nil)))))
      (pw_or1 (pt_not (pt_chain op_le op_le pe_int (pe_var (i := i) hi vi dx cx) (pe_var (i := j) hj vj dy cy))))))) (fun σ H Q h => ?_)
  obtain ⟨v, m, hx, hf, hy, q⟩ := h
  refine ⟨v, hx, v, .ty "bool", _, _, kb v, rfl, .ty "bool", tyx_flat hf, kit_ty (kitb_flat hf), kb v, rfl, ?_⟩
  cases v with
  | bl b => exact iteT q
  | non => exact iteF ⟨_, hx, .non, .ty "int", _, _, false, rfl, .ty "int", tyx_flat hf, kit_ty (kiti_flat hf), false, rfl, iteT q⟩
  | str z => exact iteF ⟨_, hx, .str z, .ty "int", _, _, false, rfl, .ty "int", tyx_flat hf, kit_ty (kiti_flat hf), false, rfl, iteT q⟩
  | int z =>
    refine iteF ⟨_, hx, .int z, .ty "int", _, _, true, rfl, .ty "int", tyx_flat hf, kit_ty (kiti_flat hf), true, rfl, iteF ?_⟩
    rw [isIn_int] at q
    refine ⟨_, hx, _, _, rfl, rfl, _, rfl, ?_⟩
    refine ite2 (fun h1 => ⟨_, hy, _, _, rfl, rfl, _, rfl, ?_⟩) (fun h1 => ⟨_, rfl, ?_⟩)
    · rw [h1, Bool.true_and] at q
      exact q
    · rw [Bool.eq_false_iff.mpr h1, Bool.false_and] at q
      exact q
  | _ => cases hf
/-- the same with x < y, as a value -/
def tBadV (i j : Nat) : TE := fun σ H Q => ∃ (v : V) (m : Int), σ[i]? = some (some v) ∧ flat v = true ∧ σ[j]? = some (some (.int m)) ∧ Q (.bl (!isIn v 0 (m - 1))) H
theorem pe_bad (T : TX X.K X.mg) (hg1 : Gl X "isinstance") (hg2 : Gl X "bool") (hg3 : Gl X "int") (hi : X.N[i]? = some x) (vi : Vis X.env.scope x) (hj : X.N[j]? = some y) (vj : Vis X.env.scope y) (dx : (x == ("__debug__" : Str)) = false := by decide) (cx : (x == ("__classdict__" : Str)) = false := by decide)
    (dy : (y == ("__debug__" : Str)) = false := by decide) (cy : (y == ("__classdict__" : Str)) = false := by decide) :
    PE X (.BoolOp .Or [.Call (.Name "isinstance" p1) [.Name x p2, .Name "bool" p3] [] p4, .UnaryOp .Not (.Call (.Name "isinstance" p5) [.Name x p6, .Name "int" p7] [] p8) p9, .UnaryOp .Not (.Compare (.Constant (.int 0) kk q1) [.LtE, .Lt] [.Name x q2, .Name y q3] q4) q5] pos) (tBadV i j) := by
  refine pe_imp (pe_or (pe_callB call_isi hg1 T.free_isinstance bb_isinstance (pa_cons (pe_var (i := i) hi vi dx cx) (pa_cons (pe_bltn (v := .ty "bool") hg2 T.free_bool bb_bool rfl) pa_nil)))
    (pe_or (pe_not (pe_callB call_isi hg1 T.free_isinstance bb_isinstance (pa_cons (pe_var (i := i) hi vi dx cx) (pa_cons (pe_bltn (v := .ty "int") hg3 T.free_int bb_int rfl) pa_nil))))
      (pe_one (pe_not (pe_chain op_le op_lt pe_int (pe_var (i := i) hi vi dx cx) (pe_var (i := j) hj vj dy cy)))))) (fun σ H Q h => ?_)
  obtain ⟨v, m, hx, hf, hy, q⟩ := h
  refine ⟨v, hx, v, .ty "bool", _, _, kb v, rfl, .ty "bool", tyx_flat hf, kit_ty (kitb_flat hf), kb v, rfl, ?_⟩
  cases v with
  | bl b => exact iteT q
  | non => exact iteF ⟨_, hx, .non, .ty "int", _, _, false, rfl, .ty "int", tyx_flat hf, kit_ty (kiti_flat hf), false, rfl, true, rfl, iteT q⟩
  | str z => exact iteF ⟨_, hx, .str z, .ty "int", _, _, false, rfl, .ty "int", tyx_flat hf, kit_ty (kiti_flat hf), false, rfl, true, rfl, iteT q⟩
  | int z =>
    refine iteF ⟨_, hx, .int z, .ty "int", _, _, true, rfl, .ty "int", tyx_flat hf, kit_ty (kiti_flat hf), true, rfl, false, rfl, iteF ?_⟩
    rw [isIn_int] at q
    refine ⟨_, hx, _, _, rfl, rfl, _, rfl, ?_⟩
    refine ite2 (fun h1 => ⟨_, hy, _, _, rfl, rfl, _, rfl, ?_⟩) (fun h1 => ⟨_, rfl, ?_⟩)
    · rw [h1, Bool.true_and] at q
      have e : decide (z ≤ m - 1) = decide (z < m) := by
        by_cases h : z < m
        · rw [decide_eq_true h, decide_eq_true (by omega)]
        · rw [decide_eq_false h, decide_eq_false (by omega)]
      rw [e] at q
      exact q
    · rw [Bool.eq_false_iff.mpr h1, Bool.false_and] at q
      exact q
  | _ => cases hf
end
end K47
set_option maxHeartbeats 8000000
/-! ### _law_change -/
namespace K47
open PySem PySem.Spec PyProof.Rows L2
/-- a change whose place is none -/
def Wrong (K : PySem.W.Frag) (H : Hp) (l : Nat) (cv : V) : Prop := ∃ t : Addr, cv = .ref t ∧ ((∃ x rv, SqT K H t [.str "put", x, rv] ∧ flat x = true ∧ isIn x 0 (l : Nat) = false) ∨ (∃ x, SqT K H t [.str "take", x] ∧ flat x = true ∧ isIn x 0 ((l : Nat) - 1) = false) ∨
  ∃ x y, SqT K H t [.str "move", x, y] ∧ flat x = true ∧ flat y = true ∧ (isIn x 0 ((l : Nat) - 1) = false ∨ isIn y 0 ((l : Nat) - 1) = false))
/-- what _law_change tells -/
def Out (K : PySem.W.Frag) (H : Hp) (m : Int) (R : List Rl) (cv wv : V) : Prop := (wv = .str "place" ∧ Wrong K H R.length cv) ∨
  (wv = .str "rule" ∧ ∃ (t : Addr) (i : Nat) (rv : V), cv = .ref t ∧ SqT K H t [.str "put", .int (i : Nat), rv] ∧ i ≤ R.length ∧ OddR K H m rv) ∨
  (wv = .str "large" ∧ ∃ (i : Nat) (r : Rl), ChAt K H cv (.put i r) ∧ i ≤ R.length ∧ R.length = 16 ∧ isRule m r = true) ∨
  (wv = .non ∧ ∃ c, ChAt K H cv c ∧ ChOk m c R)
theorem Drw.same {H H' : Hp} {d : Addr} (h : Drw H d) (e : Same H H') : Drw H' d := let ⟨ds, h1, h2⟩ := h; ⟨ds, e _ _ h1, h2⟩
theorem OddR.same {K : PySem.W.Frag} {H H' : Hp} {m : Int} {v : V} (h : OddR K H m v) (e : Same H H') : OddR K H' m v := by
  rcases h with ⟨r, h1, h2⟩ | ⟨a, xs, h1, h2⟩
  · exact .inl ⟨r, same_rl e h1, h2⟩
  · exact .inr ⟨a, xs, h1, e _ _ h2⟩
/-- the four items of a written tuple -/
theorem four {v0 v1 v2 v3 : V} (h0 : flat v0 = true) (h1 : flat v1 = true) (h2 : flat v2 = true) (h3 : flat v3 = true) {r : Int} (a : 0 ≤ r) (b : r < 4) : ∃ v, atI [v0, v1, v2, v3] r = some v ∧ flat v = true := by
  have : r = ((0 : Nat) : Int) ∨ r = ((1 : Nat) : Int) ∨ r = ((2 : Nat) : Int) ∨ r = ((3 : Nat) : Int) := by omega
  rcases this with rfl | rfl | rfl | rfl
  · exact ⟨v0, atI_nat rfl, h0⟩
  · exact ⟨v1, atI_nat rfl, h1⟩
  · exact ⟨v2, atI_nat rfl, h2⟩
  · exact ⟨v3, atI_nat rfl, h3⟩
theorem isIn_some {v : V} {m : Int} (h : isIn v 0 m = true) : ∃ i : Nat, v = .int (i : Nat) ∧ ((i : Nat) : Int) ≤ m := by
  cases v with
  | int z =>
    rw [isIn_int, Bool.and_eq_true] at h
    have h1 := of_decide_eq_true h.1
    have h2 := of_decide_eq_true h.2
    exact ⟨z.toNat, by rw [Int.toNat_of_nonneg h1], by rw [Int.toNat_of_nonneg h1]; exact h2⟩
  | _ => cases h
theorem wrong_any {xs : List V} {m : Int} : ((xs.map fun v => !isIn v 0 m).map V.bl) = (xs.map fun v => !isIn v 0 m).map V.bl := rfl
/-- perhaps another value in slot i -/
def tWild (i : Nat) : TS := fun D σ H => ∃ (d : Addr) (m : Int) (v0 : V), σ[0]? = some (some (.ref d)) ∧ σ[4]? = some (some (.int m)) ∧ σ[i]? = some (some v0) ∧ flat v0 = true ∧ Drw H d ∧ ∀ v H', flat v = true → But [d] H H' → Drw H' d → D.nx (σ.set i (some v)) H'
def tWild2 : TS := fun D σ H => ∃ (d : Addr) (m k : Int) (v0 w0 : V), σ[0]? = some (some (.ref d)) ∧ σ[3]? = some (some (.int k)) ∧ σ[4]? = some (some (.int m)) ∧ σ[5]? = some (some v0) ∧ σ[8]? = some (some w0) ∧ flat v0 = true ∧ flat w0 = true ∧ Drw H d ∧
  ∀ v w H', flat v = true → flat w = true → But [d] H H' → Drw H' d → D.nx ((σ.set 5 (some v)).set 8 (some w)) H'
def tOdd (K : PySem.W.Frag) : TS := fun D σ H => ∃ (d : Addr) (m : Int) (b : Bool), σ[0]? = some (some (.ref d)) ∧ σ[1]? = some (some (.int m)) ∧ σ[7]? = some (some (.bl b)) ∧ Drw H d ∧ 0 ≤ m ∧ (b = false → D.nx σ H) ∧ (b = true → ∀ rv H', OddR K H' m rv → But [d] H H' → Drw H' d → D.nx (σ.set 6 (some rv)) H')
theorem odd_set {m : Int} : isRule m ([0, m], []) = false := by
  have e : isIn (.int m) 0 (m - 1) = false := by
    rw [isIn_int, decide_eq_false (show ¬ m ≤ m - 1 by omega), Bool.and_false]
  unfold isRule isSet
  simp [e]
section
variable {P : Program} {w : World} {K : PySem.W.Frag} {mg : Str → Option Value} {base : Heap}
def sp_change (K : PySem.W.Frag) : Sp := fun vs H Q _ => ∃ (d : Addr) (n : Nat) (rv : V) (R : List Rl), vs = [.ref d, .int (n : Nat), rv] ∧ Drw H d ∧ n ≤ 5 ∧ RlsAt K H rv R ∧ R.length ≤ 16 ∧
  ∀ H' t cv wv, But [d] H H' → Drw H' d → SqT K H' t [cv, wv] → Out K H' (n : Nat) R cv wv → Q (.ref t) H'
abbrev N_change : List Str := ["_law_draws", "_law_marks", "_law_rules_here", "_law_kind", "_law_many", "_law_at", "_law_rule", "_law_is_odd", "_law_late", "_law_change_here", "_law_some", "_law_one"]
theorem sc_change : FnScope N_change ["_law_draws", "_law_marks", "_law_rules_here"] (defScope s_l_change) := ⟨rfl, rfl, rfl, by decide +kernel, rfl, by decide +kernel, by decide +kernel⟩
theorem ok_change (T : TX K mg) : FnR P w K mg base CX0 3 (He.ga K "_law_change") (sp_change K) := by
  refine fr0 T.fn_l_change sc_change (fun _ _ _ _ _ _ us hl => match us, hl with | [_, _, _], _ => rfl) (fun vs H Q E h => ?_) (fun cdv A outer s H vs Q E hr h => ?_)
  · obtain ⟨d, n, rv, R, rfl, _⟩ := h
    rfl
  · obtain ⟨d, n, rv, R, rfl, hd, hn, ⟨ra, rvs, rfl, hra, hrs⟩, hl, q⟩ := h
    have nd := sc_change.nd
    have lr := Paired.length hrs
    refine ⟨_, pss_cons (ps_asg (pe_tup (pa_cons (pe_g (ok_l_take T) hr (by rfl) T.glo__law_take (kp_of T.fn_l_take) pass0 (pa_cons (pv 0) (pa_cons pe_int pa_nil))) (pa_cons (pe_callB call_len_seq (by rfl) T.free_len bb_len (pa_cons (pv 2) pa_nil)) pa_nil))) (pg_pair (K := K) 3 4 nd))
      (pss_cons (ps_if (PW.pt (pw_or (pt_cmpR op_eq (pv 3) pe_int (nomark _)) (pw_or1 (pt_cmpR op_eq (pv 4) pe_int (nomark _)))))
        (pss_cons (ps_set (i := 5) nd rfl (Or.inl rfl) (pe_g (ok_l_take T) hr (by rfl) T.glo__law_take (kp_of T.fn_l_take) pass0 (pa_cons (pv 0) (pa_cons (pe_op op_add (pv 4) pe_int) pa_nil))))
        (pss_cons (ps_imp (t' := tWild 5) (ps_if (pt_cmpR op_eq (pe_g (ok_l_take T) hr (by rfl) T.glo__law_take (kp_of T.fn_l_take) pass0 (pa_cons (pv 0) (pa_cons pe_int pa_nil))) pe_int (nomark _))
            (pss_one (ps_set (i := 5) nd rfl (Or.inl rfl) (pe_ix ix_tup (pe_tup (pa_cons (pe_un un_neg pe_int) (pa_cons (pe_op op_add (pv 4) pe_int) (pa_cons pe_non (pa_cons pe_bl pa_nil))))) (pe_g (ok_l_take T) hr (by rfl) T.glo__law_take (kp_of T.fn_l_take) pass0 (pa_cons (pv 0) (pa_cons pe_int pa_nil))) (fun _ _ => rfl)))) pss_nil)
            (fun D σ H h => by
              obtain ⟨d, m, v0, s0, s4, s5, f0, hd, k⟩ := h
              refine ⟨_, s0, d, 5, rfl, hd, by decide, fun H1 r b1 d1 r1 r2 => ⟨rfl, _, rfl, ite2 (fun _ => ?_) (fun _ => ?_)⟩⟩
              · refine ⟨1, rfl, _, s4, _, _, rfl, rfl, by show 4 ≤ sizeLine; decide, fun t ht => ?_⟩
                have e := same_new (o := .tup [.int (-1), .int (m + 1), .non, .bl true]) ht
                refine ⟨_, s0, d, 4, rfl, d1.same e, by decide, fun H2 r' b2 d2 r3 r4 => ?_⟩
                obtain ⟨v, hv, fv⟩ := four (v0 := .int (-1)) (v1 := .int (m + 1)) (v2 := .non) (v3 := .bl true) rfl rfl rfl rfl r3 r4
                exact ⟨t, _, _, v, rfl, rfl, (kp_d (K := K) (d1.same e) b2).tk.tup (SqT.of upd_same), hv, k v H2 fv ((b1.trans (But.of e)).trans b2) d2⟩
              · have z := k v0 H1 f0 b1 d1
                rw [set_self s5] at z
                exact z))
        (pss_cons (ps_set (i := 6) nd rfl (Or.inl rfl) (pe_tup (pa_cons (pe_g (ok_lset T) hr (by rfl) T.glo__law_set (kp_of T.fn_l_set) pass0 (pa_cons (pv 0) (pa_cons (pv 1) (pa_cons pe_int pa_nil)))) (pa_cons (pe_g (ok_lset T) hr (by rfl) T.glo__law_set (kp_of T.fn_l_set) pass0 (pa_cons (pv 0) (pa_cons (pv 1) (pa_cons pe_int pa_nil)))) pa_nil))))
        (pss_cons (ps_set (i := 7) nd rfl (Or.inl rfl) (pe_cmpR op_eq (pe_g (ok_l_take T) hr (by rfl) T.glo__law_take (kp_of T.fn_l_take) pass0 (pa_cons (pv 0) (pa_cons pe_int pa_nil))) pe_int (nomark _)))
        (pss_cons (ps_imp (t' := tOdd K) (ps_if (pt_val (pv 7)) (pss_one (ps_set (i := 6) nd rfl (Or.inl rfl) (pe_ifExp (pt_cmpR op_eq (pe_g (ok_l_take T) hr (by rfl) T.glo__law_take (kp_of T.fn_l_take) pass0 (pa_cons (pv 0) (pa_cons pe_int pa_nil))) pe_int (nomark _))
              (pe_tup (pa_cons (pe_tup (pa_cons pe_int (pa_cons (pv 1) pa_nil))) (pa_cons (pe_tup pa_nil) pa_nil))) (pe_lst (pa_cons (pe_tup pa_nil) (pa_cons (pe_tup pa_nil) pa_nil)))))) pss_nil)
            (fun D σ H h => by
              obtain ⟨d, m, b, s0, s1, s7, hd, hm, k1, k2⟩ := h
              refine ⟨_, s7, b, rfl, ?_⟩
              cases b with
              | false => exact iteF (k1 rfl)
              | true =>
                refine iteT ⟨_, s0, d, 2, rfl, hd, by decide, fun H1 r b1 d1 r1 r2 => ⟨rfl, _, rfl, ite2 (fun _ => ?_) (fun _ => ?_)⟩⟩
                · refine ⟨_, s1, by show 2 ≤ sizeLine; decide, fun t1 h1 => ⟨by show 0 ≤ sizeLine; decide, fun t2 h2 => ⟨by show 2 ≤ sizeLine; decide, fun t3 h3 => ?_⟩⟩⟩
                  have e1 := same_new (o := .tup [.int 0, .int m]) h1
                  have e2 := same_new (o := .tup []) h2
                  have e3 := same_new (o := .tup [.ref t1, .ref t2]) h3
                  exact k2 rfl _ _ (.inl ⟨([0, m], []), ⟨t3, t1, t2, rfl, SqT.of upd_same, same_tup (e2.trans e3) (SqT.of upd_same), same_tup e3 (SqT.of upd_same)⟩, ⟨by simp, by simp⟩, odd_set⟩) (b1.trans (But.of (e1.trans (e2.trans e3)))) (d1.same (e1.trans (e2.trans e3)))
                · refine ⟨by show 0 ≤ sizeLine; decide, fun t1 h1 => ⟨by show 0 ≤ sizeLine; decide, fun t2 h2 => ⟨by show 2 ≤ sizeLine; decide, fun t3 h3 => ?_⟩⟩⟩
                  have e1 := same_new (o := .tup []) h1
                  have e2 := same_new (o := .tup []) h2
                  have e3 := same_new (o := .lst [.ref t1, .ref t2]) h3
                  exact k2 rfl _ _ (.inr ⟨t3, _, rfl, upd_same⟩) (b1.trans (But.of (e1.trans (e2.trans e3)))) (d1.same (e1.trans (e2.trans e3)))))
        (pss_cons (ps_if (pt_bad (i := 5) (j := 4) T (by rfl) (by rfl) (by rfl) rfl (by first | exact Or.inl rfl | exact Or.inr (Or.inl rfl)) rfl (by first | exact Or.inl rfl | exact Or.inr (Or.inl rfl)))
            (pss_one (ps_ret (pe_tup (pa_cons (pe_tup (pa_cons pe_str (pa_cons (pv 5) (pa_cons (pv 6) pa_nil)))) (pa_cons pe_str pa_nil))))) pss_nil)
        (pss_one (ps_ret (pe_tup (pa_cons (pe_tup (pa_cons pe_str (pa_cons (pv 5) (pa_cons (pv 6) pa_nil)))) (pa_cons (pe_ifExp (pt_val (pv 7)) pe_str (pe_ifExp (pt_cmpR op_eq (pv 4) pe_int (nomark _)) pe_str pe_non)) pa_nil)))))))))))
        pss_nil)
      (pss_cons (ps_par (i := 5) (j := 8) rfl nd rfl rfl (by decide) rfl rfl (pa_cons (pe_g (ok_l_take T) hr (by rfl) T.glo__law_take (kp_of T.fn_l_take) pass0 (pa_cons (pv 0) (pa_cons (pv 4) pa_nil))) (pa_cons (pe_g (ok_l_take T) hr (by rfl) T.glo__law_take (kp_of T.fn_l_take) pass0 (pa_cons (pv 0) (pa_cons (pv 4) pa_nil))) pa_nil)) (by rfl))
      (pss_cons (ps_imp (t' := tWild2) (ps_if (pt_cmpR op_eq (pe_g (ok_l_take T) hr (by rfl) T.glo__law_take (kp_of T.fn_l_take) pass0 (pa_cons (pv 0) (pa_cons pe_int pa_nil))) pe_int (nomark _))
            (pss_one (ps_set (i := 5) nd rfl (Or.inl rfl) (pe_ix ix_tup (pe_tup (pa_cons (pe_un un_neg pe_int) (pa_cons (pv 4) (pa_cons pe_non (pa_cons pe_str pa_nil))))) (pe_g (ok_l_take T) hr (by rfl) T.glo__law_take (kp_of T.fn_l_take) pass0 (pa_cons (pv 0) (pa_cons pe_int pa_nil))) (fun _ _ => rfl))))
            (pss_one (ps_if (PW.pt (pw_and (pt_cmpR op_eq (pv 3) pe_int (nomark _)) (pw_and1 (pt_cmpR op_eq (pe_g (ok_l_take T) hr (by rfl) T.glo__law_take (kp_of T.fn_l_take) pass0 (pa_cons (pv 0) (pa_cons pe_int pa_nil))) pe_int (nomark _)))))
              (pss_one (ps_set (i := 8) nd rfl (Or.inl rfl) (pe_ix ix_tup (pe_tup (pa_cons (pe_un un_neg pe_int) (pa_cons (pv 4) (pa_cons pe_non (pa_cons pe_bl pa_nil))))) (pe_g (ok_l_take T) hr (by rfl) T.glo__law_take (kp_of T.fn_l_take) pass0 (pa_cons (pv 0) (pa_cons pe_int pa_nil))) (fun _ _ => rfl)))) pss_nil)))
            (fun D σ H h => by
              obtain ⟨d, m, k, v0, w0, s0, s3, s4, s5, s8, f0, g0, hd, kk⟩ := h
              refine ⟨_, s0, d, 6, rfl, hd, by decide, fun H1 r b1 d1 r1 r2 => ⟨rfl, _, rfl, ite2 (fun _ => ?_) (fun _ => ?_)⟩⟩
              · refine ⟨1, rfl, _, s4, by show 4 ≤ sizeLine; decide, fun t ht => ?_⟩
                have e := same_new (o := .tup [.int (-1), .int m, .non, .str "0"]) ht
                refine ⟨_, s0, d, 4, rfl, d1.same e, by decide, fun H2 r' b2 d2 r3 r4 => ?_⟩
                obtain ⟨v, hv, fv⟩ := four (v0 := .int (-1)) (v1 := .int m) (v2 := .non) (v3 := .str "0") rfl rfl rfl rfl r3 r4
                have z := kk v w0 H2 fv g0 ((b1.trans (But.of e)).trans b2) d2
                rw [set_self (σ := σ.set 5 (some v)) (by rw [List.getElem?_set_ne (by decide)]; exact s8)] at z
                exact ⟨t, _, _, v, rfl, rfl, (kp_d (K := K) (d1.same e) b2).tk.tup (SqT.of upd_same), hv, z⟩
              · have stay : ∀ H', But [d] H H' → Drw H' d → D.nx σ H' := fun H' b' d' => by
                  have z := kk v0 w0 H' f0 g0 b' d'
                  rw [set_self s5, set_self s8] at z
                  exact z
                refine ⟨_, s3, rfl, _, rfl, ite2 (fun _ => ?_) (fun _ => iteF (stay _ b1 d1))⟩
                refine ⟨_, s0, d, 6, rfl, d1, by decide, fun H2 r' b2 d2 r3 r4 => ⟨rfl, _, rfl, ite2 (fun _ => ?_) (fun _ => stay _ (b1.trans b2) d2)⟩⟩
                refine ⟨1, rfl, _, s4, by show 4 ≤ sizeLine; decide, fun t ht => ?_⟩
                have e := same_new (o := .tup [.int (-1), .int m, .non, .bl true]) ht
                refine ⟨_, s0, d, 4, rfl, d2.same e, by decide, fun H3 r'' b3 d3 r5 r6 => ?_⟩
                obtain ⟨v, hv, fv⟩ := four (v0 := .int (-1)) (v1 := .int m) (v2 := .non) (v3 := .bl true) rfl rfl rfl rfl r5 r6
                have z := kk v0 v H3 f0 fv (((b1.trans b2).trans (But.of e)).trans b3) d3
                rw [set_self s5] at z
                exact ⟨t, _, _, v, rfl, rfl, (kp_d (K := K) (d2.same e) b3).tk.tup (SqT.of upd_same), hv, z⟩))
      (pss_cons (ps_set (i := 9) nd rfl (Or.inl rfl) (pe_ifExp (pt_cmpR op_eq (pv 3) pe_int (nomark _)) (pe_tup (pa_cons pe_str (pa_cons (pv 5) pa_nil))) (pe_tup (pa_cons pe_str (pa_cons (pv 5) (pa_cons (pv 8) pa_nil))))))
      (pss_cons (ps_set (i := 10) nd rfl (Or.inl rfl) (pe_slice sl_tupA (pv 9) (po_some pe_int) po_none))
      (pss_cons (ps_if (pt_val (pe_callB (cr_any rfl) (by rfl) T.free_any bb_any (pa_cons (pe_lc (own := [("_law_one", 11)]) rfl nd (pi_tup (pv 10)) (blkOk_by (N := N_change) (sc := defScope s_l_change) (by decide +kernel)) (fun _ _ _ _ _ => pg_name (i := 11) nd rfl (Or.inl rfl)) (fun _ _ _ _ _ => pts_nil)
            (fun _ _ _ _ _ => pe_bad (i := 11) (j := 4) T (by rfl) (by rfl) (by rfl) rfl (by first | exact Or.inl rfl | exact Or.inr (Or.inl rfl) | exact Or.inr (Or.inr rfl)) rfl (by first | exact Or.inl rfl | exact Or.inr (Or.inl rfl) | exact Or.inr (Or.inr rfl)))) pa_nil)))
          (pss_one (ps_ret (pe_tup (pa_cons (pv 9) (pa_cons pe_str pa_nil))))) pss_nil)
      (pss_one (ps_ret (pe_tup (pa_cons (pv 9) (pa_cons pe_non pa_nil))))))))))), ?_⟩
    have l16 : rvs.length ≤ 16 := by omega
    refine ⟨_, rfl, d, 3, rfl, hd, by decide, fun H1 k b1 d1 k1 k2 => ?_⟩
    have hra1 := (kp_d (K := K) hd b1).tk.tup hra
    refine ⟨_, rfl, ra, _, rfl, .inr hra1, by show 2 ≤ sizeLine; decide, fun t ht => ?_⟩
    have e2 := same_new (o := .tup [.int k, .int (rvs.length : Nat)]) ht
    have d2 := d1.same e2
    have B2 : But [d] H (upd H1 t (.tup [.int k, .int (rvs.length : Nat)])) := b1.trans (But.of e2)
    refine ⟨t, _, rfl, SqT.of upd_same, rfl, _, _, rfl, _, _, rfl, rfl, ?_⟩
    generalize upd H1 t (.tup [.int k, .int (rvs.length : Nat)]) = H2 at *
    refine ⟨_, rfl, rfl, _, rfl, ite2 (fun _ => iteT ?_) (fun hk => ⟨_, rfl, rfl, _, rfl, ite2 (fun _ => ?_) (fun hm => ?_)⟩)⟩
    rotate_left 2
    · have hm1 : 0 < rvs.length := by
        refine Nat.pos_of_ne_zero fun z => hm ?_
        rw [z]
        decide
      refine ⟨_, rfl, _, rfl, d, _, rfl, d2, by omega, fun H3 a b3 d3 a1 a2 => ⟨_, rfl, _, rfl, d, _, rfl, d3, by omega, fun H4 c b4 d4 c1 c2 => ⟨_, _, rfl, ?_⟩⟩⟩
      refine ⟨d, _, k, _, _, rfl, rfl, rfl, rfl, rfl, rfl, rfl, d4, fun v w H5 fv fw b5 d5 => ?_⟩
      have B5 : But [d] H H5 := ((B2.trans b3).trans b4).trans b5
      refine ⟨_, rfl, rfl, _, rfl, ite2 (fun _ => ?_) (fun _ => ?_)⟩
      · refine ⟨_, rfl, by show 2 ≤ sizeLine; decide, fun t6 h6 => ?_⟩
        have e6 := same_new (o := .tup [.str "take", v]) h6
        refine ⟨_, rfl, 1, rfl, ?_⟩
        dsimp only [tNoPart]
        refine slA (SqT.of upd_same) fun c7 H7 e7 hc7 => ?_
        rw [show (1 : Int) = ((1 : Nat) : Int) from rfl, cut_from] at hc7
        have hc7 : SqT K H7 c7 [v] := hc7
        have t67 : SqT K H7 t6 [.str "take", v] := same_tup e7 (SqT.of upd_same)
        refine ⟨_, rfl, c7, rfl, ⟨_, hc7⟩, fun D hD => lc_same (walk_tup (xs := [v])) (fun i => ((([v] : List V).map fun v => !isIn v 0 ((rvs.length : Nat) - 1)).map V.bl).take i) rfl hD (fun H8 e => same_tup e hc7) (fun i x Ha Hb hi p y => ?_) (fun H8 e8 hD8 => ?_)⟩
        · obtain ⟨rfl, hx⟩ := y
          have fx : flat x = true := by
            have := List.mem_of_getElem? hx
            simp at this
            subst this; assumption
          refine ⟨rfl, x, _, rfl, fx, rfl, ?_⟩
          refine lcn_yes hD (take_lt (n := 2) (by simp) (by decide)) p (take_snoc ?_)
          rw [get_map (get_map hx)]
        · rw [take_full (by simp)] at hD8
          refine ⟨D, _, rfl, SqL.of hD8, _, rfl, ?_⟩
          have E8 := (e6.trans e7).trans e8
          have d8 := d5.same E8
          have t68 := same_tup e8 t67
          have B8 : But [d] H H8 := B5.trans (But.of E8)
          cases hany : ((([v] : List V).map fun v => !isIn v 0 ((rvs.length : Nat) - 1)).any id) with
          | true =>
            refine iteT ⟨_, rfl, by show 2 ≤ sizeLine; decide, fun t9 h9 => ?_⟩
            have e9 := same_new (o := .tup [.ref t6, .str "place"]) h9
            refine q _ t9 _ _ (B8.trans (But.of e9)) (d8.same e9) (SqT.of upd_same) (.inl ⟨rfl, t6, rfl, ?_⟩)
            rw [← lr]
            refine .inr (.inl ⟨v, same_tup e9 t68, fv, ?_⟩)
            simpa using hany
          | false =>
            refine iteF ⟨_, rfl, by show 2 ≤ sizeLine; decide, fun t9 h9 => ?_⟩
            have e9 := same_new (o := .tup [.ref t6, .non]) h9
            have hv : isIn v 0 ((rvs.length : Nat) - 1) = true := by simpa using hany
            obtain ⟨i, rfl, hi⟩ := isIn_some hv
            exact q _ t9 _ _ (B8.trans (But.of e9)) (d8.same e9) (SqT.of upd_same) (.inr (.inr (.inr ⟨rfl, .take i, ⟨t6, rfl, same_tup e9 t68⟩, by show i < R.length; omega⟩)))
      · refine ⟨_, rfl, _, rfl, by show 3 ≤ sizeLine; decide, fun t6 h6 => ?_⟩
        have e6 := same_new (o := .tup [.str "move", v, w]) h6
        refine ⟨_, rfl, 1, rfl, ?_⟩
        dsimp only [tNoPart]
        refine slA (SqT.of upd_same) fun c7 H7 e7 hc7 => ?_
        rw [show (1 : Int) = ((1 : Nat) : Int) from rfl, cut_from] at hc7
        have hc7 : SqT K H7 c7 [v, w] := hc7
        have t67 : SqT K H7 t6 [.str "move", v, w] := same_tup e7 (SqT.of upd_same)
        refine ⟨_, rfl, c7, rfl, ⟨_, hc7⟩, fun D hD => lc_same (walk_tup (xs := [v, w])) (fun i => ((([v, w] : List V).map fun v => !isIn v 0 ((rvs.length : Nat) - 1)).map V.bl).take i) rfl hD (fun H8 e => same_tup e hc7) (fun i x Ha Hb hi p y => ?_) (fun H8 e8 hD8 => ?_)⟩
        · obtain ⟨rfl, hx⟩ := y
          have fx : flat x = true := by
            have := List.mem_of_getElem? hx
            simp at this
            rcases this with rfl | rfl <;> assumption
          refine ⟨rfl, x, _, rfl, fx, rfl, ?_⟩
          refine lcn_yes hD (take_lt (n := 2) (by simp) (by decide)) p (take_snoc ?_)
          rw [get_map (get_map hx)]
        · rw [take_full (by simp)] at hD8
          refine ⟨D, _, rfl, SqL.of hD8, _, rfl, ?_⟩
          have E8 := (e6.trans e7).trans e8
          have d8 := d5.same E8
          have t68 := same_tup e8 t67
          have B8 : But [d] H H8 := B5.trans (But.of E8)
          cases hany : ((([v, w] : List V).map fun v => !isIn v 0 ((rvs.length : Nat) - 1)).any id) with
          | true =>
            refine iteT ⟨_, rfl, by show 2 ≤ sizeLine; decide, fun t9 h9 => ?_⟩
            have e9 := same_new (o := .tup [.ref t6, .str "place"]) h9
            refine q _ t9 _ _ (B8.trans (But.of e9)) (d8.same e9) (SqT.of upd_same) (.inl ⟨rfl, t6, rfl, ?_⟩)
            rw [← lr]
            refine .inr (.inr ⟨v, w, same_tup e9 t68, fv, fw, ?_⟩)
            simpa using hany
          | false =>
            refine iteF ⟨_, rfl, by show 2 ≤ sizeLine; decide, fun t9 h9 => ?_⟩
            have e9 := same_new (o := .tup [.ref t6, .non]) h9
            have hv : isIn v 0 ((rvs.length : Nat) - 1) = true ∧ isIn w 0 ((rvs.length : Nat) - 1) = true := by simpa using hany
            obtain ⟨i, rfl, hi⟩ := isIn_some hv.1
            obtain ⟨j, rfl, hj⟩ := isIn_some hv.2
            exact q _ t9 _ _ (B8.trans (But.of e9)) (d8.same e9) (SqT.of upd_same) (.inr (.inr (.inr ⟨rfl, .move i j, ⟨t6, rfl, same_tup e9 t68⟩, by show i < R.length; omega, by show j < R.length; omega⟩)))
    all_goals
      refine ⟨_, rfl, _, rfl, _, _, rfl, rfl, d, _, rfl, d2, by omega, fun H3 a b3 d3 a1 a2 => ?_⟩
      refine ⟨d, _, _, rfl, rfl, rfl, rfl, d3, fun v H4 fv b4 d4 => ?_⟩
      have B4 : But [d] H H4 := (B2.trans b3).trans b4
      refine ⟨_, rfl, _, rfl, d, n, 2, rfl, d4, hn, by decide, fun H5 pa na b5 d5 ha5 hs5 => ⟨_, rfl, _, rfl, d, n, 2, rfl, d5, hn, by decide, fun H6 pb nb b6 d6 hb6 hs6 => ⟨by show 2 ≤ sizeLine; decide, fun t6 h6 => ?_⟩⟩⟩
      have e6 := same_new (o := .tup [.ref pa, .ref pb]) h6
      have d7 := d6.same e6
      have rl7 : RlAt K (upd H6 t6 (.tup [.ref pa, .ref pb])) (.ref t6) (na, nb) := ⟨t6, pa, pb, rfl, SqT.of upd_same, same_tup e6 ((kp_d (K := K) d5 b6).tk.tup ha5), same_tup e6 hb6⟩
      have rr7 : isRule (n : Nat) (na, nb) = true := by
        unfold isRule
        rw [hs5, hs6]
        rfl
      have B7 : But [d] H (upd H6 t6 (.tup [.ref pa, .ref pb])) := ((B4.trans b5).trans b6).trans (But.of e6)
      generalize upd H6 t6 (.tup [.ref pa, .ref pb]) = H7 at *
      refine ⟨_, rfl, d, 7, rfl, d7, by decide, fun H8 r8 b8 d8 q1 q2 => ⟨rfl, ?_⟩⟩
      have B8 : But [d] H H8 := B7.trans b8
      refine ⟨d, _, _, rfl, rfl, rfl, d8, by omega, fun hb => ?_, fun hb rv H9 hodd b9 d9 => ?_⟩
      · rw [hb]
        refine ⟨v, _, rfl, fv, rfl, ?_⟩
        cases hin : isIn v 0 (rvs.length : Nat) with
        | false =>
          refine iteT ⟨_, rfl, _, rfl, by show 3 ≤ sizeLine; decide, fun t1 h1 => ⟨by show 2 ≤ sizeLine; decide, fun t2 h2 => ?_⟩⟩
          have f1 := same_new (o := .tup [.str "put", v, .ref t6]) h1
          have f2 := same_new (o := .tup [.ref t1, .str "place"]) h2
          refine q _ t2 _ _ (B8.trans (But.of (f1.trans f2))) (d8.same (f1.trans f2)) (SqT.of upd_same) (.inl ⟨rfl, t1, rfl, .inl ⟨v, _, same_tup f2 (SqT.of upd_same), fv, ?_⟩⟩)
          rw [← lr]
          exact hin
        | true =>
          obtain ⟨i, rfl, hi⟩ := isIn_some hin
          have hiR : i ≤ R.length := by omega
          have rl8 : RlAt K H8 (.ref t6) (na, nb) := (kp_d (K := K) d7 b8).tk.rl rl7
          refine iteF ⟨_, rfl, _, rfl, by show 3 ≤ sizeLine; decide, fun t1 h1 => ⟨_, rfl, false, rfl, iteF ?_⟩⟩
          have f1 := same_new (o := .tup [.str "put", .int (i : Nat), .ref t6]) h1
          refine ⟨_, rfl, rfl, _, rfl, ite2 (fun h16 => ?_) (fun h16 => ?_)⟩
          · refine ⟨by show 2 ≤ sizeLine; decide, fun t2 h2 => ?_⟩
            have f2 := same_new (o := .tup [.ref t1, .str "large"]) h2
            have z := of_decide_eq_true h16
            injection z with z
            exact q _ t2 _ _ (B8.trans (But.of (f1.trans f2))) (d8.same (f1.trans f2)) (SqT.of upd_same) (.inr (.inr (.inl ⟨rfl, i, (na, nb), ⟨t1, _, rfl, same_tup f2 (SqT.of upd_same), same_rl (f1.trans f2) rl8⟩, hiR, by omega, rr7⟩)))
          · refine ⟨by show 2 ≤ sizeLine; decide, fun t2 h2 => ?_⟩
            have f2 := same_new (o := .tup [.ref t1, .non]) h2
            have n16 : R.length ≠ 16 := fun z => h16 (decide_eq_true (by rw [lr, z]; rfl))
            exact q _ t2 _ _ (B8.trans (But.of (f1.trans f2))) (d8.same (f1.trans f2)) (SqT.of upd_same) (.inr (.inr (.inr ⟨rfl, .put i (na, nb), ⟨t1, _, rfl, same_tup f2 (SqT.of upd_same), same_rl (f1.trans f2) rl8⟩, hiR, by omega, rr7⟩)))
      · rw [hb]
        refine ⟨v, _, rfl, fv, rfl, ?_⟩
        have B9 : But [d] H H9 := B8.trans b9
        cases hin : isIn v 0 (rvs.length : Nat) with
        | false =>
          refine iteT ⟨_, rfl, _, rfl, by show 3 ≤ sizeLine; decide, fun t1 h1 => ⟨by show 2 ≤ sizeLine; decide, fun t2 h2 => ?_⟩⟩
          have f1 := same_new (o := .tup [.str "put", v, rv]) h1
          have f2 := same_new (o := .tup [.ref t1, .str "place"]) h2
          refine q _ t2 _ _ (B9.trans (But.of (f1.trans f2))) (d9.same (f1.trans f2)) (SqT.of upd_same) (.inl ⟨rfl, t1, rfl, .inl ⟨v, _, same_tup f2 (SqT.of upd_same), fv, ?_⟩⟩)
          rw [← lr]
          exact hin
        | true =>
          obtain ⟨i, rfl, hi⟩ := isIn_some hin
          refine iteF ⟨_, rfl, _, rfl, by show 3 ≤ sizeLine; decide, fun t1 h1 => ⟨_, rfl, true, rfl, iteT ⟨by show 2 ≤ sizeLine; decide, fun t2 h2 => ?_⟩⟩⟩
          have f1 := same_new (o := .tup [.str "put", .int (i : Nat), rv]) h1
          have f2 := same_new (o := .tup [.ref t1, .str "rule"]) h2
          exact q _ t2 _ _ (B9.trans (But.of (f1.trans f2))) (d9.same (f1.trans f2)) (SqT.of upd_same) (.inr (.inl ⟨rfl, t1, i, rv, rfl, same_tup f2 (SqT.of upd_same), by omega, hodd.same (f1.trans f2)⟩))
end
end K47
set_option maxHeartbeats 8000000
/-! ### _law_step -/
namespace K47
open PySem PySem.Spec PyProof.Rows L2
section
variable {K : PySem.W.Frag} {H : Hp} {a p nn : Addr} {fl : Nat} {m : Int} {Rs : List (List Rl)} {R : List Rl} {cs : List Ch} {cv : V} {Q : VK} {E : XK}
theorem OddR.ext {H' : Hp} {v : V} (h : OddR K H m v) (e : LamX.ExtN H H') : OddR K H' m v := by
  rcases h with ⟨r, h1, h2⟩ | ⟨a, xs, h1, h2⟩
  · exact .inl ⟨r, (Kp.ext (K := K) e).tk.rl h1, h2⟩
  · exact .inr ⟨a, xs, h1, e _ _ h2 (fun _ z => by cases z)⟩
theorem Out.ext {H' : Hp} {wv : V} (h : Out K H m R cv wv) (e : LamX.ExtN H H') : Out K H' m R cv wv := by
  rcases h with ⟨h1, t, rfl, h⟩ | ⟨h1, t, i, rv, rfl, h2, h3, h4⟩ | ⟨h1, i, r, h2, h3⟩ | ⟨h1, c, h2, h3⟩
  · refine .inl ⟨h1, t, rfl, ?_⟩
    rcases h with ⟨x, rv, h2, h3⟩ | ⟨x, h2, h3⟩ | ⟨x, y, h2, h3⟩
    · exact .inl ⟨x, rv, ext_tup e h2, h3⟩
    · exact .inr (.inl ⟨x, ext_tup e h2, h3⟩)
    · exact .inr (.inr ⟨x, y, ext_tup e h2, h3⟩)
  · exact .inr (.inl ⟨h1, t, i, rv, rfl, ext_tup e h2, h3, h4.ext e⟩)
  · exact .inr (.inr (.inl ⟨h1, i, r, (Kp.ext e).ch h2, h3⟩))
  · exact .inr (.inr (.inr ⟨h1, c, (Kp.ext e).ch h2, h3⟩))
theorem do_place (hd : DeskAt K H a p nn fl m (Rs ++ [R]) cs) (hl : cs.length ≤ 4000) (hw : Wrong K H R.length cv) (q : E (.ref (He.ga K "BadPlace")) none H) : sp_do K [.ref a, cv] H Q E := by
  obtain ⟨t, rfl, h⟩ := hw
  refine ⟨a, t, rfl, ?_⟩
  rcases h with ⟨x, rv, h2, h3, h4⟩ | ⟨x, h2, h3, h4⟩ | ⟨x, y, h2, h3, h4, h5⟩
  · exact .inl ⟨x, rv, h2, a, p, nn, fl, m, Rs, R, cs, x, rv, rfl, hd, hl, h3, .inl ⟨h4, q⟩⟩
  · exact .inr (.inl ⟨x, h2, a, p, nn, fl, m, Rs, R, cs, x, rfl, hd, hl, h3, .inl ⟨h4, q⟩⟩)
  · exact .inr (.inr ⟨x, y, h2, a, p, nn, fl, m, Rs, R, cs, x, y, rfl, hd, hl, h3, h4, .inl ⟨h5, q⟩⟩)
theorem do_good {c : Ch} (hd : DeskAt K H a p nn fl m (Rs ++ [R]) cs) (hl : cs.length ≤ 4000) (hc : ChAt K H cv c) (hk : ChOk m c R) (q : ∀ H' b, But [p, nn] H H' → DeskAt K H' a p nn fl m (Rs ++ [R] ++ [chR c R]) (cs ++ [c]) → BookAt K H' b m (chR c R) → Q (.ref b) H') : sp_do K [.ref a, cv] H Q E := by
  have okR := hd.okL
  cases c with
  | put i r =>
    obtain ⟨t, rv, rfl, h1, h2⟩ := hc
    obtain ⟨k1, k2, k3⟩ := hk
    exact ⟨a, t, rfl, .inl ⟨_, rv, h1, a, p, nn, fl, m, Rs, R, cs, _, rv, rfl, hd, hl, rfl, .inr ⟨i, rfl, k1, .inr ⟨r, h2, isRule_small okR.hi k3, k3, .inr ⟨k2, q⟩⟩⟩⟩⟩
  | take i =>
    obtain ⟨t, rfl, h1⟩ := hc
    exact ⟨a, t, rfl, .inr (.inl ⟨_, h1, a, p, nn, fl, m, Rs, R, cs, _, rfl, hd, hl, rfl, .inr ⟨i, rfl, hk, q⟩⟩)⟩
  | move i j =>
    obtain ⟨t, rfl, h1⟩ := hc
    obtain ⟨k1, k2⟩ := hk
    have e : R[i]? = some R[i] := List.getElem?_eq_getElem k1
    have ec : chR (.move i j) R = moveR i j R[i] R := by rw [chR_move, e]
    rw [ec] at q
    exact ⟨a, t, rfl, .inr (.inr ⟨_, _, h1, a, p, nn, fl, m, Rs, R, cs, _, _, rfl, hd, hl, rfl, rfl, .inr ⟨i, j, R[i], rfl, rfl, k1, k2, e, q⟩⟩)⟩
end
theorem str_non (s : Str) : decide (V.str s = V.non) = false := decide_eq_false fun z => by cases z
theorem nd5 {d p nn lb lp : Addr} (h : [d, p, nn, lb, lp].Nodup) : (d ≠ p ∧ d ≠ nn ∧ d ≠ lb ∧ d ≠ lp) ∧ (p ≠ nn ∧ p ≠ lb ∧ p ≠ lp) ∧ (nn ≠ lb ∧ nn ≠ lp) ∧ lb ≠ lp := by
  simpa using h
section
variable {K : PySem.W.Frag} {H H' : Hp} {d a p nn o lb lp : Addr} {fl : Nat} {m : Int} {Rs : List (List Rl)} {cs : List Ch}
theorem DeskAt.notlst (h : DeskAt K H a p nn fl m Rs cs) {x : Addr} {xs : List V} (hx : H x = some (.lst xs)) : a ≠ x := by
  obtain ⟨da, h1, h2⟩ := h.ex
  exact slO_ne_lst h1 hx
theorem DeskAt.drw (h : DeskAt K H a p nn fl m Rs cs) (dr : Drw H d) (b : But [d] H H') (n1 : d ≠ p) (n2 : d ≠ nn) : DeskAt K H' a p nn fl m Rs cs := by
  obtain ⟨ds, hds, _⟩ := id dr
  exact h.keep (ButN.of b) (kp_d dr b) (by simpa using h.notlst hds) (by simpa using n1.symm) (by simpa using n2.symm)
theorem OwnAt.drw (h : OwnAt K H o lb lp Rs cs) (dr : Drw H d) (b : But [d] H H') (n1 : d ≠ lb) (n2 : d ≠ lp) : OwnAt K H' o lb lp Rs cs := h.keep (ButN.of b) (kp_d dr b) (by simpa using n1.symm) (by simpa using n2.symm)
theorem tabs_d {T : List (Addr × Str)} (K : PySem.W.Frag) (h : LamX.Tabs T H) (dr : Drw H d) (b : But [d] H H') : LamX.Tabs T H' := by
  obtain ⟨ds, hds, _⟩ := dr
  exact tabs_but (K := K) h b fun y hy => by
    rw [List.mem_singleton.mp hy]
    exact mut_lst hds
theorem DeskAt.muts (h : DeskAt K H a p nn fl m Rs cs) : ∀ x ∈ [p, nn], Mut K H x := fun x hx => by
  obtain ⟨bs, h1, _⟩ := h.past
  obtain ⟨ns, h2, _⟩ := h.notes
  rcases List.mem_cons.mp hx with rfl | hx
  · exact mut_lst h1
  · rw [List.mem_singleton.mp hx]
    exact mut_lst h2
/-- the law's own lists, written -/
theorem own_set {bs' ps' b0 p0 : List V} {Rs' : List (List Rl)} {cs' : List Ch} (hnd : [d, p, nn, lb, lp].Nodup) (dr : Drw H d) (hd : DeskAt K H a p nn fl m Rs' cs') (hT : LamX.Tabs (tabT K) H) (h1 : H lb = some (.lst b0)) (h2 : H lp = some (.lst p0)) (ot : SqT K H o [.ref lb, .ref lp])
    (pb : Paired (RlsAt K H) bs' Rs') (pp : Paired (ChAt K H) ps' cs') :
    But [lb, lp] H (upd (upd H lb (.lst bs')) lp (.lst ps')) ∧ Kp K H (upd (upd H lb (.lst bs')) lp (.lst ps')) ∧ Drw (upd (upd H lb (.lst bs')) lp (.lst ps')) d ∧ DeskAt K (upd (upd H lb (.lst bs')) lp (.lst ps')) a p nn fl m Rs' cs' ∧
      OwnAt K (upd (upd H lb (.lst bs')) lp (.lst ps')) o lb lp Rs' cs' ∧ LamX.Tabs (tabT K) (upd (upd H lb (.lst bs')) lp (.lst ps')) := by
  obtain ⟨⟨dp, dn, db, dl⟩, ⟨pn, pb', pl⟩, ⟨nb, nl⟩, bl⟩ := nd5 hnd
  have b : But [lb, lp] H (upd (upd H lb (.lst bs')) lp (.lst ps')) := ((But.refl _ _).updM (by simp)).updM (by simp)
  have mu : ∀ x ∈ [lb, lp], Mut K H x := fun x hx => by
    rcases List.mem_cons.mp hx with rfl | hx
    · exact mut_lst h1
    · rw [List.mem_singleton.mp hx]
      exact mut_lst h2
  have k : Kp K H _ := Kp.but (ButN.of b) mu
  refine ⟨b, k, ?_, hd.keep (ButN.of b) k (by simp [hd.notlst h1, hd.notlst h2]) (by simp [pb', pl]) (by simp [nb, nl]), ⟨k.tk.tup ot, ⟨bs', by rw [upd_ne bl, upd_same], Paired.mapP pb fun _ _ => k.rls⟩, ⟨ps', upd_same, Paired.mapP pp fun _ _ => k.ch⟩⟩, tabs_but (K := K) hT b mu⟩
  obtain ⟨ds, z1, z2⟩ := dr
  exact ⟨ds, b _ _ z1 (by simp [db, dl]), z2⟩
end
theorem shaped_str (s : String) (h : PyData.strOk (Str.ofString s) = true) : SeqAt.shaped (.str (Str.ofString s)) = true := by
  simp [SeqAt.shaped, PyData.canLay0, PyData.depth, h]
section
variable {P : Program} {w : World} {K : PySem.W.Frag} {mg : Str → Option Value} {base : Heap}
def sp_step (K : PySem.W.Frag) : Sp := fun vs H Q _ => ∃ (d : Addr) (n : Nat) (a o p nn lb lp : Addr) (fl : Nat) (Rs : List (List Rl)) (cs : List Ch), vs = [.ref d, .int (n : Nat), .ref a, .ref o, .int (fl : Nat)] ∧ n ≤ 5 ∧ Drw H d ∧ DeskAt K H a p nn fl (n : Nat) Rs cs ∧ OwnAt K H o lb lp Rs cs ∧
  [d, p, nn, lb, lp].Nodup ∧ cs.length ≤ 800 ∧ LamX.Tabs (tabT K) H ∧
  ∀ H' Rs' cs', ButN [d, p, nn, lb, lp] H H' → Drw H' d → DeskAt K H' a p nn fl (n : Nat) Rs' cs' → OwnAt K H' o lb lp Rs' cs' → cs'.length ≤ cs.length + 1 → LamX.Tabs (tabT K) H' → Q (.bl true) H'
abbrev N_step : List Str := ["_law_draws", "_law_marks", "_law_desk", "_law_own", "_law_floor", "_law_books", "_law_past", "_law_due", "_law_change_here", "_law_word_here", "_law_told"]
theorem sc_step : FnScope N_step ["_law_draws", "_law_marks", "_law_desk", "_law_own", "_law_floor"] (defScope s_l_step) := ⟨rfl, rfl, rfl, by decide +kernel, rfl, by decide +kernel, by decide +kernel⟩
theorem ok_step (T : TX K mg) (B : TBs K mg base) : FnR P w K mg base CX0 12 (He.ga K "_law_step") (sp_step K) := by
  refine fr0T (p := ("_law_step", none)) T.fn_l_step sc_step (fun _ _ _ _ _ _ us hl => match us, hl with | [_, _, _, _, _], _ => rfl) (fun vs H Q E h => ?_) (fun A outer s H vs Q E hr h => ?_)
  · obtain ⟨d, n, a, o, p, nn, lb, lp, fl, Rs, cs, rfl, _⟩ := h
    rfl
  · obtain ⟨d, n, a, o, p, nn, lb, lp, fl, Rs, cs, rfl, hn, hdr, hd, ho, hnd, hle, hT, q⟩ := h
    have nd := sc_step.nd
    have TB := B ("_law_step", none) (by simp [tabDefs])
    have me := T.meth_Book___eq__
    refine ⟨_, pss_cons (ps_asg (pv 3) (pg_pair (K := K) 5 6 nd))
      (pss_cons (ps_if (pt_cmpR op_eq (pe_g (ok_l_take T) hr (by rfl) T.glo__law_take (kp_of T.fn_l_take) pass0 (pa_cons (pv 0) (pa_cons pe_int pa_nil))) pe_int (nomark _))
          (pss_cons (ps_set (i := 7) nd rfl (Or.inl rfl) (pe_ifExp (pt_cmpR op_gt (pe_callB call_len_seq (by rfl) T.free_len bb_len (pa_cons (pv 6) pa_nil)) (pv 4) (nomark _)) (pe_ix ix_list (pv 6) (pe_un un_neg pe_int) (fun _ _ => rfl)) pe_str))
          (pss_cons (ps_if (pt_cmpR (op_neD hr.units) (pe_word (k := 8) (t := fun E => SlX.tMethSl (cD K) (sp_undo K) E (tVar 2) tNil) T (by rfl) TB rfl (by exact .tail _ (.head _)) (hr.mono (by decide)) (LamX.lamS_by (by show LamX.lamSB (defScope s_l_step) _ = true; decide +kernel)) rfl (fun _ _ _ _ _ => rfl)
                (fun A outer s H E f c' hr' => SlX.pe_methSl0 (pv 2) T.scls_Desk T.meth_Desk_undo (ok_undo T) (hr'.mono (by decide)) (passes_call (takes_of rfl rfl rfl rfl) (fun _ _ _ _ h => h)))) (pv 7) (nomark _))
              (pss_one (ps_ret pe_bl)) pss_nil)
          (pss_cons (ps_if (pt_cmpR (op_neD hr.units) (pv 7) pe_str (nomark _))
              (pss_cons (ps_expr (pe_bm0 PySem.F.plainAttrs_list PySem.F.slot_list_pop PySem.F.type_list_pop mt_pop (pv 5))) (pss_one (ps_expr (pe_bm0 PySem.F.plainAttrs_list PySem.F.slot_list_pop PySem.F.type_list_pop mt_pop (pv 6))))) pss_nil)
            (pss_one (ps_ret pe_bl))))) pss_nil)
      (pss_cons (ps_asg (pe_g (ok_change T) hr (by rfl) T.glo__law_change (kp_of T.fn_l_change) pass0 (pa_cons (pv 0) (pa_cons (pv 1) (pa_cons (pe_ix ix_list (pv 5) (pe_un un_neg pe_int) (fun _ _ => rfl)) pa_nil)))) (pg_pair (K := K) 8 9 nd))
      (pss_cons (ps_set (i := 10) nd rfl (Or.inl rfl) (pe_word (k := 8) (t := fun E => tCallR (sp_do K) E (tCons (tVar 2) (tCons (tVar 8) tNil))) T (by rfl) TB rfl (by exact .tail _ (.head _)) (hr.mono (by decide)) (LamX.lamS_by (by show LamX.lamSB (defScope s_l_step) _ = true; decide +kernel)) rfl (fun _ _ _ _ _ => rfl)
                (fun A outer s H E f c' hr' => pe_g (ok_do T) hr' (by rfl) T.glo__law_do (kp_of T.fn_l_do) (passes_call (takes_of rfl rfl rfl rfl) (fun _ _ _ _ h => h)) (pa_cons (pv 2) (pa_cons (pv 8) pa_nil)))))
      (pss_cons (ps_if (pt_cmpR op_notN (pv 9) pe_non (nomark _)) (pss_one (ps_ret (pe_cmpR (op_eqD hr.units) (pv 10) (pv 9) (nomark _)))) pss_nil)
      (pss_cons (ps_expr (pe_bm PySem.F.plainAttrs_list PySem.F.slot_list_append PySem.F.type_list_append mt_append (pv 5) (pa_cons (pe_g (ok_lchanged T) hr (by rfl) T.glo__law_changed (kp_of T.fn_l_changed) pass0 (pa_cons (pe_ix ix_list (pv 5) (pe_un un_neg pe_int) (fun _ _ => rfl)) (pa_cons (pv 8) pa_nil))) pa_nil)))
      (pss_cons (ps_expr (pe_bm PySem.F.plainAttrs_list PySem.F.slot_list_append PySem.F.type_list_append mt_append (pv 6) (pa_cons (pv 8) pa_nil)))
      (pss_one (ps_ret (pe_cmpR (SlX.op_own (fun _ _ => rfl) me.at_ me.fn (ok_Book_eq T) (hr.mono (by decide)) pass0) (pv 10)
        (StX.pe_makeR T.mkr_Book (ok_Book_init T) (hr.mono (by decide)) (by rfl) T.glo_Book pass0 (pa_cons (pv 1) (pa_cons (pe_ix ix_list (pv 5) (pe_un un_neg pe_int) (fun _ _ => rfl)) pa_nil))) (nomark _)))))))))), ?_⟩
    obtain ⟨⟨dp, dn, db, dl⟩, ⟨pn, pb, pl⟩, ⟨nb, nl⟩, bl⟩ := nd5 hnd
    refine ⟨_, rfl, o, _, rfl, ho.t, rfl, _, _, rfl, _, _, rfl, rfl, ?_⟩
    refine ⟨_, rfl, d, 4, rfl, hdr, by decide, fun H1 r b1 d1 r1 r2 => ?_⟩
    have hd1 := hd.drw hdr b1 dp dn
    have ho1 := ho.drw hdr b1 db dl
    have T1 := tabs_d K hT hdr b1
    have N1 : ButN [d, p, nn, lb, lp] H H1 := (ButN.of b1).mono fun x hx => .inl (by simp at hx; simp [hx])
    obtain ⟨ot1, ⟨bs, ob, obp⟩, ⟨ps, oc, ocp⟩⟩ := id ho1
    have lps := Paired.length ocp
    have hlen := hd.len
    obtain ⟨Rs0, R, rfl⟩ := list_last (l := Rs) (fun z => by rw [z] at hlen; simp at hlen)
    obtain ⟨bs', rv0, rfl, hb1, hb2⟩ := paired_last obp
    have nshape : SeqAt.shaped (.str (Str.ofString "none")) = true := shaped_str "none" (by decide +kernel)
    refine ⟨rfl, _, rfl, ite2 (fun _ => ?_) (fun _ => ?_)⟩
    · -- an undoing
      refine ⟨_, rfl, lp, _, rfl, .inl (SqL.of oc), _, rfl, _, _, rfl, rfl, _, rfl, ite2 (fun hgt => ?_) (fun hgt => ?_)⟩
      · have hlt : fl < ps.length := by
          have := of_decide_eq_true hgt
          omega
        obtain ⟨cs', c, rfl⟩ := list_last (l := cs) (fun z => by rw [z] at lps; have h0 : ps.length = 0 := lps; omega)
        obtain ⟨ps', wv, rfl, hp1, hp2⟩ := paired_last ocp
        refine ⟨_, rfl, 1, rfl, lp, _, _, _, rfl, rfl, SqL.of oc, atI_last _ _, ?_⟩
        refine ⟨T1, fun H2 eN T2 Q' hQ' => ?_⟩
        have hd2 := hd1.ext eN
        have ho2 := ho1.ext eN
        obtain ⟨da2, sa2⟩ := hd2.slt
        have hflc : fl ≤ cs'.length := by
          have := Paired.length hp1
          rw [List.length_append] at hlt
          simp at hlt
          omega
        refine ⟨_, rfl, a, da2, _, rfl, sa2, a, p, nn, fl, _, _, _, rfl, hd2, .inr ⟨Rs0, R, cs', c, rfl, rfl, hflc, fun H3 v b3 hd3 hv => hQ' _ _ ?_⟩⟩
        have mu2 := hd2.muts
        have K3 : Kp K H2 H3 := Kp.but (ButN.of b3) mu2
        have K13 := (Kp.ext (K := K) eN).trans K3
        have T3 := tabs_but (K := K) T2 b3 mu2
        have N3 : ButN [d, p, nn, lb, lp] H H3 := (N1.trans (ButN.ext eN)).trans ((ButN.of b3).mono fun x hx => .inl (by simp at hx; rcases hx with rfl | rfl <;> simp))
        have hw3 := K13.ch hp2
        have d3 : Drw H3 d := by
          obtain ⟨ds, z1, z2⟩ := d1
          exact ⟨ds, b3 _ _ (eN _ _ z1 (fun _ z => by cases z)) (by simp [dp, dn]), z2⟩
        have ob3 : H3 lb = some (.lst (bs' ++ [rv0])) := b3 _ _ (eN _ _ ob (fun _ z => by cases z)) (by simp [pb.symm, nb.symm])
        have oc3 : H3 lp = some (.lst (ps' ++ [wv])) := b3 _ _ (eN _ _ oc (fun _ z => by cases z)) (by simp [pl.symm, nl.symm])
        refine ⟨_, rfl, chD c, chD c, dp_ch hv, dp_ch hw3, shaped_ch c, shaped_ch c, _, rfl, ?_⟩
        rw [eqv_of_shaped (shaped_ch c)]
        refine iteF ⟨_, rfl, chD c, .str (Str.ofString "none"), dp_ch hw3, .str _, shaped_ch c, nshape, _, rfl, ?_⟩
        have e0 : PyData.eqv (chD c) (.str (Str.ofString "none")) = false := by cases c <;> rfl
        rw [e0]
        refine iteT ⟨_, rfl, .inl ⟨rfl, _, SqL.of ob3⟩, lb, _, rv0, rfl, rfl, ob3, by simp, ?_⟩
        rw [List.dropLast_concat]
        have oc4 : upd H3 lb (.lst bs') lp = some (.lst (ps' ++ [wv])) := by rw [upd_ne bl.symm]; exact oc3
        refine ⟨_, rfl, .inl ⟨rfl, _, SqL.of oc4⟩, lp, _, wv, rfl, rfl, oc4, by simp, ?_⟩
        rw [List.dropLast_concat]
        obtain ⟨c1, c2, c3, c4, c5, c6⟩ := own_set (o := o) (bs' := bs') (ps' := ps') hnd d3 hd3 T3 ob3 oc3 (K13.tk.tup ot1) (Paired.mapP hb1 fun _ _ => K13.rls) (Paired.mapP hp1 fun _ _ => K13.ch)
        exact q _ Rs0 cs' (N3.trans ((ButN.of c1).mono fun x hx => .inl (by simp at hx; rcases hx with rfl | rfl <;> simp))) c3 c4 c5 (by simp; omega) c6
      · have hcl : cs.length = fl := by
          have h1 : ¬ (fl : Int) < (ps.length : Nat) := fun z => hgt (decide_eq_true z)
          have := hd.fl'
          omega
        refine ⟨T1, fun H2 eN T2 Q' hQ' => ?_⟩
        have hd2 := hd1.ext eN
        obtain ⟨da2, sa2⟩ := hd2.slt
        refine ⟨_, rfl, a, da2, _, rfl, sa2, a, p, nn, fl, _, _, _, rfl, hd2, .inl ⟨hcl, .inl ⟨rfl, ?_⟩⟩⟩
        refine ⟨_, rfl, .str (Str.ofString "none"), .str (Str.ofString "none"), .str _, .str _, nshape, nshape, _, rfl, ?_⟩
        rw [eqv_of_shaped nshape]
        refine iteF ⟨_, rfl, .str (Str.ofString "none"), .str (Str.ofString "none"), .str _, .str _, nshape, nshape, _, rfl, ?_⟩
        rw [eqv_of_shaped nshape]
        refine iteF ?_
        obtain ⟨ds, z1, z2⟩ := d1
        exact q _ _ _ (N1.trans (ButN.ext eN)) ⟨ds, eN _ _ z1 (fun _ z => by cases z), z2⟩ hd2 (ho1.ext eN) (Nat.le_succ _) T2
    · -- a change
      have okR := hd1.okL
      refine ⟨_, rfl, _, rfl, _, rfl, 1, rfl, lb, _, _, _, rfl, rfl, SqL.of ob, atI_last _ _, ?_⟩
      refine ⟨d, n, rv0, R, rfl, d1, hn, hb2, okR.len, fun H2 t cv wv b2 d2 ht hout => ?_⟩
      have hd2 := hd1.drw d1 b2 dp dn
      have ho2 := ho1.drw d1 b2 db dl
      have T2 := tabs_d K T1 d1 b2
      have N2 : ButN [d, p, nn, lb, lp] H H2 := N1.trans ((ButN.of b2).mono fun x hx => .inl (by simp at hx; simp [hx]))
      refine ⟨t, _, rfl, ht, rfl, _, _, rfl, _, _, rfl, rfl, ?_⟩
      refine ⟨T2, fun H3 eN T3 Q' hQ' => ⟨_, rfl, _, rfl, ?_⟩⟩
      have hd3 := hd2.ext eN
      have ho3 := ho2.ext eN
      have hout3 := hout.ext eN
      have N3 : ButN [d, p, nn, lb, lp] H H3 := N2.trans (ButN.ext eN)
      have d3 : Drw H3 d := let ⟨ds, z1, z2⟩ := d2; ⟨ds, eN _ _ z1 (fun _ z => by cases z), z2⟩
      have fin : ∀ H', Same H3 H' → Q (.bl true) H' := fun H' e => by
        obtain ⟨ds, z1, z2⟩ := d3
        exact q H' _ _ (N3.trans (ButN.same e)) ⟨ds, e _ _ z1, z2⟩ (hd3.same e) (ho3.ext (LamX.ExtN.of e)) (Nat.le_succ _) (T3.ext e)
      have sh1 : SeqAt.shaped (.str (Str.ofString "place")) = true := shaped_str "place" (by decide +kernel)
      have sh2 : SeqAt.shaped (.str (Str.ofString "rule")) = true := shaped_str "rule" (by decide +kernel)
      have sh3 : SeqAt.shaped (.str (Str.ofString "large")) = true := shaped_str "large" (by decide +kernel)
      rcases hout3 with ⟨rfl, hw⟩ | ⟨rfl, t', i, rv, rfl, ht', hi, hodd⟩ | ⟨rfl, i, r, ⟨t', rv, rfl, ht', hrl⟩, hi, h16, hrr⟩ | ⟨rfl, c, hc, hk⟩
      · refine do_place hd3 (by omega) hw (.inr (.inl ⟨rfl, ?_⟩))
        refine ⟨_, rfl, rfl, _, rfl, ?_⟩
        rw [str_non]
        refine iteT ⟨_, rfl, _, rfl, .str (Str.ofString "place"), .str (Str.ofString "place"), .str _, .str _, sh1, sh1, ?_⟩
        rw [eqv_of_shaped sh1]
        exact fin H3 (Same.refl _)
      · refine ⟨a, t', rfl, .inl ⟨_, rv, ht', a, p, nn, fl, _, Rs0, R, cs, _, rv, rfl, hd3, by omega, rfl, .inr ⟨i, rfl, hi, .inl ⟨hodd, fun H' e => .inr (.inr (.inl ⟨rfl, ?_⟩))⟩⟩⟩⟩
        refine ⟨_, rfl, rfl, _, rfl, ?_⟩
        rw [str_non]
        refine iteT ⟨_, rfl, _, rfl, .str (Str.ofString "rule"), .str (Str.ofString "rule"), .str _, .str _, sh2, sh2, ?_⟩
        rw [eqv_of_shaped sh2]
        exact fin H' e
      · refine ⟨a, t', rfl, .inl ⟨_, rv, ht', a, p, nn, fl, _, Rs0, R, cs, _, rv, rfl, hd3, by omega, rfl, .inr ⟨i, rfl, hi, .inr ⟨r, hrl, isRule_small okR.hi hrr, hrr, .inl ⟨h16, fun H' e => .inr (.inr (.inr ⟨rfl, ?_⟩))⟩⟩⟩⟩⟩
        refine ⟨_, rfl, rfl, _, rfl, ?_⟩
        rw [str_non]
        refine iteT ⟨_, rfl, _, rfl, .str (Str.ofString "large"), .str (Str.ofString "large"), .str _, .str _, sh3, sh3, ?_⟩
        rw [eqv_of_shaped sh3]
        exact fin H' e
      · refine do_good hd3 (by omega) hc hk (fun H4 b b4 hd4 hb4 => hQ' _ _ ?_)
        have okc := chR_ok okR hk
        have mu3 := hd3.muts
        have K4 : Kp K H3 H4 := Kp.but (ButN.of b4) mu3
        have T4 := tabs_but (K := K) T3 b4 mu3
        have N4 : ButN [d, p, nn, lb, lp] H H4 := N3.trans ((ButN.of b4).mono fun x hx => .inl (by simp at hx; rcases hx with rfl | rfl <;> simp))
        have d4 : Drw H4 d := let ⟨ds, z1, z2⟩ := d3; ⟨ds, b4 _ _ z1 (by simp [dp, dn]), z2⟩
        obtain ⟨ot3, ⟨bs3, ob3, obp3⟩, ⟨ps3, oc3, ocp3⟩⟩ := ho3
        have l3 := Paired.length obp3
        have l4 := Paired.length ocp3
        obtain ⟨bs3', rv3, rfl, hb31, hb32⟩ := paired_last obp3
        have ob4 : H4 lb = some (.lst (bs3' ++ [rv3])) := b4 _ _ ob3 (by simp [pb.symm, nb.symm])
        have oc4 : H4 lp = some (.lst ps3) := b4 _ _ oc3 (by simp [pl.symm, nl.symm])
        have sz : sizeLine = 16777216 := sizeLine_eq
        refine ⟨_, rfl, rfl, _, rfl, ?_⟩
        rw [show decide (V.non = V.non) = true from decide_eq_true rfl]
        refine iteF ⟨_, rfl, .inl ⟨rfl, _, SqL.of ob4⟩, _, rfl, 1, rfl, lb, _, _, _, rfl, rfl, SqL.of ob4, atI_last _ _, _, rfl, rv3, cv, _, R, c, rfl, K4.rls hb32, K4.ch hc, hk, okR.len, fun H5 v5 e5 hv5 => ?_⟩
        have ob5 := e5 _ _ ob4
        have oc5 := e5 _ _ oc4
        refine ⟨lb, _, v5, rfl, rfl, ob5, by omega, ?_⟩
        have oc6 : upd H5 lb (.lst (bs3' ++ [rv3] ++ [v5])) lp = some (.lst ps3) := by rw [upd_ne bl.symm]; exact oc5
        refine ⟨_, rfl, .inl ⟨rfl, _, SqL.of oc6⟩, _, rfl, lp, _, cv, rfl, rfl, oc6, by omega, ?_⟩
        have K35 := K4.trans (Kp.same (K := K) e5)
        obtain ⟨c1, c2, c3, c4, c5, c6⟩ := own_set (o := o) (bs' := bs3' ++ [rv3] ++ [v5]) (ps' := ps3 ++ [cv]) hnd (d4.same e5) (hd4.same e5) (T4.ext e5) ob5 oc5 (K35.tk.tup ot3) (paired_snoc (Paired.mapP obp3 fun _ _ => K35.rls) hv5) (paired_snoc (Paired.mapP ocp3 fun _ _ => K35.ch) (K35.ch hc))
        have N7 := (N4.trans (ButN.same (M := [d, p, nn, lb, lp]) e5)).trans ((ButN.of c1).mono fun x hx => .inl (by simp at hx; rcases hx with rfl | rfl <;> simp))
        have hb7 := c2.book (same_book e5 hb4)
        have hv7 := c2.rls hv5
        have ob7 : upd (upd H5 lb (.lst (bs3' ++ [rv3] ++ [v5]))) lp (.lst (ps3 ++ [cv])) lb = some (.lst (bs3' ++ [rv3] ++ [v5])) := by rw [upd_ne bl, upd_same]
        generalize upd (upd H5 lb (.lst (bs3' ++ [rv3] ++ [v5]))) lp (.lst (ps3 ++ [cv])) = H7 at *
        refine ⟨_, rfl, _, rfl, _, rfl, 1, rfl, lb, _, _, _, rfl, rfl, SqL.of ob7, atI_last _ _, ?_⟩
        intro x dx hx hdx nx
        have e8 : Same H7 (upd (upd H7 dx (.own x)) x (.ins (cB K) dx [])) := same_upd (same_new hdx) hx
        refine ⟨x, dx, _, v5, chR c R, rfl, upd_same, by rw [upd_ne nx, upd_same], same_rls e8 hv7, okc, fun H8 k8 hbk => ⟨rfl, ?_⟩⟩
        have S8 : Same H7 H8 := same_of_but (M := []) ((But.of e8).step k8 fun y hy => .inr (by
          rcases List.mem_cons.mp hy with rfl | hy
          · exact hx
          · rw [List.mem_singleton.mp hy]
            exact hdx)) (fun _ z => by cases z)
        have hb8 := same_book S8 hb7
        obtain ⟨g1, v1, s1, _⟩ := hb8.slt
        obtain ⟨g2, v2, s2, _⟩ := hbk.slt
        refine ⟨b, g1, _, x, cB K, g2, _, rfl, rfl, s1, s2, T.nf_Book, b, x, _, _, rfl, hb8, hbk, fun H9 e9 => ?_⟩
        have S9 := S8.trans e9
        exact q H9 _ _ (N7.trans (ButN.same S9)) (c3.same S9) (c4.same S9) (c5.ext (LamX.ExtN.of S9)) (by simp) (c6.ext S9)
end
end K47
set_option maxHeartbeats 8000000
/-! ### _law_inside_right -/
namespace K47
open PySem PySem.Spec PyProof.Rows L2
section
variable {P : Program} {w : World} {K : PySem.W.Frag} {mg : Str → Option Value} {base : Heap}
def sp_inside (K : PySem.W.Frag) : Sp := fun vs H Q _ => ∃ (d : Addr) (n : Nat) (a o p nn lb lp : Addr) (rv : V) (r : Rl) (Rs : List (List Rl)) (cs : List Ch), vs = [.ref d, .int (n : Nat), .ref a, .ref o, rv] ∧ n ≤ 5 ∧ Drw H d ∧ DeskAt K H a p nn cs.length (n : Nat) Rs cs ∧ OwnAt K H o lb lp Rs cs ∧ RlAt K H rv r ∧ isRule (n : Nat) r = true ∧
  [d, p, nn, lb, lp].Nodup ∧ cs.length ≤ 700 ∧ LamX.Tabs (tabT K) H ∧
  ∀ H' Rs' cs', ButN [d, p, nn, lb, lp] H H' → Drw H' d → DeskAt K H' a p nn cs.length (n : Nat) Rs' cs' → OwnAt K H' o lb lp Rs' cs' → cs'.length ≤ cs.length + 4 → LamX.Tabs (tabT K) H' → Q (.bl true) H'
abbrev N_inside : List Str := ["_law_draws", "_law_marks", "_law_desk", "_law_own", "_law_rule", "_law_floor", "_law_turn", "_law_last"]
theorem sc_inside : FnScope N_inside ["_law_draws", "_law_marks", "_law_desk", "_law_own", "_law_rule"] (defScope s_l_inside_right) := ⟨rfl, rfl, rfl, by decide +kernel, rfl, by decide +kernel, by decide +kernel⟩
theorem lists_mut {H : Hp} {d a p nn o lb lp : Addr} {fl : Nat} {m : Int} {Rs Rs2 : List (List Rl)} {cs cs2 : List Ch} (dr : Drw H d) (hd : DeskAt K H a p nn fl m Rs cs) (ho : OwnAt K H o lb lp Rs2 cs2) : ∀ x ∈ [d, p, nn, lb, lp], Mut K H x := fun x hx => by
  obtain ⟨ds, h1, _⟩ := dr
  obtain ⟨bs, h2, _⟩ := hd.past
  obtain ⟨ns, h3, _⟩ := hd.notes
  obtain ⟨b2, h4, _⟩ := ho.b
  obtain ⟨p2, h5, _⟩ := ho.c
  simp at hx
  rcases hx with rfl | rfl | rfl | rfl | rfl
  · exact mut_lst h1
  · exact mut_lst h2
  · exact mut_lst h3
  · exact mut_lst h4
  · exact mut_lst h5
theorem ok_inside (T : TX K mg) (B : TBs K mg base) : FnR P w K mg base CX0 13 (He.ga K "_law_inside_right") (sp_inside K) := by
  refine fr0T (p := ("_law_inside_right", none)) T.fn_l_inside_right sc_inside (fun _ _ _ _ _ _ us hl => match us, hl with | [_, _, _, _, _], _ => rfl) (fun vs H Q E h => ?_) (fun A outer s H vs Q E hr h => ?_)
  · obtain ⟨d, n, a, o, p, nn, lb, lp, rv, r, Rs, cs, rfl, _⟩ := h
    rfl
  · obtain ⟨d, n, a, o, p, nn, lb, lp, rv, r, Rs, cs, rfl, hn, hdr, hd, ho, hrl, hrr, hnd, hle, hT, q⟩ := h
    have nd := sc_inside.nd
    have TB := B ("_law_inside_right", none) (by simp [tabDefs])
    refine ⟨_, pss_cons (ps_set (i := 5) nd rfl (Or.inl rfl) (pe_callB call_len_seq (by rfl) T.free_len bb_len (pa_cons (pe_ix ix_tup (pv 3) pe_int (fun _ _ => rfl)) pa_nil)))
      (pss_cons (ps_for PassesOwn.never rfl (pi_range1 rfl T.free_range (pa_cons (pe_op op_add pe_int (pe_g (ok_l_take T) hr (by rfl) T.glo__law_take (kp_of T.fn_l_take) pass0 (pa_cons (pv 0) (pa_cons pe_int pa_nil)))) pa_nil)) (pg_name (i := 6) nd rfl (Or.inl rfl))
        (pss_one (ps_if (pt_not (pt_val (pe_g (ok_step T B) hr (by rfl) T.glo__law_step (kp_of T.fn_l_step) pass0 (pa_cons (pv 0) (pa_cons (pv 1) (pa_cons (pv 2) (pa_cons (pv 3) (pa_cons (pv 5) pa_nil)))))))) (pss_one (ps_ret pe_bl)) pss_nil)))
      (pss_cons (ps_set (i := 7) nd rfl (Or.inl rfl) (pe_ifExp (pt_cmpR (op_neD hr.units) (pe_ix ix_tup (pv 3) pe_int (fun _ _ => rfl)) (pe_lst pa_nil) (nomark _)) (pe_ix ix_list (pe_ix ix_tup (pv 3) pe_int (fun _ _ => rfl)) (pe_un un_neg pe_int) (fun _ _ => rfl)) pe_str))
      (pss_cons (ps_if (pt_not (pt_val (pe_g (ok_is_right T B) hr (by rfl) T.glo__law_is_right (kp_of T.fn_l_is_right) pass0 (pa_cons (pv 1) (pa_cons (pv 2) (pa_cons (pv 3) (pa_cons (pv 4) pa_nil))))))) (pss_one (ps_ret pe_bl)) pss_nil)
      (pss_one (ps_ret (pe_cmpR (op_eqD hr.units) (pe_word (k := 4) (t := fun E => SlX.tMethSl (cD K) (sp_undo K) E (SlX.tMethSl (cD K) (sp_branch K) E0 (tVar 2) tNil) tNil) T (by rfl) TB rfl (by exact .tail _ (.tail _ (.head _))) (hr.mono (by decide)) (LamX.lamS_by (by show LamX.lamSB (defScope s_l_inside_right) _ = true; decide +kernel)) rfl (fun _ _ _ _ _ => rfl)
                (fun A outer s H E f c' hr' => SlX.pe_methSl0 (SlX.pe_methSl0 (pv 2) T.scls_Desk T.meth_Desk_branch (ok_branch T) (hr'.mono (by decide)) pass0) T.scls_Desk T.meth_Desk_undo (ok_undo T) (hr'.mono (by decide)) (passes_call (takes_of rfl rfl rfl rfl) (fun _ _ _ _ h => h)))) (pv 7) (nomark _))))))), ?_⟩
    obtain ⟨⟨dp, dn, db, dl⟩, ⟨pn, pb, pl⟩, ⟨nb, nl⟩, bl⟩ := nd5 hnd
    obtain ⟨ps0, oc0, ocp0⟩ := id ho.c
    have l0 := Paired.length ocp0
    refine ⟨_, rfl, o, _, _, _, rfl, rfl, ho.t, atI_nat (j := 1) rfl, lp, ps0, rfl, .inl (SqL.of oc0), ?_⟩
    rw [l0]
    refine ⟨_, rfl, d, 3, rfl, hdr, by decide, fun H1 t b1 d1 t1 t2 => ⟨2, t, rfl, rfl, 2 + t, rfl, by omega, by omega, for_it (walk_range (lo := 0) (n := (2 + t).toNat))
      (fun i σ H' => ∃ (p6 p7 : Option V) (Rs' : List (List Rl)) (cs' : List Ch), σ = [some (.ref d), some (.int (n : Nat)), some (.ref a), some (.ref o), some rv, some (.int (cs.length : Nat)), p6, p7] ∧ ButN [d, p, nn, lb, lp] H H' ∧ Drw H' d ∧ DeskAt K H' a p nn cs.length (n : Nat) Rs' cs' ∧ OwnAt K H' o lb lp Rs' cs' ∧ cs'.length ≤ cs.length + i ∧ LamX.Tabs (tabT K) H')
      ⟨none, none, Rs, cs, rfl, (ButN.of b1).mono (fun x hx => .inl (by simp at hx; simp [hx])), d1, hd.drw hdr b1 dp dn, ho.drw hdr b1 db dl, by omega, tabs_d K hT hdr b1⟩ (fun _ _ _ _ _ => True.intro) (fun i x σ H2 H3 hi pp y => ?_) (fun σ H2 pp => ?_)⟩⟩
    · obtain ⟨rfl, rfl⟩ := y
      obtain ⟨p6, p7, Rs', cs', rfl, N2, d2, hd2, ho2, hl2, T2⟩ := pp
      have hi5 : i < 5 := by
        have : (2 + t).toNat ≤ 4 := by omega
        omega
      refine ⟨_, rfl, _, rfl, _, rfl, _, rfl, _, rfl, d, n, a, o, p, nn, lb, lp, cs.length, Rs', cs', rfl, hn, d2, hd2, ho2, hnd, by omega, T2, fun H4 R4 c4 N4 d4 hd4 ho4 hl4 T4 => ⟨true, rfl, iteF ?_⟩⟩
      exact ⟨_, p7, R4, c4, rfl, N2.trans N4, d4, hd4, ho4, by omega, T4⟩
    · obtain ⟨p6, p7, Rs', cs', rfl, N2, d2, hd2, ho2, hl2, T2⟩ := pp
      have ht4 : (2 + t).toNat ≤ 4 := by omega
      have K2 : Kp K H H2 := Kp.but N2 (lists_mut hdr hd ho)
      have hrl2 := K2.tk.rl hrl
      have hlen := hd2.len
      obtain ⟨Rs0, R, rfl⟩ := list_last (l := Rs') (fun z => by rw [z] at hlen; simp at hlen)
      obtain ⟨ps, oc, ocp⟩ := id ho2.c
      have lps := Paired.length ocp
      have nshape : SeqAt.shaped (.str (Str.ofString "none")) = true := shaped_str "none" (by decide +kernel)
      refine ⟨_, rfl, o, _, _, _, rfl, rfl, ho2.t, atI_nat (j := 1) rfl, by show 0 ≤ sizeLine; decide, fun l hl => ?_⟩
      have e3 := same_new (o := .lst []) hl
      have oc3 := e3 _ _ oc
      have ho3 := ho2.ext (LamX.ExtN.of e3)
      have hd3 := hd2.same e3
      have ocp3 : Paired (ChAt K (upd H2 l (.lst []))) ps cs' := Paired.mapP ocp fun _ _ => (Kp.same e3).ch
      refine ⟨.list (cs'.map chD), .list ([] : List PyData), .lst (SqL.of oc3) (dpAll_ch ocp3), .lst (SqL.of upd_same) .nil, shaped_chs cs', by decide +kernel, _, rfl, ?_⟩
      have fin : ∀ H', LamX.ExtN H2 H' → LamX.Tabs (tabT K) H' → Q (.bl true) H' := fun H' eN T' => by
        obtain ⟨ds, z1, z2⟩ := d2
        exact q H' _ _ (N2.trans (ButN.ext eN)) ⟨ds, eN _ _ z1 (fun _ z => by cases z), z2⟩ (hd2.ext eN) (ho2.ext eN) (by omega) T'
      cases hcs : cs' with
      | nil =>
        subst hcs
        refine iteF ⟨_, rfl, _, rfl, _, rfl, _, rfl, n, a, o, p, nn, lb, lp, _, rv, r, Rs0, R, _, rfl, hn, hd3, ho3, (Kp.same (K := K) e3).tk.rl hrl2, hrr, by omega, T2.ext e3, fun H4 eN4 T4 => ⟨true, rfl, iteF ?_⟩⟩
        refine ⟨T4, fun H5 eN5 T5 Q' hQ' => ?_⟩
        have hd5 := (hd3.ext eN4).ext eN5
        obtain ⟨da5, sa5⟩ := hd5.slt
        refine ⟨_, rfl, a, da5, _, rfl, sa5, a, p, nn, _, _, Rs0, R, _, rfl, hd5, fun H6 x p' n' e6 hx hp' hn' hdx => ?_⟩
        obtain ⟨dx, sx⟩ := hdx.slt
        refine ⟨x, dx, _, rfl, sx, x, p', n', 0, _, _, _, rfl, hdx, .inl ⟨rfl, .inl ⟨rfl, ?_⟩⟩⟩
        refine ⟨_, rfl, .str (Str.ofString "none"), .str (Str.ofString "none"), .str _, .str _, nshape, nshape, ?_⟩
        rw [eqv_of_shaped nshape]
        exact fin H6 ((((LamX.ExtN.of e3).trans eN4).trans eN5).trans (LamX.ExtN.of e6)) (T5.ext e6)
      | cons c0 cs0 =>
        obtain ⟨cs1, c, hc1⟩ := list_last (l := cs') (fun z => by rw [hcs] at z; cases z)
        rw [← hcs]
        subst hc1
        obtain ⟨ps', wv, rfl, hp1, hp2⟩ := paired_last ocp3
        have e0 : PyData.eqv (.list ((cs1 ++ [c]).map chD)) (.list ([] : List PyData)) = false := by
          rw [hcs]
          rfl
        rw [e0]
        refine iteT ⟨_, rfl, o, _, _, _, rfl, rfl, ho3.t, atI_nat (j := 1) rfl, 1, rfl, lp, _, _, _, rfl, rfl, SqL.of oc3, atI_last _ _, ?_⟩
        refine ⟨_, rfl, _, rfl, _, rfl, _, rfl, n, a, o, p, nn, lb, lp, _, rv, r, Rs0, R, _, rfl, hn, hd3, ho3, (Kp.same (K := K) e3).tk.rl hrl2, hrr, by omega, T2.ext e3, fun H4 eN4 T4 => ⟨true, rfl, iteF ?_⟩⟩
        refine ⟨T4, fun H5 eN5 T5 Q' hQ' => ?_⟩
        have hd5 := (hd3.ext eN4).ext eN5
        have hw5 := (Kp.ext (K := K) (eN4.trans eN5)).ch hp2
        obtain ⟨da5, sa5⟩ := hd5.slt
        refine ⟨_, rfl, a, da5, _, rfl, sa5, a, p, nn, _, _, Rs0, R, _, rfl, hd5, fun H6 x p' n' e6 hx hp' hn' hdx => ?_⟩
        obtain ⟨dx, sx⟩ := hdx.slt
        have hlenx := hdx.len
        obtain ⟨Rz, Rl, hRz⟩ := list_last (l := Rs0 ++ [R]) (fun z => by simp at z)
        refine ⟨x, dx, _, rfl, sx, x, p', n', 0, _, _, _, rfl, hdx, .inr ⟨Rs0, R, cs1, c, rfl, rfl, Nat.zero_le _, fun H7 v b7 hd7 hv7 => hQ' _ _ ?_⟩⟩
        have mux := hdx.muts
        have K7 : Kp K H6 H7 := Kp.but (ButN.of b7) mux
        have hw7 := ((Kp.same (K := K) e6).trans K7).ch hw5
        refine ⟨_, rfl, chD c, chD c, dp_ch hv7, dp_ch hw7, shaped_ch c, shaped_ch c, ?_⟩
        rw [eqv_of_shaped (shaped_ch c)]
        have E6 : LamX.ExtN H2 H6 := (((LamX.ExtN.of e3).trans eN4).trans eN5).trans (LamX.ExtN.of e6)
        refine fin H7 (fun b o' hb ht => ?_) (tabs_but (K := K) (T5.ext e6) b7 mux)
        have hb5 := ((LamX.ExtN.of e3).trans (eN4.trans eN5)) b o' hb ht
        have hb6 := e6 _ _ hb5
        refine b7 _ _ hb6 fun z => ?_
        rcases List.mem_cons.mp z with rfl | z
        · rw [hp'] at hb5
          cases hb5
        · rw [List.mem_singleton.mp z, hn'] at hb5
          cases hb5
end
end K47
set_option maxHeartbeats 8000000
/-! ### _law_attempt_right: the work inside -/
namespace K47
open PySem PySem.Spec PyProof.Rows L2 NdefX
def st_work : Stmt := match defBody s_l_attempt_right with
  | _ :: st :: _ => st
  | _ => .Pass ⟨0, 0, 0, 0⟩
abbrev frW : List Str := ["_law_draws", "_law_marks", "_law_late", "_law_rule", "_law_depth", "_law_is_left"]
abbrev N_work : List Str := ["_law_held", "_law_draws", "_law_marks", "_law_late", "_law_rule", "_law_depth", "_law_is_left"]
theorem sc_work : NScope N_work ["_law_held"] frW (C8.fnScope st_work) := nscope_by (by decide +kernel)
section
variable {P : Program} {w : World} {K : PySem.W.Frag} {mg : Str → Option Value} {base : Heap}
/-- an attempt at a depth less than D -/
def sp_attR (K : PySem.W.Frag) (D : Nat) : Sp := fun vs H Q _ => ∃ (d : Addr) (n : Nat) (a o p nn lb lp : Addr) (fl : Nat) (rv : V) (r : Rl) (Rs : List (List Rl)) (cs : List Ch) (dep : Nat), vs = [.ref d, .int (n : Nat), .ref a, .ref o, rv, .int (dep : Nat)] ∧ n ≤ 5 ∧ dep < D ∧ Drw H d ∧
  DeskAt K H a p nn fl (n : Nat) Rs cs ∧ OwnAt K H o lb lp Rs cs ∧ RlAt K H rv r ∧ isRule (n : Nat) r = true ∧ [d, p, nn, lb, lp].Nodup ∧ cs.length + 4 * dep ≤ 700 ∧ LamX.Tabs (tabT K) H ∧
  ∀ H' p' nn', ButN [d, p, nn, a] H H' → Drw H' d → H p' = none → H nn' = none → DeskAt K H' a p' nn' fl (n : Nat) Rs cs → LamX.Tabs (tabT K) H' → Q (.bl true) H'
def sp_work (K : PySem.W.Frag) (D : Nat) : List (Option V) → Sp := fun ws vs H Q E => ∃ (d : Addr) (n : Nat) (a o p nn lb lp : Addr) (rv : V) (r : Rl) (Rs : List (List Rl)) (cs : List Ch) (dep : Nat) (left : Bool), ws = [some (.ref d), some (.int (n : Nat)), some (.ref o), some rv, some (.int (dep : Nat)), some (.bl left)] ∧ vs = [.ref a] ∧ n ≤ 5 ∧ dep ≤ D ∧ Drw H d ∧
  DeskAt K H a p nn cs.length (n : Nat) Rs cs ∧ OwnAt K H o lb lp Rs cs ∧ RlAt K H rv r ∧ isRule (n : Nat) r = true ∧ [d, p, nn, lb, lp].Nodup ∧ cs.length + 4 * dep ≤ 700 ∧ LamX.Tabs (tabT K) H ∧
  ∀ H' p' nn' Rs' cs', ButN [d, p, nn, lb, lp, a] H H' → Drw H' d → DeskAt K H' a p' nn' cs.length (n : Nat) Rs' cs' → LamX.Tabs (tabT K) H' → (left = false → Q (.bl true) H') ∧ (left = true → ∀ dd, E (.type "KeyError") dd H')
theorem ok_work (T : TX K mg) (B : TBs K mg base) {D k : Nat} {f : Addr} {F : NF} (hF : F.scope = C8.fnScope st_work) (hB : F.body = C8.fnBody st_work) (hP : F.params = C8.fnArgs st_work) (hk : 13 ≤ k) (hA : FnR P w K mg base CX0 k (He.ga K "_law_attempt_right") (sp_attR K D)) :
    NOk P w K mg base (L2.CX P w) (k + 1) f F ["_law_held"] frW (sp_work K D) := by
  obtain ⟨name, qual, params, body, scope, cl, c⟩ := F
  cases hF
  cases hB
  cases hP
  refine nok_of (N := N_work) sc_work (fun _ _ _ us hl => match us, hl with | [_], _ => rfl) (fun ws vs H Q E h => ?_) (fun A outer s H vs ws Q E hr hf hc hl h => ?_)
  · obtain ⟨d, n, a, o, p, nn, lb, lp, rv, r, Rs, cs, dep, left, rfl, rfl, _⟩ := h
    rfl
  · obtain ⟨d, n, a, o, p, nn, lb, lp, rv, r, Rs, cs, dep, left, rfl, rfl, hn, hD, hdr, hd, ho, hrl, hrr, hnd, hle, hT, q⟩ := h
    refine ⟨_, pss_cons (ps_if (pt_not (pt_val (pe_g (ok_inside T B) hr (by rfl) T.glo__law_inside_right (kp_of T.fn_l_inside_right) pass0 (pa_cons (pv 1) (pa_cons (pv 2) (pa_cons (pv 0) (pa_cons (pv 3) (pa_cons (pv 4) pa_nil))))) hk))) (pss_one (ps_ret pe_bl)) pss_nil)
      (pss_cons (ps_if (PW.pt (pw_and (pt_cmpR op_gt (pv 5) pe_int (nomark _)) (pw_and1 (pt_not (pt_val (pe_g hA hr (by rfl) T.glo__law_attempt_right (kp_of T.fn_l_attempt_right) pass0 (pa_cons (pv 1) (pa_cons (pv 2) (pa_cons (pv 0) (pa_cons (pv 3) (pa_cons (pv 4) (pa_cons (pe_op op_sub (pv 5) pe_int) pa_nil)))))) (Nat.le_refl k))))))) (pss_one (ps_ret pe_bl)) pss_nil)
      (pss_cons (ps_if (pt_val (pv 6)) (pss_one (ps_raise rfl (takes_of rfl rfl rfl rfl) (pmk_exc excClass_KeyError ty_KeyError (by rfl) T.free_KeyError boot_KeyError (pa_cons pe_str pa_nil)))) pss_nil)
      (pss_one (ps_ret pe_bl)))), ?_⟩
    obtain ⟨⟨dp, dn, db, dl⟩, ⟨pn, pb, pl⟩, ⟨nb, nl⟩, bl⟩ := nd5 hnd
    refine ⟨_, rfl, _, rfl, _, rfl, _, rfl, _, rfl, d, n, a, o, p, nn, lb, lp, rv, r, Rs, cs, rfl, hn, hdr, hd, ho, hrl, hrr, hnd, by omega, hT, fun H1 R1 c1 N1 d1 hd1 ho1 hl1 T1 => ⟨true, rfl, iteF ?_⟩⟩
    have K1 : Kp K H H1 := Kp.but N1 (lists_mut hdr hd ho)
    have N1' : ButN [d, p, nn, lb, lp, a] H H1 := N1.mono fun x hx => .inl (List.mem_append.mpr (.inl hx) : x ∈ [d, p, nn, lb, lp] ++ [a])
    refine ⟨_, rfl, _, _, rfl, rfl, _, rfl, ?_⟩
    cases dep with
    | zero =>
      refine iteF (iteF ⟨_, rfl, ?_⟩)
      have q1 := q H1 p nn R1 c1 N1' d1 hd1 T1
      cases left with
      | false => exact ⟨false, rfl, iteF (q1.1 rfl)⟩
      | true => exact ⟨true, rfl, iteT ⟨by show 1 ≤ sizeLine; decide, fun dd => q1.2 rfl dd⟩⟩
    | succ dep =>
      rw [show decide ((0 : Int) < ((dep + 1 : Nat) : Int)) = true from decide_eq_true (by omega)]
      refine iteT ⟨_, rfl, _, rfl, _, rfl, _, rfl, _, rfl, _, rfl, _, _, rfl, rfl, d, n, a, o, p, nn, lb, lp, cs.length, rv, r, R1, c1, dep, ?_, hn, by omega, d1, hd1, ho1, K1.tk.rl hrl, hrr, hnd, by omega, T1, fun H2 p' nn' N2 d2 hp' hn' hd2 T2 => ⟨true, rfl, iteF ⟨_, rfl, ?_⟩⟩⟩
      · have e : (((dep + 1 : Nat) : Int) - 1) = (dep : Nat) := by omega
        show [_, _, _, _, _, V.int (((dep + 1 : Nat) : Int) - 1)] = _
        rw [e]
      · have q1 := q H2 p' nn' R1 c1 (N1'.step N2 fun x hx => .inl (by
          simp at hx ⊢
          rcases hx with rfl | rfl | rfl | rfl <;> simp)) d2 hd2 T2
        cases left with
        | false => exact ⟨false, rfl, iteF (q1.1 rfl)⟩
        | true => exact ⟨true, rfl, iteT ⟨by show 1 ≤ sizeLine; decide, fun dd => q1.2 rfl dd⟩⟩
end
end K47
set_option maxHeartbeats 8000000
/-! ### _law_attempt_right -/
namespace K47
open PySem PySem.Spec PyProof.Rows L2 NdefX
/-- o.attempt(x) where a clause waits: it may wish of the names as they stand -/
def tAttW (K : PySem.W.Frag) (ta : TE) (i : Nat) (mk : Addr → NF) (js : List Nat) (sp : Addr → Addr → List (Option V) → Sp) (W : WX) : TE := fun σ H Q => ∃ E : XK, (∀ cls d H', E cls d H' → W cls d σ H') ∧ ta σ H fun z H1 => ∃ a dx vs f c', z = .ref a ∧ SlX.Slt H1 a (cD K) dx vs ∧ σ[i]? = some (some (.ref f)) ∧ H1 f = some (FnO f (mk c')) ∧ H1 (mk c').c = some (LamX.CodeO (mk c').c (mk c').qual) ∧
      AttR K a (fun H1 Q E => sp f c' (js.map (slotAt σ)) [.ref a] H1 Q E) H1 Q E
section
variable {X : Cx} {o : Expr} {x : Str} {ta : TE} {p apos pos : Pos} {mk : Addr → NF} {cl : List (Str × Addr)} {fr : List Str} {js : List Nat} {sp : Addr → Addr → List (Option V) → Sp} {k i : Nat} {wp : Str} {W : WX}
theorem pe_attW {pl : Sem Bool} (T : TX X.K X.mg) (he : PE X o ta) (Fn : ∀ f c', NOk X.prog X.w X.K X.mg X.base (L2.CX X.prog X.w) k f (mk c') [wp] fr (sp f c')) (hcl : ∀ c', (mk c').cl = cl) (cp : X.Ok → Caps X cl fr js) (hfn : ∀ y, X.fn y = true) (hr : Room (k + 4) X.A)
    (tk : Takes X W) (hN : X.N[i]? = some x) (hv : Vis X.env.scope x) (hd : (x == ("__debug__" : Str)) = false := by decide) (hcd : (x == ("__classdict__" : Str)) = false := by decide)
    (ht : eval (.Call (.Attribute o "attempt" apos) [.Name x p] [] pos) X.env = (do
      let ov ← eval o X.env
      standAt apos.atName
      let (f, first) ← holding [ov] (getMethod ov "attempt" pl)
      callWith pos f first (backTo pos (starEach [.Name x p] X.env)) (backToKw pos (keywordEach [] X.env))) := by rfl) :
    PE X (.Call (.Attribute o "attempt" apos) [.Name x p] [] pos) (tAttW X.K ta i mk js sp W) := by
  refine ⟨fun pins s σ H Q I h => ?_⟩
  obtain ⟨E, hW, h⟩ := h
  refine PySem.W.methodCall_KW (pl := pl) (thn (he.run pins s σ H _ I h) fun u s1 ⟨z, H1, I1, rz, a, dx, vs, f, c', ez, hsl, hs, hf, hc, q⟩ => ?_) ht
  subst ez
  obtain rfl : u = Value.ref a := rz
  have mt := T.meth_Desk_attempt
  refine SlX.getmethsl_ok I1 hsl T.scls_Desk mt ?_
  have pa : PA X [.Name x p] (tCons (tVar i) tNil) := pa_cons (pe_var (i := i) hN hv hd hcd) pa_nil rfl
  refine PySem.W.callWith_K (first := [.ref a]) (h₀ := X.base) I1.ok.mod.kin mt.kp (thn (pa.run pos pins s1 σ H1 (fun vs H2 => vs = [.ref f] ∧ H2 = H1) I1 ⟨.ref f, hs, rfl, rfl⟩) fun us s2 ⟨ws, H2, I2, r, ew, eH⟩ => ⟨I2.kIn, ?_⟩) rfl rfl
  subst ew
  rw [eH] at I2
  obtain ⟨u, rfl, ru⟩ := r.one
  cases (show u = Value.ref f from ru)
  have C := cells_of I2 (cp I2.ok)
  rw [← hcl c'] at C
  refine wpAny_call (codeAny_mono (attempt_run (A := X.A) (outer := X.stack) (E := E) T (Fn f c') hr I2.env0 hf hc C (fun y c e => ?_) q) fun r s' hq => ?_)
  · rw [hcl c'] at e
    exact cells_nf I2 hfn ((cp I2.ok).sub y c e)
  · cases r with
    | error e => exact tk e s' (XE.of_call I2 hW hq)
    | ok fl =>
      cases fl with
      | ret u => exact I2.after hq
      | next => exact False.elim hq
      | brk => exact False.elim hq
      | cont => exact False.elim hq
end
def tabN (K : PySem.W.Frag) : List NTab := (tabT K).map fun p => (p.1, fun _ _ => p.2)
theorem tabs_n {K : PySem.W.Frag} {H : Hp} (h : LamX.Tabs (tabT K) H) : TabsN (tabN K) H := fun p hp => by
  obtain ⟨q, hq, rfl⟩ := List.mem_map.mp hp
  exact TabN.of (h q hq)
theorem n_tabs {K : PySem.W.Frag} {H : Hp} (h : TabsN (tabN K) H) : LamX.Tabs (tabT K) H := fun q hq => TabN.to (h _ (List.mem_map.mpr ⟨q, hq, rfl⟩))
theorem tabn_hu {K : PySem.W.Frag} {mg : Str → Option Value} (T : TX K mg) {P : Addr} {q : Str} (h : (P, q) ∈ tabT K) : ∀ p ∈ tabN K, p.1 = P → p.2 = fun _ _ => q := fun p hp e => by
  obtain ⟨r, hr, rfl⟩ := List.mem_map.mp hp
  have := tab_hu T h r hr e
  show (fun _ _ => r.2) = _
  rw [this]
abbrev N_att : List Str := ["_law_draws", "_law_marks", "_law_desk", "_law_own", "_law_rule", "_law_depth", "_law_late", "_law_is_left", "_law_work", "_law_is_fine"]
theorem sc_att : FnScope N_att ["_law_draws", "_law_marks", "_law_desk", "_law_own", "_law_rule", "_law_depth"] (defScope s_l_attempt_right) := ⟨rfl, rfl, rfl, by decide +kernel, rfl, by decide +kernel, by decide +kernel⟩
theorem nd_att : ndefB (defScope s_l_attempt_right) (C8.fnScope st_work) frW = true := by decide +kernel
def mkA (K : PySem.W.Frag) (s : Shared) : Addr → NF := fun c' => NF.of st_work "_law_work" (("_law_attempt_right" : Str) ++ ".<locals>." ++ "_law_work") (cloFrom (envOfC "_law_attempt_right" (defScope s_l_attempt_right) s.heap.objs.size (He.fAd K ("_law_attempt_right", none)) (.ref (He.cT K ("_law_attempt_right", none)).1)).cells (C8.fnScope st_work).names []) c'
/-- the desk is as it was, with lists of its own that are new -/
def Good (K : PySem.W.Frag) (d a p nn : Addr) (fl : Nat) (n : Int) (Rs : List (List Rl)) (cs : List Ch) (H H' : Hp) : Prop := ∃ p' nn', ButN [d, p, nn, a] H H' ∧ Drw H' d ∧ H p' = none ∧ H nn' = none ∧ DeskAt K H' a p' nn' fl n Rs cs ∧ LamX.Tabs (tabT K) H'
theorem lists_in {K : PySem.W.Frag} {H : Hp} {d a p nn o lb lp : Addr} {fl : Nat} {m : Int} {Rs Rs2 : List (List Rl)} {cs cs2 : List Ch} (dr : Drw H d) (hd : DeskAt K H a p nn fl m Rs cs) (ho : OwnAt K H o lb lp Rs2 cs2) : ∀ x ∈ [d, p, nn, lb, lp], H x ≠ none := fun x hx => by
  obtain ⟨ds, h1, _⟩ := dr
  obtain ⟨bs, h2, _⟩ := hd.past
  obtain ⟨ns, h3, _⟩ := hd.notes
  obtain ⟨b2, h4, _⟩ := ho.b
  obtain ⟨p2, h5, _⟩ := ho.c
  simp at hx
  rcases hx with rfl | rfl | rfl | rfl | rfl <;> simp [h1, h2, h3, h4, h5]
section
variable {P : Program} {w : World} {K : PySem.W.Frag} {mg : Str → Option Value} {base : Heap}
theorem attR_step (T : TX K mg) (B : TBs K mg base) {D k : Nat} (hk : 13 ≤ k) (hA : FnR P w K mg base CX0 k (He.ga K "_law_attempt_right") (sp_attR K D)) : FnR P w K mg base CX0 (k + 6) (He.ga K "_law_attempt_right") (sp_attR K (D + 1)) := by
  refine fr0T (p := ("_law_attempt_right", none)) (k := k + 5) T.fn_l_attempt_right sc_att (fun _ _ _ _ _ _ us hl => match us, hl with | [_, _, _, _, _, _], _ => rfl) (fun vs H Q E h => ?_) (fun A outer s H vs Q E hr h => ?_)
  · obtain ⟨d, n, a, o, p, nn, lb, lp, fl, rv, r, Rs, cs, dep, rfl, _⟩ := h
    rfl
  · obtain ⟨d, n, a, o, p, nn, lb, lp, fl, rv, r, Rs, cs, dep, rfl, hn, hD, hdr, hd, ho, hrl, hrr, hnd, hle, hT, q⟩ := h
    have nd := sc_att.nd
    have TB := B ("_law_attempt_right", none) (by simp [tabDefs])
    have hm : ((He.cT K ("_law_attempt_right", none)).2, ("_law_attempt_right" : Str) ++ ".<locals>." ++ "_law_work") ∈ tabT K := .tail _ (.tail _ (.tail _ (.head _)))
    refine ⟨_, pss_cons (ps_asg (pe_tup (pa_cons (pe_tup (pa_cons (pe_callTy call_list_of (by rfl) T.free_list bb_list (pa_cons (pe_ix ix_tup (pv 3) pe_int (fun _ _ => rfl)) pa_nil)) (pa_cons (pe_callTy call_list_of (by rfl) T.free_list bb_list (pa_cons (pe_ix ix_tup (pv 3) pe_int (fun _ _ => rfl)) pa_nil)) pa_nil)))
          (pa_cons (pe_cmpR op_eq (pe_g (ok_l_take T) hr (by rfl) T.glo__law_take (kp_of T.fn_l_take) pass0 (pa_cons (pv 0) (pa_cons pe_int pa_nil)) (by omega)) pe_int (nomark _)) pa_nil))) (pg_pair (K := K) 6 7 nd))
      (pss_cons (ps_ndefMS (st := st_work) (T := tabN K) (nm := fun _ _ => ("_law_attempt_right" : Str) ++ ".<locals>." ++ "_law_work") (i := 8) rfl TB rfl (List.mem_map.mpr ⟨_, hm, rfl⟩) rfl (tabn_hu T hm) (ndef_free nd_att) rfl rfl rfl nd rfl (Or.inl rfl) (Or.inl rfl))
      (pss_cons (ps_try_only (tb := fun W => tAsg (tAndV (tAttW K (tVar 2) 8 (mkA K s) [0, 1, 6, 4, 5, 7] (fun _ _ => sp_work K D) W) (tNotV (tVar 7))) (gName 9)) (Wout := fun _ _ _ _ => False) (c := .type "KeyError") rfl rfl (names_blt (by rfl) T.free_KeyError boot_KeyError) LamX.takes0
          (fun W pn xe tk _ => pss_one (ps_set (i := 9) nd rfl (Or.inl rfl) (pe_and (pe_attW (i := 8) (mk := mkA K s) (fr := frW) (js := [0, 1, 6, 4, 5, 7]) (sp := fun _ _ => sp_work K D) T (pv 2) (fun f c' => ok_work T B rfl rfl rfl hk hA) (fun _ => rfl) (fun ok => Caps.made ok (ndef_free nd_att) (ndef_fr nd_att) rfl) (fun _ => rfl) hr tk rfl (Or.inl rfl)) (pe_one (pe_not (pv 7))))))
          (fun a oe cls d pn _ _ => pss_one (ps_set (i := 9) nd rfl (Or.inl rfl) (pv 7))))
      (pss_one (ps_ret (pe_and (pv 9) (pe_one (pe_g (ok_is_right T B) hr (by rfl) T.glo__law_is_right (kp_of T.fn_l_is_right) pass0 (pa_cons (pv 1) (pa_cons (pv 2) (pa_cons (pv 3) (pa_cons (pv 4) pa_nil)))) (by omega)))))))), ?_⟩
    obtain ⟨⟨dp, dn, db, dl⟩, ⟨pn, pb, pl⟩, ⟨nb, nl⟩, bl⟩ := nd5 hnd
    obtain ⟨ot, ⟨bs, ob, obp⟩, ⟨ps, oc, ocp⟩⟩ := id ho
    refine ⟨_, rfl, o, _, _, _, rfl, rfl, ot, atI_nat (j := 0) rfl, lb, bs, rfl, .inl (SqL.of ob), fun l1 hl1 => ?_⟩
    have e1 := same_new (o := .lst bs) hl1
    refine ⟨_, rfl, o, _, _, _, rfl, rfl, same_tup e1 ot, atI_nat (j := 1) rfl, lp, ps, rfl, .inl (SqL.of (e1 _ _ oc)), fun l2 hl2 => ?_⟩
    have e2 := same_new (o := .lst ps) hl2
    refine ⟨by show 2 ≤ sizeLine; decide, fun lt hlt => ?_⟩
    have e3 := same_new (o := .tup [.ref l1, .ref l2]) hlt
    have S3 := (e1.trans e2).trans e3
    obtain ⟨ds, hds, hdk⟩ := id hdr
    have hdr3 : Drw (upd (upd (upd H l1 (.lst bs)) l2 (.lst ps)) lt (.tup [.ref l1, .ref l2])) d := ⟨ds, S3 _ _ hds, hdk⟩
    refine ⟨_, rfl, d, 2, rfl, hdr3, by decide, fun H4 t b4 d4 t1 t2 => ?_⟩
    refine ⟨rfl, ?_⟩
    generalize decide (V.int t = V.int 0) = left
    refine ⟨by show 2 ≤ sizeLine; decide, fun tt htt => ?_⟩
    have e5 := same_new (o := .tup [.ref lt, .bl left]) htt
    refine ⟨tt, _, rfl, .inl (.inl upd_same), rfl, _, _, rfl, _, _, rfl, rfl, ?_⟩
    have nd1 : d ≠ l1 := ne_of_none hds hl1
    have nd2 : d ≠ l2 := ne_of_none (e1 _ _ hds) hl2
    have n12 : l1 ≠ l2 := ne_of_none upd_same hl2
    have K3 : Kp K H _ := Kp.same S3
    have ow3 : OwnAt K (upd (upd (upd H l1 (.lst bs)) l2 (.lst ps)) lt (.tup [.ref l1, .ref l2])) lt l1 l2 Rs cs := ⟨.inl (.inl upd_same), ⟨bs, (e2.trans e3) _ _ upd_same, Paired.mapP obp fun _ _ => K3.rls⟩, ⟨ps, e3 _ _ upd_same, Paired.mapP ocp fun _ _ => K3.ch⟩⟩
    have hd3 := hd.same S3
    have T3 := hT.ext S3
    generalize upd (upd (upd H l1 (.lst bs)) l2 (.lst ps)) lt (.tup [.ref l1, .ref l2]) = H3 at *
    have T5 := (tabs_d K T3 hdr3 b4).ext e5
    have ow5 := (ow3.drw hdr3 b4 nd1 nd2).ext (LamX.ExtN.of e5)
    have hd5 := (hd3.drw hdr3 b4 dp dn).same e5
    have d5 : Drw (upd H4 tt (.tup [.ref lt, .bl left])) d := by
      obtain ⟨ds4, z1, z2⟩ := d4
      exact ⟨ds4, e5 _ _ z1, z2⟩
    refine ⟨tabs_n T5, fun f c' H6 eN nn6 T6 f0 f1 c1 => ?_⟩
    have T6' := n_tabs T6
    have ow6 := ow5.ext eN
    have hd6 := hd5.ext eN
    have d6 : Drw H6 d := by
      obtain ⟨ds5, z1, z2⟩ := d5
      exact ⟨ds5, eN _ _ z1 (fun _ z => by cases z), z2⟩
    have gone6 : ∀ y, H6 y = none → H y = none := fun y hy => by
      have h4 := same_gone e5 (nn6 y hy)
      refine same_gone S3 ?_
      cases z : H3 y with
      | none => rfl
      | some u =>
        by_cases hyd : y = d
        · obtain ⟨ds4, z4, _⟩ := d4
          rw [hyd, z4] at h4
          cases h4
        · rw [b4 y u z (by simpa using hyd)] at h4
          cases h4
    have N6 : ButN [d, p, nn, a] H H6 := ((((ButN.same (M := [d]) S3).trans (ButN.of b4)).trans (ButN.same e5)).trans (ButN.ext eN)).mono fun y hy => .inl (by simp at hy; simp [hy])
    have muH : ∀ y ∈ [d, p, nn, a], Mut K H y := fun y hy => by
      obtain ⟨da, g1, g2⟩ := hd.ex
      rcases List.mem_append.mp (show y ∈ [d, p, nn] ++ [a] from hy) with hy | hy
      · exact lists_mut hdr hd ho y (List.mem_append.mpr (.inl hy) : y ∈ [d, p, nn] ++ [lb, lp])
      · rw [List.mem_singleton.mp hy]
        exact mut_slo (cD_ne T) g1
    have fin : ∀ H', Good K d a p nn fl (n : Nat) Rs cs H H' → tCallR (sp_is_right K) E0 (tCons (tVar 1) (tCons (tVar 2) (tCons (tVar 3) (tCons (tVar 4) tNil)))) [some (.ref d), some (.int (n : Nat)), some (.ref a), some (.ref o), some rv, some (.int (dep : Nat)), some (.ref lt), some (.bl left), some (.ref f), some (.bl true)] H' Q := fun H' ⟨p', nn', N, dr, h1, h2, hdd, TT⟩ => by
      have KK := Kp.but N muH
      have hlen := hdd.len
      obtain ⟨Rs0, R, eR⟩ := list_last (l := Rs) (fun z => by rw [z] at hlen; simp at hlen)
      have ho' := ho.keep N KK (by simp [db.symm, pb.symm, nb.symm, (hd.notlst ob).symm]) (by simp [dl.symm, pl.symm, nl.symm, (hd.notlst oc).symm])
      have hdd0 := id hdd
      rw [eR] at hdd0 ho'
      refine ⟨_, rfl, _, rfl, _, rfl, _, rfl, n, a, o, p', nn', lb, lp, fl, rv, r, Rs0, R, cs, rfl, hn, hdd0, ho', KK.tk.rl hrl, hrr, by omega, TT, fun H7 eN7 T7 => q H7 p' nn' (N.trans (ButN.ext eN7)) ?_ h1 h2 (hdd.ext eN7) T7⟩
      obtain ⟨ds', z1, z2⟩ := dr
      exact ⟨ds', eN7 _ _ z1 (fun _ z => by cases z), z2⟩
    obtain ⟨da6, sa6⟩ := hd6.slt
    refine ⟨fun cls dd H' => cls = .type "KeyError" ∧ left = true ∧ Good K d a p nn fl (n : Nat) Rs cs H H', fun cls dd H' ⟨z1, z2, z3⟩ => ?_, _, rfl, a, da6, _, f, c', rfl, sa6, rfl, f1, c1, p, nn, fl, _, Rs, cs, hd6, fun H7 x pc nc b7 hx hpc hnc sv hd7 Q' E' hQ hE => ?_⟩
    · subst z1 z2
      exact ⟨true, exm_KE, fun _ ea hea => ⟨_, rfl, _, rfl, true, rfl, iteT (fin H' z3)⟩, fun z => by cases z⟩
    · have na6 : ∀ y ∈ [d, p, nn, l1, l2, a], H6 y ≠ none := fun y hy => by
        obtain ⟨da, g1, g2⟩ := hd6.ex
        rcases List.mem_append.mp (show y ∈ [d, p, nn, l1, l2] ++ [a] from hy) with hy | hy
        · exact lists_in d6 hd6 ow6 y hy
        · rw [List.mem_singleton.mp hy, g1]
          exact fun z => by cases z
      have mua6 : ∀ y ∈ [a], Mut K H6 y := fun y hy => by
        obtain ⟨da, g1, g2⟩ := hd6.ex
        rw [List.mem_singleton.mp hy]
        exact mut_slo (cD_ne T) g1
      have K67 := Kp.but (ButN.of b7) mua6
      have T7 := tabs_but (K := K) T6' b7 mua6
      obtain ⟨ds6, z6, k6⟩ := id d6
      have d7 : Drw H7 d := ⟨ds6, b7 _ _ z6 (by simpa using (hd6.notlst z6).symm), k6⟩
      obtain ⟨b6, zb6, _⟩ := id ow6.b
      obtain ⟨c6, zc6, _⟩ := id ow6.c
      have ow7 := ow6.keep (ButN.of b7) K67 (by simpa using (hd6.notlst zb6).symm) (by simpa using (hd6.notlst zc6).symm)
      have N7 : ButN [d, p, nn, a] H H7 := N6.step (ButN.of b7) fun y hy => .inl (by simp at hy; simp [hy])
      have K7 := Kp.but N7 muH
      have mu7 : ∀ y ∈ [d, p, nn, l1, l2, a], Mut K H7 y := fun y hy => by
        obtain ⟨da, g1, g2⟩ := hd7.ex
        rcases List.mem_append.mp (show y ∈ [d, p, nn, l1, l2] ++ [a] from hy) with hy | hy
        · exact lists_mut d7 hd7 ow7 y hy
        · rw [List.mem_singleton.mp hy]
          exact mut_slo (cD_ne T) g1
      obtain ⟨hp0, zp, _⟩ := id hd.past
      obtain ⟨hn0, zn, _⟩ := id hd.notes
      have back : ∀ H8 p8 n8 R8 c8, ButN [d, p, nn, l1, l2, a] H7 H8 → Drw H8 d → DeskAt K H8 a p8 n8 cs.length (n : Nat) R8 c8 → LamX.Tabs (tabT K) H8 → ∀ (k : Hp → Prop), (∀ H9, Good K d a p nn fl (n : Nat) Rs cs H H9 → k H9) → Back K H8 x a pc nc fl (n : Nat) Rs cs k := fun H8 p8 n8 R8 c8 N8 d8 hd8 T8 k hk9 => by
        obtain ⟨da, g1, g2⟩ := id hd8.ex
        refine ⟨sv.keep N8 (Kp.but N8 mu7) (fun z => na6 x z hx) (fun z => na6 pc z hpc) (fun z => na6 nc z hnc), ⟨da, _, _, _, g1, g2⟩, fun H9 b9 hd9 => hk9 H9 ⟨pc, nc, ?_, ?_, gone6 _ hpc, gone6 _ hnc, hd9, tabs_but (K := K) T8 b9 fun y hy => ?_⟩⟩
        · refine (N7.step N8 fun y hy => ?_).step (ButN.of b9) fun y hy => .inl (by simp at hy; simp [hy])
          simp at hy
          rcases hy with h | h | h | h | h | h
          · exact .inl (by simp [h])
          · exact .inl (by simp [h])
          · exact .inl (by simp [h])
          · exact .inr (by rw [h]; exact hl1)
          · exact .inr (by rw [h]; exact same_gone e1 hl2)
          · exact .inl (by simp [h])
        · obtain ⟨ds8, z8, k8⟩ := d8
          exact ⟨ds8, b9 _ _ z8 (by simpa using (hd8.notlst z8).symm), k8⟩
        · rw [List.mem_singleton.mp hy]
          exact mut_slo (cD_ne T) g1
      refine ⟨d, n, a, lt, p, nn, l1, l2, rv, r, Rs, cs, dep, left, rfl, rfl, hn, by omega, d7, hd7, ow7, K7.tk.rl hrl, hrr, ?_, hle, T7, fun H8 p8 n8 R8 c8 N8 d8 hd8 T8 => ⟨fun z => hQ _ _ (back H8 p8 n8 R8 c8 N8 d8 hd8 T8 _ fun H9 g => ?_), fun z dd => hE _ _ _ (back H8 p8 n8 R8 c8 N8 d8 hd8 T8 _ fun H9 g => ⟨rfl, z, g⟩)⟩⟩
      · simp [dp, dn, nd1, nd2, pn, n12, ne_of_none zp hl1, ne_of_none (e1 _ _ zp) hl2, ne_of_none zn hl1, ne_of_none (e1 _ _ zn) hl2]
      · subst z
        exact ⟨true, rfl, iteT ⟨_, rfl, false, rfl, _, rfl, true, rfl, iteT (fin H9 g)⟩⟩
theorem ok_attR (T : TX K mg) (B : TBs K mg base) : ∀ D, FnR P w K mg base CX0 (13 + 6 * D) (He.ga K "_law_attempt_right") (sp_attR K D)
  | 0 => fun _ _ _ _ _ _ _ _ _ _ _ h => by
    obtain ⟨d, n, a, o, p, nn, lb, lp, fl, rv, r, Rs, cs, dep, _, _, hD, _⟩ := h
    exact absurd hD (Nat.not_lt_zero _)
  | D + 1 => attR_step T B (Nat.le_add_right 13 (6 * D)) (ok_attR T B D)
end
end K47
set_option maxHeartbeats 8000000
/-! ### the law: what stands between its turns -/
namespace K47
open PySem PySem.Spec PyProof.Rows L2
structure LawSt (K : PySem.W.Frag) (n : Nat) (H : Hp) (d a p nn o lb lp : Addr) (rv : V) (r : Rl) (Rs : List (List Rl)) (cs : List Ch) : Prop where
  dr : Drw H d
  desk : DeskAt K H a p nn 0 (n : Nat) Rs cs
  own : OwnAt K H o lb lp Rs cs
  rl : RlAt K H rv r
  nd : [d, p, nn, lb, lp].Nodup
  tabs : LamX.Tabs (tabT K) H
section
variable {K : PySem.W.Frag} {n : Nat} {H H' : Hp} {d a p nn o lb lp : Addr} {rv : V} {r : Rl} {Rs : List (List Rl)} {cs : List Ch} {G : Hp → Prop} {G2 : Int → Hp → Prop}
theorem Drw.ext (h : Drw H d) (e : LamX.ExtN H H') : Drw H' d := by
  obtain ⟨ds, h1, h2⟩ := h
  exact ⟨ds, e _ _ h1 (fun _ z => by cases z), h2⟩
theorem LawSt.ext (S : LawSt K n H d a p nn o lb lp rv r Rs cs) (e : LamX.ExtN H H') (T : LamX.Tabs (tabT K) H') : LawSt K n H' d a p nn o lb lp rv r Rs cs :=
  ⟨S.dr.ext e, S.desk.ext e, S.own.ext e, (Kp.ext (K := K) e).tk.rl S.rl, S.nd, T⟩
theorem LawSt.same (S : LawSt K n H d a p nn o lb lp rv r Rs cs) (e : Same H H') : LawSt K n H' d a p nn o lb lp rv r Rs cs := S.ext (LamX.ExtN.of e) (S.tabs.ext e)
theorem LawSt.muts (S : LawSt K n H d a p nn o lb lp rv r Rs cs) : ∀ x ∈ [d, p, nn, lb, lp], Mut K H x := lists_mut S.dr S.desk S.own
/-- some other lists are changed -/
theorem LawSt.other {M : List Addr} (S : LawSt K n H d a p nn o lb lp rv r Rs cs) (N : ButN M H H') (k : Kp K H H') (dr : Drw H' d) (T : LamX.Tabs (tabT K) H') (h : ∀ x ∈ [a, p, nn, lb, lp], x ∉ M) : LawSt K n H' d a p nn o lb lp rv r Rs cs :=
  ⟨dr, S.desk.keep N k (h a (by simp)) (h p (by simp)) (h nn (by simp)), S.own.keep N k (h lb (by simp)) (h lp (by simp)), k.tk.rl S.rl, S.nd, T⟩
theorem LawSt.drawn (S : LawSt K n H d a p nn o lb lp rv r Rs cs) (b : But [d] H H') (dr : Drw H' d) : LawSt K n H' d a p nn o lb lp rv r Rs cs := by
  obtain ⟨⟨dp, dn, db, dl⟩, _⟩ := nd5 S.nd
  obtain ⟨ds, h1, _⟩ := S.dr
  refine S.other (ButN.of b) (kp_d S.dr b) dr (tabs_d K S.tabs S.dr b) fun x hx => ?_
  simp at hx
  rcases hx with rfl | rfl | rfl | rfl | rfl
  · simpa using S.desk.notlst h1
  · simpa using dp.symm
  · simpa using dn.symm
  · simpa using db.symm
  · simpa using dl.symm
theorem LawSt.takes (S : LawSt K n H d a p nn o lb lp rv r Rs cs) {many : Nat} (hm : 0 < many) (q : ∀ H' (t : Nat), t < many → LawSt K n H' d a p nn o lb lp rv r Rs cs → G2 (t : Nat) H') :
    ∃ (d' : Addr) (many' : Int), ([.ref d, .int (many : Nat)] : List V) = [.ref d', .int many'] ∧ Drw H d' ∧ 0 < many' ∧ ∀ H' r, But [d'] H H' → Drw H' d' → 0 ≤ r → r < many' → G2 r H' := by
  refine ⟨d, _, rfl, S.dr, by omega, fun H' t b dr t1 t2 => ?_⟩
  obtain ⟨k, rfl⟩ := Int.eq_ofNat_of_zero_le t1
  exact q H' k (by omega) (S.drawn b dr)
theorem LawSt.right (S : LawSt K n H d a p nn o lb lp rv r Rs cs) (hn : n ≤ 5) (hr : isRule (n : Nat) r = true) (hl : cs.length ≤ 900) (q : ∀ H', LawSt K n H' d a p nn o lb lp rv r Rs cs → LamX.ExtN H H' → LamX.Tabs (tabT K) H' → G H') :
    ∃ (n' : Nat) (a' o' p' nn' lb' lp' : Addr) (fl : Nat) (rv' : V) (r' : Rl) (Rs' : List (List Rl)) (R : List Rl) (cs' : List Ch), [.int (n : Nat), .ref a, .ref o, rv] = [.int (n' : Nat), .ref a', .ref o', rv'] ∧ n' ≤ 5 ∧ DeskAt K H a' p' nn' fl (n' : Nat) (Rs' ++ [R]) cs' ∧ OwnAt K H o' lb' lp' (Rs' ++ [R]) cs' ∧
      RlAt K H rv' r' ∧ isRule (n' : Nat) r' = true ∧ cs'.length ≤ 900 ∧ LamX.Tabs (tabT K) H ∧ ∀ H', LamX.ExtN H H' → LamX.Tabs (tabT K) H' → G H' := by
  have hlen := S.desk.len
  obtain ⟨Rs0, R, rfl⟩ := list_last (l := Rs) (fun z => by rw [z] at hlen; simp at hlen)
  exact ⟨n, a, o, p, nn, lb, lp, 0, rv, r, Rs0, R, cs, rfl, hn, S.desk, S.own, S.rl, hr, hl, S.tabs, fun H' e T => q H' (S.ext e T) e T⟩
theorem LawSt.step (S : LawSt K n H d a p nn o lb lp rv r Rs cs) (hn : n ≤ 5) (hl : cs.length ≤ 800) (q : ∀ H' Rs' cs', LawSt K n H' d a p nn o lb lp rv r Rs' cs' → cs'.length ≤ cs.length + 1 → ButN [d, p, nn, lb, lp] H H' → Kp K H H' → G H') :
    ∃ (d' : Addr) (n' : Nat) (a' o' p' nn' lb' lp' : Addr) (fl : Nat) (Rs0 : List (List Rl)) (cs0 : List Ch), ([.ref d, .int (n : Nat), .ref a, .ref o, .int 0] : List V) = [.ref d', .int (n' : Nat), .ref a', .ref o', .int (fl : Nat)] ∧ n' ≤ 5 ∧ Drw H d' ∧ DeskAt K H a' p' nn' fl (n' : Nat) Rs0 cs0 ∧ OwnAt K H o' lb' lp' Rs0 cs0 ∧
      [d', p', nn', lb', lp'].Nodup ∧ cs0.length ≤ 800 ∧ LamX.Tabs (tabT K) H ∧
      ∀ H' Rs' cs', ButN [d', p', nn', lb', lp'] H H' → Drw H' d' → DeskAt K H' a' p' nn' fl (n' : Nat) Rs' cs' → OwnAt K H' o' lb' lp' Rs' cs' → cs'.length ≤ cs0.length + 1 → LamX.Tabs (tabT K) H' → G H' :=
  ⟨d, n, a, o, p, nn, lb, lp, 0, Rs, cs, rfl, hn, S.dr, S.desk, S.own, S.nd, hl, S.tabs, fun H' Rs' cs' N dr hd ho hl' T =>
    have k := Kp.but N S.muts
    q H' Rs' cs' ⟨dr, hd, ho, k.tk.rl S.rl, S.nd, T⟩ hl' N k⟩
theorem LawSt.att {mg : Str → Option Value} (T : TX K mg) {dep : Nat} (S : LawSt K n H d a p nn o lb lp rv r Rs cs) (hn : n ≤ 5) (hr : isRule (n : Nat) r = true) (hd : dep < 3) (hl : cs.length ≤ 600) (q : ∀ H' p' nn', LawSt K n H' d a p' nn' o lb lp rv r Rs cs → G H') :
    ∃ (d' : Addr) (n' : Nat) (a' o' p1 nn1 lb' lp' : Addr) (fl : Nat) (rv' : V) (r' : Rl) (Rs' : List (List Rl)) (cs' : List Ch) (dep' : Nat), [.ref d, .int (n : Nat), .ref a, .ref o, rv, .int (dep : Nat)] = [.ref d', .int (n' : Nat), .ref a', .ref o', rv', .int (dep' : Nat)] ∧ n' ≤ 5 ∧ dep' < 3 ∧ Drw H d' ∧
      DeskAt K H a' p1 nn1 fl (n' : Nat) Rs' cs' ∧ OwnAt K H o' lb' lp' Rs' cs' ∧ RlAt K H rv' r' ∧ isRule (n' : Nat) r' = true ∧ [d', p1, nn1, lb', lp'].Nodup ∧ cs'.length + 4 * dep' ≤ 700 ∧ LamX.Tabs (tabT K) H ∧
      ∀ H' p' nn', ButN [d', p1, nn1, a'] H H' → Drw H' d' → H p' = none → H nn' = none → DeskAt K H' a' p' nn' fl (n' : Nat) Rs' cs' → LamX.Tabs (tabT K) H' → G H' := by
  refine ⟨d, n, a, o, p, nn, lb, lp, 0, rv, r, Rs, cs, dep, rfl, hn, hd, S.dr, S.desk, S.own, S.rl, hr, S.nd, by omega, S.tabs, fun H' p' nn' N dr hp hnn hd' T' => q H' p' nn' ?_⟩
  obtain ⟨⟨dp, dn, db, dl⟩, ⟨pn, pb, pl⟩, ⟨nb, nl⟩, bl⟩ := nd5 S.nd
  obtain ⟨bs, ob, _⟩ := S.own.b
  obtain ⟨ps, oc, _⟩ := S.own.c
  obtain ⟨ds, hds, _⟩ := S.dr
  obtain ⟨da, g1, g2⟩ := S.desk.ex
  have mu : ∀ y ∈ [d, p, nn, a], Mut K H y := fun y hy => by
    rcases List.mem_append.mp (show y ∈ [d, p, nn] ++ [a] from hy) with hy | hy
    · exact S.muts y (List.mem_append.mpr (.inl hy) : y ∈ [d, p, nn] ++ [lb, lp])
    · rw [List.mem_singleton.mp hy]
      exact mut_slo (cD_ne T) g1
  have k := Kp.but N mu
  refine ⟨dr, hd', S.own.keep N k (by simp [db.symm, pb.symm, nb.symm, (S.desk.notlst ob).symm]) (by simp [dl.symm, pl.symm, nl.symm, (S.desk.notlst oc).symm]), k.tk.rl S.rl, ?_, T'⟩
  simp [ne_of_none hds hp, ne_of_none hds hnn, db, dl, hd'.ne, (ne_of_none ob hp).symm, (ne_of_none oc hp).symm, (ne_of_none ob hnn).symm, (ne_of_none oc hnn).symm, bl]
end
end K47
set_option maxHeartbeats 8000000
/-! ### the law -/
namespace K47
open PySem PySem.Spec PyProof.Rows L2
abbrev N_law : List Str := ["_law_script", "_law_draws", "_law_marks", "_law_rules_here", "_law_turn", "_law_desk", "_law_own", "_law_rule", "_law_kind", "_law_branch", "_law_mine", "_law_step_here"]
theorem sc_law : FnScope N_law ["_law_script"] (defScope s_l_law) := ⟨rfl, rfl, rfl, by decide +kernel, rfl, by decide +kernel, by decide +kernel⟩
def sp_law (K : PySem.W.Frag) : Sp := fun vs H Q _ => ∃ (a : Addr) (zs : List Int), vs = [.ref a] ∧ SqL K H a (zs.map V.int) ∧ LamX.Tabs (tabT K) H ∧ ∀ H', Q (.bl true) H'
/-- the optional large book -/
def tRules (K : PySem.W.Frag) : TS := fun D σ H => ∃ (x0 x4 : Option V) (d : Addr) (n : Nat) (v : V) (R : List Rl) (σ' : L2.St), σ = x0 :: some (.ref d) :: some (.int (n : Nat)) :: some v :: x4 :: σ' ∧ 1 ≤ n ∧ n ≤ 5 ∧ Drw H d ∧ RlsAt K H v R ∧ ValidR (n : Nat) R ∧ R.length ≤ 16 ∧ LamX.Tabs (tabT K) H ∧
  ∀ H' v' R', Drw H' d → RlsAt K H' v' R' → ValidR (n : Nat) R' → R'.length ≤ 16 → LamX.Tabs (tabT K) H' → D.nx (x0 :: some (.ref d) :: some (.int (n : Nat)) :: some v' :: x4 :: σ') H'
/-- a turn -/
def tKind (K : PySem.W.Frag) : TS := fun D σ H => ∃ (d a p nn o lb lp : Addr) (n : Nat) (rv : V) (r : Rl) (Rs : List (List Rl)) (cs : List Ch) (kd : Nat) (x0 x3 x4 x9 x10 x11 : Option V), σ = [x0, some (.ref d), some (.int (n : Nat)), x3, x4, some (.ref a), some (.ref o), some rv, some (.int (kd : Nat)), x9, x10, x11] ∧ n ≤ 5 ∧ isRule (n : Nat) r = true ∧
  LawSt K n H d a p nn o lb lp rv r Rs cs ∧ cs.length ≤ 500 ∧ ∀ H' p' nn' Rs' cs' y9 y10 y11, LawSt K n H' d a p' nn' o lb lp rv r Rs' cs' → cs'.length ≤ cs.length + 1 → D.nx [x0, some (.ref d), some (.int (n : Nat)), x3, x4, some (.ref a), some (.ref o), some rv, some (.int (kd : Nat)), y9, y10, y11] H'
/-- a def with a table, told with its own data -/
theorem fk0T {P : Program} {w : World} {K : PySem.W.Frag} {mg : Str → Option Value} {base : Heap} {x qual : Str} {st : Stmt} {p : He.Defn} {N ps : List Str} {k : Nat} {sp : Sp} {fd : FuncData} (F : Fun K x qual st (He.fAd K p) fd) (S : FnScope N ps (defScope st)) (len : ∀ vs H Q E, sp vs H Q E → vs.length = ps.length)
    (body : ∀ (A : Around) (outer : List Env) (s : Shared) (H : Hp) (vs : List V) (Q : VK) (E : XK), Room k (A.deeper (envOfC qual (defScope st) s.heap.objs.size (He.fAd K p) (.ref (He.cT K p).1))) → sp vs H Q E →
      ∃ t, PSs (cxOf CX0 P w K mg base N qual (defScope st) (He.fAd K p) (.ref (He.cT K p).1) A outer s H E).nox (defBody st) t ∧ t { nx := fun _ H' => Q .non H', rt := Q } (start N vs) H) : FnOk P w K mg base CX0 (k + 1) (He.fAd K p) fd ps sp := by
  obtain ⟨oc, od, kV, doc, pm, an, cdv, ct, osl, rfl, lk, hcd⟩ := F.ex
  obtain ⟨c, rfl⟩ := He.codeIn_ref hcd
  have ec : (He.cT K p).1 = c := He.codeOf_eq lk rfl
  refine fn_of lk hcd S len fun A outer s H vs Q E hr hsp => ?_
  rw [← ec] at hr ⊢
  obtain ⟨t, h, q⟩ := body A outer s H vs Q E hr hsp
  exact ⟨t, h.nox, q⟩
theorem iss_none (n : Nat) : isSet (n : Nat) [] = true := rfl
theorem iss_zero {n : Nat} (h : 1 ≤ n) : isSet (n : Nat) [0] = true := by
  have e : isIn (.int 0) 0 ((n : Nat) - 1) = true := by
    rw [isIn_int, decide_eq_true (by omega), decide_eq_true (by omega)]
    rfl
  unfold isSet
  rw [List.all_cons, e]
  rfl
theorem isr_odd (n : Nat) : isRule (n : Nat) ([(n : Int)], []) = false := by
  have e : isIn (.int (n : Nat)) 0 ((n : Nat) - 1) = false := by
    rw [isIn_int, decide_eq_false (p := ((n : Nat) : Int) ≤ (n : Nat) - 1) (by omega), Bool.and_false]
  unfold isRule isSet
  rw [List.all_cons, e]
  rfl
theorem val_rep {n : Nat} (h : 1 ≤ n) (m : Nat) : ValidR (n : Nat) (List.replicate m ([0], [])) := fun r hr => by
  rw [List.eq_of_mem_replicate hr]
  unfold isRule
  rw [iss_zero h]
  rfl
theorem dis {H : Hp} {d p nn lb lp q1 q2 q3 q4 : Addr} (h : ∀ y ∈ [d, p, nn, lb, lp], H y ≠ none) (g : ∀ y ∈ [q1, q2, q3, q4], H y = none) (dd : [d, p, nn, lb, lp].Nodup) : ∀ y ∈ [p, nn, lb, lp], y ∉ [d, q1, q2, q3, q4] := fun y hy z => by
  rcases List.mem_cons.mp z with e | z
  · exact (List.nodup_cons.mp dd).1 (by rw [← e]; exact hy)
  · exact h y (.tail _ hy) (g y z)
theorem lists_lst {K : PySem.W.Frag} {H : Hp} {d a p nn o lb lp : Addr} {fl : Nat} {m : Int} {Rs Rs2 : List (List Rl)} {cs cs2 : List Ch} (dr : Drw H d) (hd : DeskAt K H a p nn fl m Rs cs) (ho : OwnAt K H o lb lp Rs2 cs2) : ∀ x ∈ [d, p, nn, lb, lp], ∃ xs, H x = some (.lst xs) := fun x hx => by
  obtain ⟨ds, h1, _⟩ := dr
  obtain ⟨bs, h2, _⟩ := hd.past
  obtain ⟨ns, h3, _⟩ := hd.notes
  obtain ⟨b2, h4, _⟩ := ho.b
  obtain ⟨p2, h5, _⟩ := ho.c
  simp at hx
  rcases hx with rfl | rfl | rfl | rfl | rfl
  · exact ⟨_, h1⟩
  · exact ⟨_, h2⟩
  · exact ⟨_, h3⟩
  · exact ⟨_, h4⟩
  · exact ⟨_, h5⟩
section
variable {P : Program} {w : World} {K : PySem.W.Frag} {mg : Str → Option Value} {base : Heap}
theorem ok_law (T : TX K mg) (B : TBs K mg base) {fd : FuncData} (F : Fun K "law" "law" s_l_law (He.fAd K ("law", none)) fd) : FnOk P w K mg base CX0 32 (He.fAd K ("law", none)) fd ["_law_script"] (sp_law K) := by
  refine fk0T (p := ("law", none)) F sc_law (fun vs H Q E h => ?_) (fun A outer s H vs Q E hr h => ?_)
  · obtain ⟨a, zs, rfl, _⟩ := h
    rfl
  · obtain ⟨a0, zs, rfl, ha0, hT, q⟩ := h
    have nd := sc_law.nd
    have TB := B ("law", none) (by simp [tabDefs])
    refine ⟨_, pss_cons (ps_set (i := 1) nd rfl (Or.inl rfl) (pe_g (ok_pool T) hr (by rfl) T.glo__law_pool (kp_of T.fn_l_pool) pass0 (pa_cons (pe_slice sl_list (pv 0) po_none (po_some pe_int)) (pa_cons (pe_tup (pa_cons pe_int (pa_cons pe_int (pa_cons pe_int (pa_cons pe_int pa_nil))))) pa_nil))))
      (pss_cons (ps_set (i := 2) nd rfl (Or.inr rfl) (pe_op op_add pe_int (pe_g (ok_l_take T) hr (by rfl) T.glo__law_take (kp_of T.fn_l_take) pass0 (pa_cons (pv 1) (pa_cons pe_int pa_nil)))))
      (pss_cons (ps_set (i := 3) nd rfl (Or.inl rfl) (pe_g (ok_lrules T) hr (by rfl) T.glo__law_rules (kp_of T.fn_l_rules) pass0 (pa_cons (pv 1) (pa_cons (pv 2) (pa_cons pe_int pa_nil)))))
      (pss_cons (ps_imp (t' := tRules K) (ps_if (pt_cmpR op_eq (pe_g (ok_l_take T) hr (by rfl) T.glo__law_take (kp_of T.fn_l_take) pass0 (pa_cons (pv 1) (pa_cons pe_int pa_nil))) pe_int (nomark _))
          (pss_one (ps_set (i := 3) nd rfl (Or.inl rfl) (pe_callTy call_tuple_of (by rfl) T.free_tuple bb_tuple (pa_cons (pe_lc (own := [("_law_turn", 4)]) rfl nd (pi_range1 rfl T.free_range (pa_cons (pe_op op_add pe_int (pe_g (ok_l_take T) hr (by rfl) T.glo__law_take (kp_of T.fn_l_take) pass0 (pa_cons (pv 1) (pa_cons pe_int pa_nil)))) pa_nil)) (blkOk_by (N := N_law) (sc := defScope s_l_law) (by decide +kernel)) (fun _ _ _ _ _ => pg_name (i := 4) nd rfl (Or.inl rfl))
            (fun _ _ _ _ _ => pts_nil) (fun _ _ _ _ _ => pe_tup (pa_cons (pe_tup (pa_cons pe_int pa_nil)) (pa_cons (pe_tup pa_nil) pa_nil)))) pa_nil)))) pss_nil) (fun D σ H h => ?rules))
      (pss_cons (ps_asg (pe_tup (pa_cons (StX.pe_makeR T.mkr_Desk (ok_Desk_init T) (hr.mono (by decide)) (by rfl) T.glo_Desk pass0 (pa_cons (StX.pe_makeR T.mkr_Book (ok_Book_init T) (hr.mono (by decide)) (by rfl) T.glo_Book pass0 (pa_cons (pv 2) (pa_cons (pv 3) pa_nil))) pa_nil))
          (pa_cons (pe_tup (pa_cons (pe_lst (pa_cons (pv 3) pa_nil)) (pa_cons (pe_lst pa_nil) pa_nil))) pa_nil))) (pg_pair (K := K) 5 6 nd))
      (pss_cons (ps_set (i := 7) nd rfl (Or.inl rfl) (pe_tup (pa_cons (pe_g (ok_lset T) hr (by rfl) T.glo__law_set (kp_of T.fn_l_set) pass0 (pa_cons (pv 1) (pa_cons (pv 2) (pa_cons pe_int pa_nil)))) (pa_cons (pe_g (ok_lset T) hr (by rfl) T.glo__law_set (kp_of T.fn_l_set) pass0 (pa_cons (pv 1) (pa_cons (pv 2) (pa_cons pe_int pa_nil)))) pa_nil))))
      (pss_cons (ps_for PassesOwn.never rfl (pi_range1 rfl T.free_range (pa_cons pe_int pa_nil)) (pg_name (i := 4) nd rfl (Or.inl rfl))
        (pss_cons (ps_set (i := 8) nd rfl (Or.inl rfl) (pe_g (ok_l_take T) hr (by rfl) T.glo__law_take (kp_of T.fn_l_take) pass0 (pa_cons (pv 1) (pa_cons pe_int pa_nil))))
        (pss_cons (ps_imp (t' := tKind K) (ps_if (pt_cmpR op_eq (pv 8) pe_int (nomark _))
            (pss_cons (ps_par (i := 9) (j := 10) rfl nd rfl rfl (by decide) rfl rfl (pa_cons (SlX.pe_methSl0 (pv 5) T.scls_Desk T.meth_Desk_branch (ok_branch T) (hr.mono (by decide)) pass0) (pa_cons (pe_tup (pa_cons (pe_callTy call_list_of (by rfl) T.free_list bb_list (pa_cons (pe_ix ix_tup (pv 6) pe_int (fun _ _ => rfl)) pa_nil)) (pa_cons (pe_callTy call_list_of (by rfl) T.free_list bb_list (pa_cons (pe_ix ix_tup (pv 6) pe_int (fun _ _ => rfl)) pa_nil)) pa_nil))) pa_nil)) (by rfl))
            (pss_cons (ps_for PassesOwn.never rfl (pi_range1 rfl T.free_range (pa_cons pe_int pa_nil)) (pg_name (i := 11) nd rfl (Or.inl rfl))
              (pss_one (ps_if (PW.pt (pw_or (pt_not (pt_val (pe_g (ok_step T B) hr (by rfl) T.glo__law_step (kp_of T.fn_l_step) pass0 (pa_cons (pv 1) (pa_cons (pv 2) (pa_cons (pv 9) (pa_cons (pv 10) (pa_cons pe_int pa_nil))))))))
                  (pw_or1 (pt_not (pt_val (pe_g (ok_is_right T B) hr (by rfl) T.glo__law_is_right (kp_of T.fn_l_is_right) pass0 (pa_cons (pv 2) (pa_cons (pv 5) (pa_cons (pv 6) (pa_cons (pv 7) pa_nil)))))))))) (pss_one (ps_ret pe_bl)) pss_nil)))
            (pss_one (ps_if (pt_not (pt_val (pe_g (ok_is_right T B) hr (by rfl) T.glo__law_is_right (kp_of T.fn_l_is_right) pass0 (pa_cons (pv 2) (pa_cons (pv 9) (pa_cons (pv 10) (pa_cons (pv 7) pa_nil))))))) (pss_one (ps_ret pe_bl)) pss_nil))))
            (pss_one (ps_if (pt_cmpR op_eq (pv 8) pe_int (nomark _))
              (pss_one (ps_if (pt_not (pt_val (pe_g (ok_attR T B 3) hr (by rfl) T.glo__law_attempt_right (kp_of T.fn_l_attempt_right) pass0 (pa_cons (pv 1) (pa_cons (pv 2) (pa_cons (pv 5) (pa_cons (pv 6) (pa_cons (pv 7) (pa_cons (pe_g (ok_l_take T) hr (by rfl) T.glo__law_take (kp_of T.fn_l_take) pass0 (pa_cons (pv 1) (pa_cons pe_int pa_nil))) pa_nil))))))))) (pss_one (ps_ret pe_bl)) pss_nil))
              (pss_one (ps_if (pt_not (pt_val (pe_g (ok_step T B) hr (by rfl) T.glo__law_step (kp_of T.fn_l_step) pass0 (pa_cons (pv 1) (pa_cons (pv 2) (pa_cons (pv 5) (pa_cons (pv 6) (pa_cons pe_int pa_nil)))))))) (pss_one (ps_ret pe_bl)) pss_nil))))) (fun D σ H h => ?kind))
        (pss_one (ps_if (pt_not (pt_val (pe_g (ok_is_right T B) hr (by rfl) T.glo__law_is_right (kp_of T.fn_l_is_right) pass0 (pa_cons (pv 2) (pa_cons (pv 5) (pa_cons (pv 6) (pa_cons (pv 7) pa_nil))))))) (pss_one (ps_ret pe_bl)) pss_nil)))))
      (pss_one (ps_ret (pe_cmpR op_eq (pe_word (k := 5) (t := fun E => SlX.tMethSl (cD K) (sp_asked K) E (tVar 5) (tCons (tTup (tCons (tTup (tCons (tVar 2) tNil)) (tCons (tTup tNil) tNil))) tNil)) T (by rfl) TB rfl (by exact .tail _ (.tail _ (.tail _ (.tail _ (.head _))))) (hr.mono (by decide)) (LamX.lamS_by (by show LamX.lamSB (defScope s_l_law) _ = true; decide +kernel)) rfl (fun _ _ _ _ _ => rfl)
                (fun A outer s H E f c' hr' => SlX.pe_methSl (pv 5) T.scls_Desk T.meth_Desk_asked (ok_asked T) hr' (passes_call (takes_of rfl rfl rfl rfl) (fun _ _ _ _ h => h)) (pa_cons (pe_tup (pa_cons (pe_tup (pa_cons (pv 2) pa_nil)) (pa_cons (pe_tup pa_nil) pa_nil))) pa_nil))) pe_str (nomark _)))))))))), ?main⟩
    case rules =>
      obtain ⟨x0, x4, d, n, v, R, σ', rfl, h1, h5, dr, hv, hV, hlen, hT, k⟩ := h
      refine ⟨_, rfl, d, 4, rfl, dr, by decide, fun H1 t b1 d1 t1 t2 => ⟨rfl, _, rfl, ite2 (fun _ => ?_) (fun _ => ?_)⟩⟩
      · refine ⟨_, rfl, d, 3, rfl, d1, by decide, fun H2 u b2 d2 u1 u2 => ⟨14, u, rfl, rfl, 14 + u, rfl, by omega, by omega, fun D' hD => ?_⟩⟩
        refine lc_it (walk_range (lo := 0) (n := (14 + u).toNat)) (fun j H' => Same H2 H' ∧ ∃ vs : List V, H' D' = some (.lst vs) ∧ vs.length = j ∧ Paired (RlAt K H') vs (List.replicate j ([0], []))) ⟨same_new hD, [], upd_same, rfl, .nil⟩ (fun _ _ _ _ => True.intro) (fun j x H3 H4 hj pp y => ?_) (fun H3 pp => ?_)
        · obtain ⟨rfl, rfl⟩ := y
          obtain ⟨e3, vs, z1, z2, z3⟩ := pp
          have hj16 : j < 16 := by omega
          refine ⟨rfl, ⟨by show 1 ≤ sizeLine; decide, fun p1 hp1 => ⟨by show 0 ≤ sizeLine; decide, fun p2 hp2 => ⟨by show 2 ≤ sizeLine; decide, fun p3 hp3 => ?_⟩⟩⟩⟩
          have f1 := same_new (o := .tup [.int 0]) hp1
          have f2 := same_new (o := .tup []) hp2
          have f3 := same_new (o := .tup [.ref p1, .ref p2]) hp3
          have f := (f1.trans f2).trans f3
          have zz := f _ _ z1
          have rl : RlAt K (upd (upd (upd H4 p1 (.tup [.int 0])) p2 (.tup [])) p3 (.tup [.ref p1, .ref p2])) (.ref p3) ([0], []) := ⟨p3, p1, p2, rfl, SqT.of upd_same, SqT.of ((f2.trans f3) _ _ upd_same), SqT.of (f3 _ _ upd_same)⟩
          have kk : Kp K (upd (upd (upd H4 p1 (.tup [.int 0])) p2 (.tup [])) p3 (.tup [.ref p1, .ref p2])) (upd (upd (upd (upd H4 p1 (.tup [.int 0])) p2 (.tup [])) p3 (.tup [.ref p1, .ref p2])) D' (.lst (vs ++ [.ref p3]))) := Kp.but (M := [D']) (ButN.of ((But.refl _ _).updM (by simp))) fun y hy => by
            rw [List.mem_singleton.mp hy]
            exact mut_lst zz
          refine ⟨vs, zz, small1000 (by omega), same_upd (e3.trans f) hD, vs ++ [.ref p3], upd_same, by rw [List.length_append, z2]; rfl, ?_⟩
          rw [List.replicate_succ']
          exact paired_snoc (Paired.mapP z3 fun _ _ h => kk.tk.rl ((Kp.same (K := K) f).tk.rl h)) (kk.tk.rl rl)
        · obtain ⟨e3, vs, z1, z2, z3⟩ := pp
          refine ⟨D', vs, rfl, .inl ⟨SqL.of z1, fun tt htt => ?_⟩⟩
          have f := same_new (o := .tup vs) htt
          obtain ⟨ds, y1, y2⟩ := d2
          exact k _ (.ref tt) (List.replicate (14 + u).toNat ([0], [])) ⟨ds, f _ _ (e3 _ _ y1), y2⟩ ⟨tt, vs, rfl, SqT.of upd_same, Paired.mapP z3 fun _ _ h => (Kp.same (K := K) f).tk.rl h⟩ (val_rep h1 _) (by rw [List.length_replicate]; omega) (((tabs_d K (tabs_d K hT dr b1) d1 b2).ext e3).ext f)
      · exact k H1 v R d1 ((kp_d (K := K) dr b1).rls hv) hV hlen (tabs_d K hT dr b1)
    case kind =>
      obtain ⟨d, a, p, nn, o, lb, lp, n, rv, r, Rs, cs, kd, x0, x3, x4, x9, x10, x11, rfl, hn, hrr, S, hle, k⟩ := h
      refine ⟨_, rfl, rfl, _, rfl, ite2 (fun _ => ?_) (fun _ => ?_)⟩
      · -- a branch
        have hd := S.desk
        have hlen := hd.len
        obtain ⟨Rs0, R, rfl⟩ := list_last (l := Rs) (fun z => by rw [z] at hlen; simp at hlen)
        obtain ⟨da, sa⟩ := hd.slt
        refine ⟨_, rfl, a, da, _, rfl, sa, a, p, nn, _, _, Rs0, R, _, rfl, hd, fun H1 x p' n' e1 hx hp' hn' hdx => ?_⟩
        have S1 := S.same e1
        obtain ⟨ot, ⟨bs, ob, obp⟩, ⟨ps, oc, ocp⟩⟩ := id S1.own
        refine ⟨_, rfl, o, _, _, _, rfl, rfl, ot, atI_nat (j := 0) rfl, lb, bs, rfl, .inl (SqL.of ob), fun l1 hl1 => ?_⟩
        have f1 := same_new (o := .lst bs) hl1
        refine ⟨_, rfl, o, _, _, _, rfl, rfl, same_tup f1 ot, atI_nat (j := 1) rfl, lp, ps, rfl, .inl (SqL.of (f1 _ _ oc)), fun l2 hl2 => ?_⟩
        have f2 := same_new (o := .lst ps) hl2
        refine ⟨by show 2 ≤ sizeLine; decide, fun tm htm => ?_⟩
        have f3 := same_new (o := .tup [.ref l1, .ref l2]) htm
        have f := (f1.trans f2).trans f3
        have S3 := S1.same f
        have hdx3 := hdx.same f
        have ow3 : OwnAt K (upd (upd (upd H1 l1 (.lst bs)) l2 (.lst ps)) tm (.tup [.ref l1, .ref l2])) tm l1 l2 (Rs0 ++ [R]) cs := ⟨.inl (.inl upd_same), ⟨bs, (f2.trans f3) _ _ upd_same, Paired.mapP obp fun _ _ => (Kp.same (K := K) f).rls⟩, ⟨ps, f3 _ _ upd_same, Paired.mapP ocp fun _ _ => (Kp.same (K := K) f).ch⟩⟩
        obtain ⟨ds, hds, _⟩ := id S.dr
        obtain ⟨bp, zp, _⟩ := id hdx.past
        obtain ⟨bn, zn, _⟩ := id hdx.notes
        have hl2' := same_gone f1 hl2
        have n12 : l1 ≠ l2 := ne_of_none upd_same hl2
        have nd2 : [d, p', n', l1, l2].Nodup := by
          simp [ne_of_none hds hp', ne_of_none hds hn', ne_of_none (e1 _ _ hds) hl1, ne_of_none (e1 _ _ hds) hl2', hdx.ne, ne_of_none zp hl1, ne_of_none zp hl2', ne_of_none zn hl1, ne_of_none zn hl2', n12]
        have SB : LawSt K n (upd (upd (upd H1 l1 (.lst bs)) l2 (.lst ps)) tm (.tup [.ref l1, .ref l2])) d x p' n' tm l1 l2 rv r (Rs0 ++ [R]) cs := ⟨S3.dr, hdx3, ow3, S3.rl, nd2, S3.tabs⟩
        have dsj : ∀ y ∈ [p, nn, lb, lp], y ∉ [d, p', n', l1, l2] := dis (H := H) (lists_in S.dr S.desk S.own) (fun y hy => by
          simp at hy
          rcases hy with rfl | rfl | rfl | rfl
          · exact hp'
          · exact hn'
          · exact same_gone e1 hl1
          · exact same_gone e1 hl2') S.nd
        refine ⟨_, _, rfl, 3, rfl, by decide, by decide, for_it (walk_range (lo := 0) (n := (3 : Int).toNat))
          (fun i σ H' => ∃ (y11 : Option V) (Rs2 : List (List Rl)) (cs2 : List Ch), σ = [x0, some (.ref d), some (.int (n : Nat)), x3, x4, some (.ref a), some (.ref o), some rv, some (.int (kd : Nat)), some (.ref x), some (.ref tm), y11] ∧ LawSt K n H' d a p nn o lb lp rv r (Rs0 ++ [R]) cs ∧ LawSt K n H' d x p' n' tm l1 l2 rv r Rs2 cs2 ∧ cs2.length ≤ cs.length + i)
          ⟨x11, _, _, rfl, S3, SB, Nat.le_add_right _ _⟩ (fun _ _ _ _ _ => True.intro) (fun i z σ H2 H3 hi pp y => ?_) (fun σ H2 pp => ?_)⟩
        · obtain ⟨rfl, rfl⟩ := y
          obtain ⟨y11, Rs2, cs2, rfl, SA, SB2, hl⟩ := pp
          have hi3 : i < 3 := hi
          refine ⟨_, rfl, _, rfl, _, rfl, _, rfl, SB2.step hn (by omega) fun H4 R4 c4 S4 hl4 N4 k4 => ⟨true, rfl, iteF ?_⟩⟩
          have SA4 := SA.other N4 k4 S4.dr S4.tabs fun y hy => by
            rcases List.mem_cons.mp hy with rfl | hy
            · intro hm
              obtain ⟨xs, hxs⟩ := lists_lst SB2.dr SB2.desk SB2.own _ hm
              exact SA.desk.notlst hxs rfl
            · exact dsj y hy
          exact ⟨_, rfl, _, rfl, _, rfl, _, rfl, SA4.right hn hrr (by omega) fun H5 S5 e5 T5 => ⟨true, rfl, iteF ⟨_, R4, c4, rfl, S5, S4.ext e5 T5, by omega⟩⟩⟩
        · obtain ⟨y11, Rs2, cs2, rfl, SA, SB2, hl⟩ := pp
          have hl3 : cs2.length ≤ cs.length + 3 := hl
          exact ⟨_, rfl, _, rfl, _, rfl, _, rfl, SB2.right hn hrr (by omega) fun H5 S5 e5 T5 => ⟨true, rfl, iteF (k H5 p nn _ cs _ _ _ (SA.ext e5 T5) (by omega))⟩⟩
      · refine ⟨_, rfl, rfl, _, rfl, ite2 (fun _ => ?_) (fun _ => ?_)⟩
        · exact ⟨_, rfl, _, rfl, _, rfl, _, rfl, _, rfl, _, rfl, S.takes (many := 3) (by decide) fun H1 t ht S1 => S1.att T hn hrr ht (by omega) fun H2 p' nn' S2 => ⟨true, rfl, iteF (k H2 p' nn' Rs cs _ _ _ S2 (by omega))⟩⟩
        · exact ⟨_, rfl, _, rfl, _, rfl, _, rfl, S.step hn (by omega) fun H2 R2 c2 S2 hl N k2 => ⟨true, rfl, iteF (k H2 p nn R2 c2 _ _ _ S2 hl)⟩⟩
    case main =>
      have ecut : cutV (zs.map V.int) none (some ((63 : Nat) : Int)) = (zs.take 63).map V.int := by rw [cut_to, List.map_take]
      refine ⟨_, rfl, 63, rfl, a0, _, rfl, ha0, fun p0 hp0 => ⟨by show 4 ≤ sizeLine; decide, fun g hg => ?_⟩⟩
      have e1 := same_new (o := .lst (cutV (zs.map V.int) none (some ((63 : Nat) : Int)))) hp0
      have e2 := same_new (o := .tup [.int 1009, .int 1013, .int 1000033, .int 1000037]) hg
      refine ⟨p0, g, zs.take 63, rfl, by rw [← ecut]; exact SqL.of (e2 _ _ upd_same), SqT.of upd_same, fun H1 l ns e3 hl h1 hns => ?_⟩
      have T1 := ((hT.ext e1).ext e2).ext e3
      have d1 : Drw H1 l := ⟨ns, h1, by omega⟩
      refine ⟨_, rfl, l, 4, rfl, d1, by decide, fun H2 t b2 d2 t1 t2 => ?_⟩
      obtain ⟨t', rfl⟩ := Int.eq_ofNat_of_zero_le t1
      have T2 := tabs_d K T1 d1 b2
      obtain ⟨n, hn⟩ : ∃ n : Nat, n = 1 + t' := ⟨_, rfl⟩
      have en : (1 : Int) + (t' : Nat) = (n : Nat) := by omega
      refine ⟨1, (t' : Nat), rfl, rfl, ?_⟩
      dsimp only
      rw [en]
      have hn1 : 1 ≤ n := by omega
      have hn5 : n ≤ 5 := by omega
      refine ⟨_, rfl, _, rfl, l, n, 4, rfl, d2, hn5, by decide, fun H3 v R b3 d3 hv hV hRl => ?_⟩
      refine ⟨_, none, l, n, v, R, _, rfl, hn1, hn5, d3, hv, hV, by omega, tabs_d K T2 d2 b3, fun H4 v' R' d4 hv4 hV4 hl4 T4 => ?_⟩
      have okB : OkB (n : Nat) R' := ⟨by omega, by omega, hV4, hl4⟩
      refine ⟨_, rfl, _, rfl, fun x dx hx hdx nx => ?_⟩
      have f1 : Same H4 (upd (upd H4 dx (.own x)) x (.ins (cB K) dx [])) := same_upd (same_new hdx) hx
      refine ⟨x, dx, (n : Nat), v', R', rfl, upd_same, by rw [upd_ne nx, upd_same], same_rls f1 hv4, okB, fun H5 b5 hbk => ⟨rfl, fun y dy hy hdy ny => ?_⟩⟩
      have f2 : Same H5 (upd (upd H5 dy (.own y)) y (.ins (cD K) dy [])) := same_upd (same_new hdy) hy
      refine ⟨y, dy, x, (n : Nat), R', rfl, upd_same, by rw [upd_ne ny, upd_same], same_book f2 hbk, okB, fun H6 p nn b6 hp hnn hd => ⟨rfl, ?_⟩⟩
      have S45 : Same H4 H5 := same_of_but (M := []) ((But.of f1).step b5 fun z hz => .inr (by
        rcases List.mem_cons.mp hz with rfl | hz
        · exact hx
        · rw [List.mem_singleton.mp hz]
          exact hdx)) (fun _ z => by cases z)
      have S56 : Same H5 H6 := same_of_but (M := []) ((But.of f2).step b6 fun z hz => .inr (by
        rcases List.mem_cons.mp hz with rfl | hz
        · exact hy
        · rw [List.mem_singleton.mp hz]
          exact hdy)) (fun _ z => by cases z)
      have S46 := S45.trans S56
      obtain ⟨ds, hds, hdk⟩ := d4
      have d6 : Drw H6 l := ⟨ds, S46 _ _ hds, hdk⟩
      have nlp : l ≠ p := ne_of_none (f2 _ _ (S45 _ _ hds)) hp
      have nln : l ≠ nn := ne_of_none (f2 _ _ (S45 _ _ hds)) hnn
      refine ⟨_, rfl, by show 1 ≤ sizeLine; decide, fun l1 hl1 => ⟨by show 0 ≤ sizeLine; decide, fun l2 hl2 => ⟨by show 2 ≤ sizeLine; decide, fun o ho => ⟨by show 2 ≤ sizeLine; decide, fun q0 hq0 => ⟨q0, _, rfl, SqT.of upd_same, rfl, _, _, rfl, _, _, rfl, rfl, ?_⟩⟩⟩⟩⟩
      have g1 := same_new (o := .lst [v']) hl1
      have g2 := same_new (o := .lst []) hl2
      have g3 := same_new (o := .tup [.ref l1, .ref l2]) ho
      have g4 := same_new (o := .tup [.ref y, .ref o]) hq0
      have S6 := ((g1.trans g2).trans g3).trans g4
      have nl1 : l ≠ l1 := ne_of_none (S46 _ _ hds) hl1
      have nl2 : l ≠ l2 := ne_of_none (g1 _ _ (S46 _ _ hds)) hl2
      have n12 : l1 ≠ l2 := ne_of_none upd_same hl2
      obtain ⟨bp, zp, _⟩ := id hd.past
      obtain ⟨bn, zn, _⟩ := id hd.notes
      have ow : OwnAt K (upd (upd (upd (upd H6 l1 (.lst [v'])) l2 (.lst [])) o (.tup [.ref l1, .ref l2])) q0 (.tup [.ref y, .ref o])) o l1 l2 [R'] [] :=
        ⟨SqT.of (g4 _ _ upd_same), ⟨[v'], ((g2.trans g3).trans g4) _ _ upd_same, .cons (same_rls S6 (same_rls S46 hv4)) .nil⟩, ⟨[], (g3.trans g4) _ _ upd_same, .nil⟩⟩
      have hd7 := hd.same S6
      have d7 : Drw (upd (upd (upd (upd H6 l1 (.lst [v'])) l2 (.lst [])) o (.tup [.ref l1, .ref l2])) q0 (.tup [.ref y, .ref o])) l := ⟨ds, S6 _ _ (S46 _ _ hds), hdk⟩
      have T7 := (T4.ext S46).ext S6
      have ndd : [l, p, nn, l1, l2].Nodup := by
        simp [nlp, nln, nl1, nl2, hd.ne, ne_of_none zp hl1, ne_of_none (g1 _ _ zp) hl2, ne_of_none zn hl1, ne_of_none (g1 _ _ zn) hl2, n12]
      refine ⟨_, rfl, _, rfl, l, n, 3, rfl, d7, hn5, by decide, fun H8 pa na b8 d8 ha8 hs8 => ⟨_, rfl, _, rfl, l, n, 2, rfl, d8, hn5, by decide, fun H9 pb nb b9 d9 hb9 hs9 => ⟨by show 2 ≤ sizeLine; decide, fun tt htt => ?_⟩⟩⟩
      have k1 := same_new (o := .tup [.ref pa, .ref pb]) htt
      have K89 := kp_d (K := K) d8 b9
      have S9 : LawSt K n (upd H9 tt (.tup [.ref pa, .ref pb])) l y p nn o l1 l2 (.ref tt) (na, nb) [R'] [] := by
        obtain ⟨ds9, w1, w2⟩ := id d9
        exact ⟨⟨ds9, k1 _ _ w1, w2⟩, ((hd7.drw d7 b8 nlp nln).drw d8 b9 nlp nln).same k1, ((ow.drw d7 b8 nl1 nl2).drw d8 b9 nl1 nl2).ext (LamX.ExtN.of k1), ⟨tt, pa, pb, rfl, SqT.of upd_same, same_tup k1 (K89.tk.tup ha8), same_tup k1 hb9⟩, ndd, (tabs_d K (tabs_d K T7 d7 b8) d8 b9).ext k1⟩
      have hrr : isRule (n : Nat) (na, nb) = true := by
        unfold isRule
        rw [hs8, hs9]
        rfl
      refine ⟨12, rfl, by decide, by decide, for_it (walk_range (lo := 0) (n := (12 : Int).toNat))
        (fun i σ H' => ∃ (p nn : Addr) (Rs : List (List Rl)) (cs : List Ch) (x4 x8 x9 x10 x11 : Option V), σ = [some (.ref a0), some (.ref l), some (.int (n : Nat)), some v', x4, some (.ref y), some (.ref o), some (.ref tt), x8, x9, x10, x11] ∧ LawSt K n H' l y p nn o l1 l2 (.ref tt) (na, nb) Rs cs ∧ cs.length ≤ i)
        ⟨p, nn, _, _, none, none, none, none, none, rfl, S9, Nat.le_refl _⟩ (fun _ _ _ _ _ => True.intro) (fun i z σ Ha Hb hi pp yy => ?_) (fun σ Ha pp => ?_)⟩
      · obtain ⟨rfl, rfl⟩ := yy
        obtain ⟨p, nn, Rs, cs, x4, x8, x9, x10, x11, rfl, S, hl⟩ := pp
        have hi12 : i < 12 := hi
        refine ⟨_, rfl, S.takes (many := 9) (by decide) fun H4 kd hkd S4 => ?_⟩
        refine ⟨l, y, p, nn, o, l1, l2, n, .ref tt, (na, nb), Rs, cs, kd, _, _, _, _, _, _, rfl, hn5, hrr, S4, by omega, fun H5 p' nn' Rs' cs' y9 y10 y11 S5 hl5 => ?_⟩
        exact ⟨_, rfl, _, rfl, _, rfl, _, rfl, S5.right hn5 hrr (by omega) fun H6 S6 e6 T6 => ⟨true, rfl, iteF ⟨p', nn', Rs', cs', _, _, y9, y10, y11, rfl, S6, by omega⟩⟩⟩
      · obtain ⟨p, nn, Rs, cs, x4, x8, x9, x10, x11, rfl, S, hl⟩ := pp
        have hl12 : cs.length ≤ 12 := hl
        refine ⟨S.tabs, fun Hc eN T' Q' hQ' => ?_⟩
        have hd' := S.desk.ext eN
        have hlen := hd'.len
        obtain ⟨Rs0, R0, rfl⟩ := list_last (l := Rs) (fun z => by rw [z] at hlen; simp at hlen)
        obtain ⟨da, sa⟩ := hd'.slt
        refine ⟨_, rfl, y, da, _, rfl, sa, _, rfl, by show 1 ≤ sizeLine; decide, fun u1 hu1 => ⟨by show 0 ≤ sizeLine; decide, fun u2 hu2 => ⟨by show 2 ≤ sizeLine; decide, fun u3 hu3 => ?_⟩⟩⟩
        have j1 := same_new (o := .tup [.int (n : Nat)]) hu1
        have j2 := same_new (o := .tup []) hu2
        have j3 := same_new (o := .tup [.ref u1, .ref u2]) hu3
        have e : decide (V.str (Str.ofString "rule") = V.str (Str.ofString "rule")) = true := decide_eq_true rfl
        refine ⟨y, p, nn, 0, (n : Nat), Rs0, R0, cs, .ref u3, rfl, hd'.same ((j1.trans j2).trans j3), by omega, .inl ⟨.inl ⟨([(n : Int)], []), ⟨u3, u1, u2, rfl, SqT.of upd_same, SqT.of ((j2.trans j3) _ _ upd_same), SqT.of (j3 _ _ upd_same)⟩, ⟨by show 1 ≤ 1000; decide, by show 0 ≤ 1000; decide⟩, isr_odd n⟩, fun Hd _ => .inr (.inr (.inl ⟨rfl, ?_⟩))⟩⟩
        refine ⟨rfl, ?_⟩
        rw [e]
        exact q _
end
end K47
set_option maxHeartbeats 0
namespace K47
open PySem PySem.Spec PyProof.Rows L2
def loose : List PySem.Str := (["_wall", "BookError", "BadBook", "BadRule", "BadIndex", "TooLarge", "BadPlace", "NothingDone", "MOST_MARKS", "MOST_RULES_books", "is_integer", "is_set", "is_rule", "is_within", "closure", "Book", "check_book", "check_rule", "MOST_RULES_desks", "Desk", "Trial", "_law_draw", "_law_cell_at", "_law_digits", "_law_take", "_law_pool", "_law_sets", "_law_within", "_law_set", "_law_rules"] : List PySem.Str) ++ (["_law_shut", "_law_closed_sets", "_law_closure", "_law_word", "_law_changed", "_law_is_right", "_law_change", "_law_do", "_law_step", "_law_inside_right", "_law_attempt_right"] : List PySem.Str)
theorem run (w : World) : HandSHeadRun.RunEq R (PySem.W.view R.prog [45]) (hookK 6) ob 6000 loose w := by
  intro os
  kernel_rfl
end K47
set_option maxHeartbeats 8000000
/-! ### the end -/
namespace K47
open PySem PySem.Spec PyProof.Rows L2
theorem ns_all {K : PySem.W.Frag} {ns : Addr} {x y : Str} (h : PySem.W.nsIn K ns y = some none) : PySem.W.nsIn K ns x ≠ none := by
  unfold PySem.W.nsIn at h ⊢
  cases q : K.lookup ns with
  | none =>
    rw [q] at h
    cases h
  | some u =>
    obtain ⟨c, d, dt, sl⟩ := u
    rw [q] at h
    cases dt with
    | dict es t =>
      have hk : es.toList.any (·.refKey) = false := by
        cases hf : es.toList.find? (·.key.isStr y) with
        | some e =>
          simp only [hf] at h
          cases h
        | none =>
          cases ha : es.toList.any (·.refKey) with
          | false => rfl
          | true =>
            simp only [hf, ha] at h
            cases h
      show (match es.toList.find? (·.key.isStr x) with
        | some e => some (some e.val)
        | none => if es.toList.any (·.refKey) then none else some none) ≠ none
      rw [hk]
      cases hf : es.toList.find? (·.key.isStr x) with
      | some e => exact fun z => by cases z
      | none => exact fun z => by cases z
    | _ => cases h
theorem law_at (w : World) (mg : Str → Option Value) (fa : Addr) (h : Heap) {K : PySem.W.Frag} (c : SaysK h K) (G : h.Ns mainGlobals mg) (hfa : mg ("law" : Str) = some (.ref fa)) : LamX.LawAtS PySem.Challenge.rw_ifthenbooks_k47_whole_desks w K CX0 32 63 "_law_script" mg fa h := by
  have T : TX K mg := ⟨h, c, G⟩
  obtain ⟨fd, F⟩ := T.fn_l_law
  have e : fa = He.fAd K ("law", none) := by
    have h0 : PySem.W.nsIn K mainGlobals "isinstance" = some none := He.eqO_ok (T.at_ 30 (f := .free "isinstance") rfl)
    cases q : PySem.W.nsIn K mainGlobals ("law" : Str) with
    | none => exact absurd q (ns_all h0)
    | some u =>
      cases u with
      | none =>
        have z := PySem.W.mg_none_of c.kin G q
        rw [hfa] at z
        cases z
      | some v =>
        have z := PySem.W.mg_of c.kin G q
        rw [hfa] at z
        have z2 := Option.some.inj z
        show fa = He.ga K "law"
        unfold He.ga
        rw [q, ← z2]
  subst e
  refine ⟨fd, tabDefs.map (He.cT K), sp_law K, fun p hp => ?_, fun p hp => ?_, fun p hp => ?_, fun s u => ?_, fun H a ns hl _ hH hS => ?_, fun base X N hB => ok_law T (fun p hp => hB _ (List.mem_map.mpr ⟨p, hp, rfl⟩)) F⟩
  · obtain ⟨q, hq, rfl⟩ := List.mem_map.mp hp
    exact c.empty q hq
  · obtain ⟨q, hq, rfl⟩ := List.mem_map.mp hp
    exact c.out q hq
  · obtain ⟨q, hq, rfl⟩ := List.mem_map.mp hp
    exact PySem.W.codeHd_of_K c.kin (c.hd q hq)
  · obtain ⟨oc, od, kV, doc, pm, an, cdv, ct, osl, rfl, lk, hcd⟩ := F.ex
    exact .of_eq rfl
  · refine ⟨a, ns, rfl, hS, fun p hp => ?_, fun _ => rfl⟩
    have hx : ∀ q ∈ tabDefs, H (He.cT K q).2 = some (.tbl #[]) := fun q hq => hH _ (List.mem_map.mpr ⟨q, hq, rfl⟩)
    simp only [tabT, List.mem_cons, List.not_mem_nil, or_false] at hp
    rcases hp with rfl | rfl | rfl | rfl | rfl
    · exact .nil (hx ("_law_sets", none) (by simp [tabDefs]))
    · exact .nil (hx ("_law_step", none) (by simp [tabDefs]))
    · exact .nil (hx ("_law_inside_right", none) (by simp [tabDefs]))
    · exact .nil (hx ("_law_attempt_right", none) (by simp [tabDefs]))
    · exact .nil (hx ("law", none) (by simp [tabDefs]))
end K47
open PySem PySem.W PySem.Calls PyProof.Rows
theorem PySem.Challenge.cw_ifthenbooks_k47_whole_desks_holds : PySem.Challenge.rw_ifthenbooks_k47_whole_desks.Holds := by
  w_on; o_law
  refine HandSHeadRun.head_any (r := OpenLaw.row PySem.Challenge.rw_ifthenbooks_k47_whole_desks) (q := view (OpenLaw.row PySem.Challenge.rw_ifthenbooks_k47_whole_desks).prog [45]) (H := K47.hookK 6) (ob := K47.ob) (M := 6000) (loose := K47.loose) (d := HandSHeadRun.topDef (OpenLaw.row PySem.Challenge.rw_ifthenbooks_k47_whole_desks).prog 45) (kwd := []) K47.ob_eq
    (by kernel_rfl) (fun s => by kernel_rfl) K47.run (by kernel_rfl) (by kernel_rfl) (by kernel_rfl) (by rfl) (by first | assumption | decide +kernel) (by decide +kernel) ⟨rfl, rfl, rfl, rfl, rfl, by decide +kernel⟩ ?hw ?hc
  case hw => w_witness2
  case hc =>
    refine LamX.walk_ofTsE (l := PySem.Challenge.rw_ifthenbooks_k47_whole_desks) (n := 63) (k := 32) (x := "_law_script") (CX := fun _ => L2.CX0) rfl (by decide) (by kernel_rfl) ⟨rfl, by decide, by decide⟩ ?F (fun _ _ _ _ _ z => z)
    intro w mg fa h Y G hmg0
    obtain ⟨K, c⟩ := Y
    have hmg : mg ("law" : PySem.Str) = some (.ref fa) := by
      have e : (HandSHeadRun.topDef (OpenLaw.row PySem.Challenge.rw_ifthenbooks_k47_whole_desks).prog 45).name = ("law" : PySem.Str) := by kernel_rfl
      rw [← e]
      exact hmg0
    exact ⟨K, c.kin, K47.law_at w mg fa h c G hmg⟩
