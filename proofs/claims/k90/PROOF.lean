import PyProof.Rows.All
import Wide.All
import OpenK.AllK
import Wide.FinOn
import HandS.ForMost
import HandS.Head0
import HandS.Head1
import HandS.Head2
import HandS.HeadEnd
import HandS.HeadHook1
import HandS.HeadHook2
import HandS.DictComp
import HandS.IsInst
import HandS.StrMore
import HandS.Deep
import HandS.Wide
import HandS.SortKw
import HandS.Property
import HandS.ClsMeth
import HandS.Flow
import HandS.More
import KE.SortData
import HandS.TupAny
import HandS.Style
import PyProof.EnumMake
import PyProof.StrOps2
import HandS.Star
import HandS.OwnEq
import PyProof.InstNe
import PyProof.DictUpdate
import KE.KParD
import HandS.Defaults
import HandS.FStr
import PyProof.NeKinds
import HandS.Ends
import PyProof.ReprRoads
import PyProof.StrLawsRepr
import PyProof.ReprLen
import PySem.Challenge.RW_dirservice_k90_scripts_there_and_back
set_option Elab.async false
set_option linter.all false
set_option maxRecDepth 100000
set_option maxHeartbeats 2000000
namespace DL
open PySem PySem.Spec PyProof PyProof.Rows L2 TL He
/-! ### what a head looks at -/
/-- one def, wherever it stands -/
structure DfX where
  adr : PySem.W.Frag → Addr
  name : Str
  qual : Str
  st : Stmt
  dfl : List Dv := []
def fnX (K : PySem.W.Frag) (a : Addr) : FnW := match K.lookup a with
  | some ⟨_, _, .func fd, _⟩ => some (fd.name, fd.qualname, fd.params, fd.body, fd.scope, fd.globals, fd.closure, fd.builtins)
  | _ => none
def DfX.val (d : DfX) : FnW := some (d.name, d.qual, defArgs d.st, .stmts (defBody d.st), defScope d.st, mainGlobals, [], builtinsNs)
def DfX.dvs (K : PySem.W.Frag) (d : DfX) : List V := d.dfl.map (Dv.v K)
def DfX.ok (K : PySem.W.Frag) (d : DfX) : Bool := PySem.W.keepIn K (.ref (d.adr K)) && (match K.lookup (d.adr K) with
  | some ⟨_, _, .func fd, _⟩ => PySem.W.codeIn K fd.code d.qual && dflB K fd.defaults (d.dvs K)
  | _ => false)
def prA (K : PySem.W.Frag) (p : Addr) (T : String) : Addr := match PySem.W.recIn K p T with
  | some (.ref g :: _) => g
  | _ => 0
/-- a property's getter, a classmethod's def -/
def prG (x m : Str) (K : PySem.W.Frag) : Addr := prA K (ma K (ga K x) m) "property"
def cmG (x m : Str) (K : PySem.W.Frag) : Addr := prA K (ma K (ga K x) m) "classmethod"
def glG (x : Str) (K : PySem.W.Frag) : Addr := ga K x
def meG (x m : Str) (K : PySem.W.Frag) : Addr := ma K (ga K x) m
def recB (K : PySem.W.Frag) (p : Addr) (T : String) : Bool := match PySem.W.recIn K p T with
  | some (.ref _ :: _) => true
  | _ => false
def obB (a b : Option Bool) : Bool := decide (a = b)
def propB (x m : Str) (K : PySem.W.Frag) : Bool := eqO (PySem.W.findIn K (.ref (ga K x)) m) (some (some (.ref (ma K (ga K x) m)))) && (eqO (PySem.W.specialIn K (.ref (ma K (ga K x) m)) "__get__") (some (some (.builtin "property.__get__"))) && (obB (PySem.W.takesIn K (.ref (ma K (ga K x) m))) (some true) && recB K (ma K (ga K x) m) "property"))
def cfB (a : Option PySem.W.CFound) (g v cls : Value) : Bool := match a with
  | some (.get g' v' n c') => g' == g && (v' == v && (n == .none && c' == cls))
  | _ => false
def cmB (x m : Str) (K : PySem.W.Frag) : Bool := PySem.W.readsIn K (ga K x) (.type "type") && (eqO (PySem.W.specialIn K (.ref (ga K x)) "__getattribute__") (some (some (.builtin "type.__getattribute__"))) &&
  (cfB (PySem.W.findCls K (.ref (ga K x)) (.type "type") m) (.builtin "classmethod.__get__") (.ref (ma K (ga K x) m)) (.ref (ga K x)) && (recB K (ma K (ga K x) m) "classmethod" && PySem.W.fnIn K (cmG x m K))))
def spB (x m : Str) (K : PySem.W.Frag) : Bool := eqO (PySem.W.findIn K (.ref (ga K x)) m) (some (some (.ref (ma K (ga K x) m)))) && (PySem.W.isFn K (.ref (ma K (ga K x) m)) && PySem.W.fnIn K (ma K (ga K x) m))
def insB (x : Str) (K : PySem.W.Frag) : Bool := (Fa.cls x).ok K && (eqO (PySem.W.findIn K (.ref (ga K x)) "__class__") (some (some (.builtin "object.__class__"))) && (eqO (PySem.W.specialIn K (.builtin "object.__class__") "__get__") (some (some (.builtin "getset_descriptor.__get__"))) &&
  (obB (PySem.W.takesIn K (.builtin "object.__class__")) (some true) && obB (PySem.W.mroIn K (ga K x) (.type "object")) (some true))))
def neB (x : Str) (K : PySem.W.Frag) : Bool := eqO (PySem.W.findIn K (.ref (ga K x)) "__ne__") (some (some (.builtin "object.__ne__")))
def kitF (T : String) (x : Str) (b : Bool) (K : PySem.W.Frag) : Bool := obB (PySem.W.kitOne K (.type T) (.ref (ga K x))) (some b)
def noLst (K : PySem.W.Frag) : Bool := K.all fun p => match p.2.cls with
  | .type n => n != "list"
  | _ => true
def asX (g : Addr → Option Obj) : Nat → List Addr
  | 0 => [mainGlobals, cStatics]
  | n + 1 => growD g (asX g n)
abbrev AlX : Type := Bool × List FnW
def obsX (fa : List (PySem.W.Frag → Bool)) (fn : List DfX) (K : PySem.W.Frag) : AlX := ((fa.all fun f => f K) && fn.all fun d => d.ok K, fn.map fun d => fnX K (d.adr K))
def valX (fn : List DfX) : AlX := (true, fn.map DfX.val)
def SaysX (fa : List (PySem.W.Frag → Bool)) (fn : List DfX) (K : PySem.W.Frag) : Prop := obsX fa fn K = valX fn
def obsXG (n : Nat) (fa : List (PySem.W.Frag → Bool)) (fn : List DfX) (g : Addr → Option Obj) : AlX := obsX fa fn (frG g (asX g n))
def hookX (n : Nat) (fa : List (PySem.W.Frag → Bool)) (fn : List DfX) : PySem.W.Hook where
  α := AlX
  obs := fun s => obsXG n fa fn s.heap.get?
  val := fun _ => valX fn
  says := fun _ h => ∃ K : PySem.W.Frag, K.In h ∧ SaysX fa fn K
  of := fun _ _ e => ⟨_, frG_in, e⟩
  keeps := fun _ _ _ ⟨K, hK, c⟩ k => ⟨K, PySem.W.Frag.In.keeps hK k, c⟩
theorem obsXG_eq {n : Nat} {fa : List (PySem.W.Frag → Bool)} {fn : List DfX} {g : Addr → Option Obj} {s : Shared} (h : ∀ a, g a = s.heap.get? a) : obsXG n fa fn g = (hookX n fa fn).obs s := by
  have e : g = s.heap.get? := funext h
  rw [e] <;> rfl
/-! ### a run in parts: what it leaves is looked at part by part -/
theorem obsX_app {fa fb : List (PySem.W.Frag → Bool)} {fn gn : List DfX} {K : PySem.W.Frag} (h1 : obsX fa fn K = valX fn) (h2 : obsX fb gn K = valX gn) : obsX (fa ++ fb) (fn ++ gn) K = valX (fn ++ gn) := by
  unfold obsX valX at *
  obtain ⟨a1, b1⟩ := Prod.mk.inj h1
  obtain ⟨a2, b2⟩ := Prod.mk.inj h2
  obtain ⟨a3, a4⟩ := Bool.and_eq_true_iff.mp a1
  obtain ⟨a5, a6⟩ := Bool.and_eq_true_iff.mp a2
  rw [List.all_append, List.all_append, List.map_append, List.map_append, a3, a4, a5, a6, b1, b2]
  rfl
theorem map3_app {α β γ : Type} {o : Option α} {a : α → β} {b : α → γ} {c1 c2 c3 : α → AlX} {x : β} {y : γ} {v1 v2 v3 : AlX} (h1 : o.map (fun s => (a s, b s, c1 s)) = some (x, y, v1)) (h2 : o.map (fun s => (a s, b s, c2 s)) = some (x, y, v2)) (h : ∀ s, c1 s = v1 → c2 s = v2 → c3 s = v3) :
    o.map (fun s => (a s, b s, c3 s)) = some (x, y, v3) := by
  cases o with
  | none => cases h1
  | some s =>
    have e1 := Option.some.inj h1
    have e2 := Option.some.inj h2
    obtain ⟨p1, p2⟩ := Prod.mk.inj e1
    obtain ⟨p2, p3⟩ := Prod.mk.inj p2
    obtain ⟨_, q2⟩ := Prod.mk.inj e2
    obtain ⟨_, q3⟩ := Prod.mk.inj q2
    show some (a s, b s, c3 s) = _
    rw [p1, p2, h s p3 q3]
theorem run_app {r : PySem.W.OpenRow} {q : Program} {n M : Nat} {loose : List PySem.Str} {w : World} {fa fb : List (PySem.W.Frag → Bool)} {fn gn : List DfX} (h1 : HandSHeadRun.RunEq r q (hookX n fa fn) (fun s => obsXG n fa fn (HandSHeadRun.getT s)) M loose w) (h2 : HandSHeadRun.RunEq r q (hookX n fb gn) (fun s => obsXG n fb gn (HandSHeadRun.getT s)) M loose w) :
    HandSHeadRun.RunEq r q (hookX n (fa ++ fb) (fn ++ gn)) (fun s => obsXG n (fa ++ fb) (fn ++ gn) (HandSHeadRun.getT s)) M loose w := fun os =>
  map3_app (h1 os) (h2 os) fun s e1 e2 => obsX_app e1 e2
end DL

set_option Elab.async false
set_option linter.all false
set_option maxRecDepth 100000
set_option maxHeartbeats 0
namespace K86
open PySem PySem.Spec PyProof PyProof.Rows L2 TL DL He
def top (i : Nat) : Stmt := PySem.Challenge.pw_dirservice_k90_scripts_there_and_back.main.body.getD i (.Pass ⟨0, 0, 0, 0⟩)
/-! ### the facts of the head -/
def fa1 : List (PySem.W.Frag → Bool) := [fun K => (Fa.free "len").ok K,
  fun K => (Fa.free "isinstance").ok K,
  fun K => (Fa.free "all").ok K,
  fun K => (Fa.free "str").ok K,
  fun K => (Fa.free "dict").ok K,
  fun K => (Fa.free "tuple").ok K,
  fun K => (Fa.free "list").ok K,
  fun K => (Fa.free "int").ok K,
  fun K => (Fa.free "max").ok K,
  fun K => (Fa.free "min").ok K,
  fun K => (Fa.free "sorted").ok K,
  fun K => (Fa.free "enumerate").ok K,
  fun K => (Fa.free "range").ok K,
  fun K => (Fa.free "repr").ok K,
  fun K => (Fa.int "MAX_WORD" 12).ok K,
  fun K => (Fa.int "MAX_TEXT" 60).ok K,
  fun K => (Fa.int "MAX_PAIRS" 4).ok K,
  fun K => (Fa.int "MAX_LEAVES" 12).ok K,
  fun K => (Fa.int "MAX_VALUE" 60).ok K,
  fun K => (Fa.int "MAX_DIGITS" 30).ok K,
  fun K => (Fa.str "LETTERS" ⟨#[97, 98, 99, 100, 101, 102, 103, 104, 105, 106, 107, 108, 109, 110, 111, 112, 113, 114, 115, 116, 117, 118, 119, 120, 121, 122]⟩).ok K,
  fun K => (Fa.str "BACKSLASH" ⟨#[92]⟩).ok K,
  fun K => (Fa.str "ESCAPED" ⟨#[44, 43, 61, 92]⟩).ok K,
  fun K => (Fa.str "NEWLINE" ⟨#[10]⟩).ok K,
  fun K => (Fa.str "COLON" ⟨#[58, 32]⟩).ok K,
  fun K => (Fa.str "DIGITS" ⟨#[48, 49, 50, 51, 52, 53, 54, 55, 56, 57]⟩).ok K,
  fun K => (Fa.str "ADD" ⟨#[97, 100, 100, 58, 32]⟩).ok K,
  fun K => (Fa.str "DELETE" ⟨#[100, 101, 108, 101, 116, 101, 58, 32]⟩).ok K,
  fun K => (Fa.str "MODIFY" ⟨#[109, 111, 100, 105, 102, 121, 58, 32]⟩).ok K,
  fun K => (Fa.str "RENAME" ⟨#[114, 101, 110, 97, 109, 101, 58, 32]⟩).ok K,
  fun K => (Fa.str "LEAF" ⟨#[108, 101, 97, 102, 58, 32]⟩).ok K,
  fun K => (Fa.str "UNDER" ⟨#[117, 110, 100, 101, 114, 58, 32]⟩).ok K,
  fun K => (Fa.str "KEEP" ⟨#[107, 101, 101, 112, 58, 32, 84, 82, 85, 69]⟩).ok K,
  fun K => (Fa.str "VALUE" ⟨#[61, 32]⟩).ok K,
  fun K => (Fa.str "INCREMENT" ⟨#[105, 110, 99, 114, 101, 109, 101, 110, 116]⟩).ok K,
  fun K => (Fa.glo "CHANGES").ok K,
  fun K => tupB K "CHANGES" [.str ⟨#[97, 100, 100]⟩, .str ⟨#[100, 101, 108, 101, 116, 101]⟩, .str ⟨#[114, 101, 112, 108, 97, 99, 101]⟩],
  fun K => (Fa.glo "value_lines").ok K]
def fa2 : List (PySem.W.Frag → Bool) := [fun K => (Fa.glo "change_lines").ok K,
  fun K => (Fa.glo "deed_lines").ok K,
  fun K => (Fa.glo "script_text").ok K,
  fun K => (Fa.glo "is_word").ok K,
  fun K => (Fa.glo "escaped").ok K,
  fun K => (Fa.glo "value_at").ok K,
  fun K => (Fa.glo "is_value").ok K,
  fun K => (Fa.glo "plain_text").ok K,
  fun K => (Fa.glo "is_plain").ok K,
  fun K => (Fa.glo "read_name").ok K,
  fun K => (Fa.glo "read_attributes").ok K,
  fun K => (Fa.glo "leaf_text").ok K,
  fun K => (Fa.glo "normal_leaf").ok K,
  fun K => (Fa.glo "order_of").ok K,
  fun K => (Fa.glo "need_name").ok K,
  fun K => (Fa.glo "need_table").ok K,
  fun K => (Fa.glo "read_block").ok K,
  fun K => (Fa.glo "is_integer_text").ok K,
  fun K => (Fa.glo "is_valid").ok K,
  fun K => (Fa.glo "read_change").ok K,
  fun K => (Fa.glo "read_modify").ok K,
  fun K => (Fa.glo "read_rename").ok K,
  fun K => (Fa.glo "read_deed").ok K,
  fun K => (Fa.glo "read_script").ok K,
  fun K => (Fa.glo "_law_begun").ok K,
  fun K => (Fa.glo "_law_draw").ok K,
  fun K => (Fa.glo "_law_pick").ok K,
  fun K => (Fa.glo "_law_escaped").ok K,
  fun K => (Fa.glo "_law_name").ok K,
  fun K => (Fa.glo "_law_value").ok K,
  fun K => (Fa.glo "_law_table").ok K,
  fun K => (Fa.glo "_law_string").ok K,
  fun K => (Fa.glo "_law_drawn_change").ok K,
  fun K => (Fa.glo "_law_deed").ok K,
  fun K => (Fa.glo "_law_entry_lines").ok K,
  fun K => (Fa.glo "_law_deed_lines").ok K,
  fun K => (Fa.glo "_law_script_lines").ok K,
  fun K => (Fa.glo "_law_is_same").ok K]
def fa3 : List (PySem.W.Frag → Bool) := [fun K => (Fa.glo "_law_by_hand").ok K,
  fun K => (Fa.glo "law").ok K,
  fun K => (Fa.glo "Name").ok K,
  fun K => (Fa.glo "Entry").ok K,
  fun K => (Fa.glo "Reading").ok K,
  fun K => (Fa.cls "Name").ok K,
  fun K => (Fa.cls "Entry").ok K,
  fun K => (Fa.cls "Reading").ok K,
  kitF "str" "Name" false,
  insB "Name",
  insB "Entry",
  fun K => (Fa.noat "Name" "own_text").ok K,
  fun K => (Fa.noat "Name" "own_leaves").ok K,
  fun K => (Fa.noat "Name" "own_order").ok K,
  fun K => (Fa.noat "Entry" "own_name").ok K,
  fun K => (Fa.noat "Entry" "own_table").ok K,
  fun K => (Fa.noat "Entry" "own_key").ok K,
  fun K => (Fa.noat "Reading" "own_lines").ok K,
  fun K => (Fa.noat "Reading" "own_at").ok K,
  fun K => (Fa.mkr "Name").ok K,
  fun K => (Fa.mkr "Entry").ok K,
  fun K => (Fa.mkr "Reading").ok K,
  propB "Entry" "name",
  propB "Name" "text",
  propB "Entry" "words",
  spB "Entry" "__getitem__",
  fun K => (Fa.meth "Reading" "is_at_end").ok K,
  fun K => (Fa.meth "Reading" "go_on").ok K,
  fun K => (Fa.meth "Reading" "ends_block").ok K,
  fun K => (Fa.meth "Reading" "begins_with").ok K,
  fun K => (Fa.meth "Reading" "next_line").ok K,
  fun K => (Fa.meth "Reading" "rest_behind").ok K,
  fun K => (Fa.meth "Reading" "name_behind").ok K,
  cmB "Entry" "of",
  spB "Entry" "__eq__",
  noLst]
def faL : List (PySem.W.Frag → Bool) := fa1 ++ (fa2 ++ (fa3))
def d_Entry_name : DfX := ⟨prG "Entry" "name", "name", "Entry.name", (inClass (top 31) 2), []⟩
def d_Name_text : DfX := ⟨prG "Name" "text", "text", "Name.text", (inClass (top 26) 2), []⟩
def d_Entry_words : DfX := ⟨prG "Entry" "words", "words", "Entry.words", (inClass (top 31) 3), []⟩
def d_Entry___getitem__ : DfX := ⟨meG "Entry" "__getitem__", "__getitem__", "Entry.__getitem__", (inClass (top 31) 4), []⟩
def d_value_lines : DfX := ⟨glG "value_lines", "value_lines", "value_lines", (top 52), []⟩
def d_change_lines : DfX := ⟨glG "change_lines", "change_lines", "change_lines", (top 53), []⟩
def d_deed_lines : DfX := ⟨glG "deed_lines", "deed_lines", "deed_lines", (top 54), []⟩
def d_script_text : DfX := ⟨glG "script_text", "script_text", "script_text", (top 55), []⟩
def d_Reading_is_at_end : DfX := ⟨meG "Reading" "is_at_end", "is_at_end", "Reading.is_at_end", (inClass (top 56) 2), []⟩
def d_Reading_go_on : DfX := ⟨meG "Reading" "go_on", "go_on", "Reading.go_on", (inClass (top 56) 5), []⟩
def d_Reading___init__ : DfX := ⟨meG "Reading" "__init__", "__init__", "Reading.__init__", (inClass (top 56) 0), []⟩
def d_Reading_ends_block : DfX := ⟨meG "Reading" "ends_block", "ends_block", "Reading.ends_block", (inClass (top 56) 3), []⟩
def d_Reading_begins_with : DfX := ⟨meG "Reading" "begins_with", "begins_with", "Reading.begins_with", (inClass (top 56) 6), []⟩
def d_Reading_next_line : DfX := ⟨meG "Reading" "next_line", "next_line", "Reading.next_line", (inClass (top 56) 4), []⟩
def d_Reading_rest_behind : DfX := ⟨meG "Reading" "rest_behind", "rest_behind", "Reading.rest_behind", (inClass (top 56) 7), []⟩
def d_is_word : DfX := ⟨glG "is_word", "is_word", "is_word", (top 14), []⟩
def d_escaped : DfX := ⟨glG "escaped", "escaped", "escaped", (top 18), []⟩
def d_value_at : DfX := ⟨glG "value_at", "value_at", "value_at", (top 19), []⟩
def d_is_value : DfX := ⟨glG "is_value", "is_value", "is_value", (top 15), []⟩
def d_plain_text : DfX := ⟨glG "plain_text", "plain_text", "plain_text", (top 16), []⟩
def d_is_plain : DfX := ⟨glG "is_plain", "is_plain", "is_plain", (top 17), []⟩
def d_read_name : DfX := ⟨glG "read_name", "read_name", "read_name", (top 20), []⟩
def d_Reading_name_behind : DfX := ⟨meG "Reading" "name_behind", "name_behind", "Reading.name_behind", (inClass (top 56) 8), []⟩
def d_read_attributes : DfX := ⟨glG "read_attributes", "read_attributes", "read_attributes", (top 57), []⟩
def d_leaf_text : DfX := ⟨glG "leaf_text", "leaf_text", "leaf_text", (top 21), []⟩
def d_normal_leaf : DfX := ⟨glG "normal_leaf", "normal_leaf", "normal_leaf", (top 22), []⟩
def d_order_of : DfX := ⟨glG "order_of", "order_of", "order_of", (top 23), []⟩
def d_Name___init__ : DfX := ⟨meG "Name" "__init__", "__init__", "Name.__init__", (inClass (top 26) 0), [.str ⟨#[]⟩]⟩
def d_need_name : DfX := ⟨glG "need_name", "need_name", "need_name", (top 28), []⟩
def d_need_table : DfX := ⟨glG "need_table", "need_table", "need_table", (top 30), []⟩
def d_Entry___init__ : DfX := ⟨meG "Entry" "__init__", "__init__", "Entry.__init__", (inClass (top 31) 0), []⟩
def d_Entry_of : DfX := ⟨cmG "Entry" "of", "of", "Entry.of", (inClass (top 31) 1), []⟩
def d_read_block : DfX := ⟨glG "read_block", "read_block", "read_block", (top 58), []⟩
def d_is_integer_text : DfX := ⟨glG "is_integer_text", "is_integer_text", "is_integer_text", (top 37), []⟩
def d_is_valid : DfX := ⟨glG "is_valid", "is_valid", "is_valid", (top 38), []⟩
def d_read_change : DfX := ⟨glG "read_change", "read_change", "read_change", (top 59), []⟩
def d_read_modify : DfX := ⟨glG "read_modify", "read_modify", "read_modify", (top 60), []⟩
def d_read_rename : DfX := ⟨glG "read_rename", "read_rename", "read_rename", (top 61), []⟩
def d_read_deed : DfX := ⟨glG "read_deed", "read_deed", "read_deed", (top 62), []⟩
def d_read_script : DfX := ⟨glG "read_script", "read_script", "read_script", (top 63), []⟩
def d__law_begun : DfX := ⟨glG "_law_begun", "_law_begun", "_law_begun", (top 65), []⟩
def d__law_draw : DfX := ⟨glG "_law_draw", "_law_draw", "_law_draw", (top 66), []⟩
def d__law_pick : DfX := ⟨glG "_law_pick", "_law_pick", "_law_pick", (top 67), []⟩
def d__law_escaped : DfX := ⟨glG "_law_escaped", "_law_escaped", "_law_escaped", (top 70), []⟩
def d__law_name : DfX := ⟨glG "_law_name", "_law_name", "_law_name", (top 71), []⟩
def d__law_value : DfX := ⟨glG "_law_value", "_law_value", "_law_value", (top 68), []⟩
def d__law_table : DfX := ⟨glG "_law_table", "_law_table", "_law_table", (top 69), []⟩
def d__law_string : DfX := ⟨glG "_law_string", "_law_string", "_law_string", (top 73), []⟩
def d__law_drawn_change : DfX := ⟨glG "_law_drawn_change", "_law_drawn_change", "_law_drawn_change", (top 74), []⟩
def d__law_deed : DfX := ⟨glG "_law_deed", "_law_deed", "_law_deed", (top 75), []⟩
def d__law_entry_lines : DfX := ⟨glG "_law_entry_lines", "_law_entry_lines", "_law_entry_lines", (top 72), []⟩
def d__law_deed_lines : DfX := ⟨glG "_law_deed_lines", "_law_deed_lines", "_law_deed_lines", (top 76), []⟩
def d__law_script_lines : DfX := ⟨glG "_law_script_lines", "_law_script_lines", "_law_script_lines", (top 77), []⟩
def d_Entry___eq__ : DfX := ⟨meG "Entry" "__eq__", "__eq__", "Entry.__eq__", (inClass (top 31) 7), []⟩
def d__law_is_same : DfX := ⟨glG "_law_is_same", "_law_is_same", "_law_is_same", (top 78), []⟩
def d__law_by_hand : DfX := ⟨glG "_law_by_hand", "_law_by_hand", "_law_by_hand", (top 79), []⟩
def d_law : DfX := ⟨glG "law", "law", "law", (top 80), []⟩
def fnL1 : List DfX := [d_Entry_name, d_Name_text, d_Entry_words, d_Entry___getitem__, d_value_lines, d_change_lines, d_deed_lines, d_script_text, d_Reading_is_at_end, d_Reading_go_on, d_Reading___init__, d_Reading_ends_block, d_Reading_begins_with, d_Reading_next_line, d_Reading_rest_behind, d_is_word, d_escaped, d_value_at, d_is_value]
def fnL2 : List DfX := [d_plain_text, d_is_plain, d_read_name, d_Reading_name_behind, d_read_attributes, d_leaf_text, d_normal_leaf, d_order_of, d_Name___init__, d_need_name, d_need_table, d_Entry___init__, d_Entry_of, d_read_block, d_is_integer_text, d_is_valid, d_read_change, d_read_modify, d_read_rename]
def fnL3 : List DfX := [d_read_deed, d_read_script, d__law_begun, d__law_draw, d__law_pick, d__law_escaped, d__law_name, d__law_value, d__law_table, d__law_string, d__law_drawn_change, d__law_deed, d__law_entry_lines, d__law_deed_lines, d__law_script_lines, d_Entry___eq__, d__law_is_same, d__law_by_hand, d_law]
def fnL : List DfX := fnL1 ++ (fnL2 ++ (fnL3))
abbrev Rw : PySem.W.OpenRow := PySem.W.OpenLaw.row PySem.Challenge.rw_dirservice_k90_scripts_there_and_back
def names0 : List PySem.Str := ["_wall", "Invalid", "BadName", "BadEntry", "BadText", "LETTERS", "MAX_WORD", "MAX_TEXT", "MAX_PAIRS", "MAX_LEAVES", "BACKSLASH", "ESCAPED", "is_word", "is_value", "plain_text", "is_plain", "escaped", "value_at", "read_name", "leaf_text", "normal_leaf", "order_of", "is_leaf_text", "Name", "need_leaf", "need_name", "need_table", "Entry", "TRUTHS", "MAX_VALUE"]
def names1 : List PySem.Str := ["MAX_DIGITS", "DIGITS", "is_integer_text", "is_valid", "NEWLINE", "COLON", "ADD", "DELETE", "MODIFY", "RENAME", "LEAF", "UNDER", "KEEP", "VALUE", "CHANGES", "INCREMENT", "value_lines", "change_lines", "deed_lines", "script_text", "Reading", "read_attributes", "read_block", "read_change", "read_modify", "read_rename", "read_deed", "read_script", "_law_begun", "_law_draw"]
def names2 : List PySem.Str := ["_law_pick", "_law_value", "_law_table", "_law_escaped", "_law_name", "_law_entry_lines", "_law_string", "_law_drawn_change", "_law_deed", "_law_deed_lines", "_law_script_lines", "_law_is_same", "_law_by_hand"]
def names : List PySem.Str := names0 ++ names1 ++ names2
abbrev hk : PySem.W.Hook := hookX 6 faL fnL
def ob (s : PySem.W.SharedT) : AlX := obsXG 6 faL fnL (HandSHeadRun.getT s)
theorem ob_eq (s : PySem.W.SharedT) : ob s = hk.obs s.abs := obsXG_eq (HandSHeadRun.getT_eq s)
theorem run1 (w : World) : HandSHeadRun.RunEq Rw (PySem.W.view Rw.prog [80]) (hookX 6 fa1 fnL1) (fun s => obsXG 6 fa1 fnL1 (HandSHeadRun.getT s)) 8000 names w := by
  intro os
  kernel_rfl
theorem run2 (w : World) : HandSHeadRun.RunEq Rw (PySem.W.view Rw.prog [80]) (hookX 6 fa2 fnL2) (fun s => obsXG 6 fa2 fnL2 (HandSHeadRun.getT s)) 8000 names w := by
  intro os
  kernel_rfl
theorem run3 (w : World) : HandSHeadRun.RunEq Rw (PySem.W.view Rw.prog [80]) (hookX 6 fa3 fnL3) (fun s => obsXG 6 fa3 fnL3 (HandSHeadRun.getT s)) 8000 names w := by
  intro os
  kernel_rfl
theorem run (w : World) : HandSHeadRun.RunEq Rw (PySem.W.view Rw.prog [80]) hk ob 8000 names w := run_app (run1 w) (run_app (run2 w) (run3 w))
end K86

set_option Elab.async false
set_option linter.all false
set_option maxRecDepth 100000
set_option maxHeartbeats 2000000
namespace DL
open PySem PySem.Spec PyProof.Rows L2

/-! ### data: values as trees, with no heap -/
inductive D where
  | non | bl (b : Bool) | int (i : Int) | str (s : List Nat)
  | tup (ds : List D) | lst (ds : List D)
  | dct (ks : List (List Nat)) (ds : List D)
  | ldct (ks : List (List Nat)) (ds : List D)
  | obj (C : Addr) (ns : List Str) (ds : List D)
  | raw (v : V)

abbrev mkS (l : List Nat) : Str := ⟨l.toArray⟩
def keyV (k : List Nat) : Key := Sum.inr (mkS k)

/-- plain things -/
def Pl : HO → Prop
  | .frz _ _ => False
  | _ => True

mutual
def Rep (K : PySem.W.Frag) (F : Hp) : D → V → Prop
  | .non, v => v = .non
  | .bl b, v => v = .bl b
  | .int i, v => v = .int i
  | .str s, v => v = .str (mkS s)
  | .tup ds, v => ∃ a vs, v = .ref a ∧ SqT K F a vs ∧ Reps K F ds vs
  | .lst ds, v => ∃ a vs, v = .ref a ∧ Rd F a (.lst vs) ∧ Reps K F ds vs
  | .dct ks ds, v => ∃ a vs, v = .ref a ∧ ks.length = ds.length ∧ Rd F a (.dK ((ks.map keyV).zip vs)) ∧ Reps K F ds vs
  | .ldct ks ds, v => ∃ a vs, v = .ref a ∧ ks.length = ds.length ∧ (∃ o, F a = some (.frz o (.dK ((ks.map keyV).zip vs)))) ∧ Reps K F ds vs
  | .obj C ns ds, v => ∃ a dx vs, v = .ref a ∧ ns.length = ds.length ∧ F a = some (.ins C dx (ns.zip vs)) ∧ Reps K F ds vs
  | .raw w, v => v = w
def Reps (K : PySem.W.Frag) (F : Hp) : List D → List V → Prop
  | [], vs => vs = []
  | d :: r, vs => ∃ v w, vs = v :: w ∧ Rep K F d v ∧ Reps K F r w
end

/-- what was known is known: reading alone -/
def Le0 (F F' : Hp) : Prop := (∀ a u, Pl u → Rd F a u → Rd F' a u) ∧ ∀ a C dx fs, F a = some (.ins C dx fs) → F' a = some (.ins C dx fs)
/-- .. and what is locked is locked -/
structure Le (F F' : Hp) : Prop where
  l0 : Le0 F F'
  lk : ∀ a o u, F a = some (.frz o u) → F' a = some (.frz o u)
theorem Le0.trans {F G H : Hp} (a : Le0 F G) (b : Le0 G H) : Le0 F H := ⟨fun x u p h => b.1 x u p (a.1 x u p h), fun x C d f h => b.2 x C d f (a.2 x C d f h)⟩
theorem Le.refl (F : Hp) : Le F F := ⟨⟨fun _ _ _ h => h, fun _ _ _ _ h => h⟩, fun _ _ _ h => h⟩
theorem Le.trans {F G H : Hp} (a : Le F G) (b : Le G H) : Le F H := ⟨a.l0.trans b.l0, fun x o u h => b.lk x o u (a.lk x o u h)⟩
theorem Le.of {F F' : Hp} (h : ∀ a u, F a = some u → F' a = some u) : Le F F' := ⟨⟨fun a u _ r => by
  rcases r with r | ⟨o, r⟩
  · exact .inl (h a u r)
  · exact .inr ⟨o, h a _ r⟩, fun a C dx fs e => h a _ e⟩, fun a o u e => h a _ e⟩
theorem Le.new {F : Hp} {a : Addr} {o : HO} (h : F a = none) : Le F (upd F a o) := .of fun b u e => by
  rw [upd_ne (ne_of_none e h)]
  exact e

section
variable {K : PySem.W.Frag} {F F' : Hp}
theorem sqL_mono (l : Le0 F F') {a : Addr} {xs : List V} (h : SqL K F a xs) : SqL K F' a xs := by
  rcases h with h | h
  · exact .inl (l.1 a _ trivial h)
  · exact .inr h
theorem sqT_mono (l : Le0 F F') {a : Addr} {xs : List V} (h : SqT K F a xs) : SqT K F' a xs := by
  rcases h with h | h
  · exact .inl (l.1 a _ trivial h)
  · exact .inr h
mutual
theorem Rep.mono (l : Le F F') : ∀ {d : D} {v : V}, Rep K F d v → Rep K F' d v
  | .non, _, h => h
  | .bl _, _, h => h
  | .int _, _, h => h
  | .str _, _, h => h
  | .raw _, _, h => h
  | .tup ds, v, h => by
    obtain ⟨a, vs, e, s, r⟩ := h
    exact ⟨a, vs, e, sqT_mono l.l0 s, Reps.mono l r⟩
  | .lst ds, v, h => by
    obtain ⟨a, vs, e, s, r⟩ := h
    exact ⟨a, vs, e, l.l0.1 _ _ trivial s, Reps.mono l r⟩
  | .dct ks ds, v, h => by
    obtain ⟨a, vs, e, n, s, r⟩ := h
    exact ⟨a, vs, e, n, l.l0.1 _ _ trivial s, Reps.mono l r⟩
  | .ldct ks ds, v, h => by
    obtain ⟨a, vs, e, n, ⟨o, s⟩, r⟩ := h
    exact ⟨a, vs, e, n, ⟨o, l.lk _ _ _ s⟩, Reps.mono l r⟩
  | .obj C ns ds, v, h => by
    obtain ⟨a, dx, vs, e, n, s, r⟩ := h
    exact ⟨a, dx, vs, e, n, l.l0.2 _ _ _ _ s, Reps.mono l r⟩
theorem Reps.mono (l : Le F F') : ∀ {ds : List D} {vs : List V}, Reps K F ds vs → Reps K F' ds vs
  | [], _, h => h
  | d :: r, vs, h => by
    obtain ⟨v, w, e, h1, h2⟩ := h
    exact ⟨v, w, e, Rep.mono l h1, Reps.mono l h2⟩
end
/-! locks taken off -/
mutual
def unL : D → D
  | .tup ds => .tup (unLs ds)
  | .lst ds => .lst (unLs ds)
  | .dct ks ds => .dct ks (unLs ds)
  | .ldct ks ds => .dct ks (unLs ds)
  | .obj C ns ds => .obj C ns (unLs ds)
  | d => d
def unLs : List D → List D
  | [] => []
  | d :: r => unL d :: unLs r
end
theorem unLs_len : ∀ ds : List D, (unLs ds).length = ds.length
  | [] => rfl
  | _ :: r => by rw [unLs, List.length_cons, List.length_cons, unLs_len r]
mutual
theorem Rep.unl (l : Le0 F F') : ∀ {d : D} {v : V}, Rep K F d v → Rep K F' (unL d) v
  | .non, _, h => h
  | .bl _, _, h => h
  | .int _, _, h => h
  | .str _, _, h => h
  | .raw _, _, h => h
  | .tup ds, v, h => by
    obtain ⟨a, vs, e, s, r⟩ := h
    exact ⟨a, vs, e, sqT_mono l s, Reps.unl l r⟩
  | .lst ds, v, h => by
    obtain ⟨a, vs, e, s, r⟩ := h
    exact ⟨a, vs, e, l.1 _ _ trivial s, Reps.unl l r⟩
  | .dct ks ds, v, h => by
    obtain ⟨a, vs, e, n, s, r⟩ := h
    exact ⟨a, vs, e, n.trans (unLs_len ds).symm, l.1 _ _ trivial s, Reps.unl l r⟩
  | .ldct ks ds, v, h => by
    obtain ⟨a, vs, e, n, ⟨o, s⟩, r⟩ := h
    exact ⟨a, vs, e, n.trans (unLs_len ds).symm, l.1 _ _ trivial (.inr ⟨o, s⟩), Reps.unl l r⟩
  | .obj C ns ds, v, h => by
    obtain ⟨a, dx, vs, e, n, s, r⟩ := h
    exact ⟨a, dx, vs, e, n.trans (unLs_len ds).symm, l.2 _ _ _ _ s, Reps.unl l r⟩
theorem Reps.unl (l : Le0 F F') : ∀ {ds : List D} {vs : List V}, Reps K F ds vs → Reps K F' (unLs ds) vs
  | [], _, h => h
  | d :: r, vs, h => by
    obtain ⟨v, w, e, h1, h2⟩ := h
    exact ⟨v, w, e, Rep.unl l h1, Reps.unl l h2⟩
end
theorem Reps.length : ∀ {ds : List D} {vs : List V}, Reps K F ds vs → ds.length = vs.length
  | [], _, h => by cases h; rfl
  | d :: r, vs, h => by
    obtain ⟨v, w, e, h1, h2⟩ := h
    subst e
    simp [Reps.length h2]
theorem Reps.get : ∀ {ds : List D} {vs : List V} {i : Nat} {d : D}, Reps K F ds vs → ds[i]? = some d → ∃ v, vs[i]? = some v ∧ Rep K F d v
  | [], _, i, d, _, e => by simp at e
  | d :: r, vs, 0, x, h, e => by
    obtain ⟨v, w, e2, h1, h2⟩ := h
    subst e2
    have e : d = x := Option.some.inj e
    subst e
    exact ⟨v, rfl, h1⟩
  | d :: r, vs, i + 1, x, h, e => by
    obtain ⟨v, w, e2, h1, h2⟩ := h
    subst e2
    exact Reps.get (i := i) h2 e
theorem Reps.get' : ∀ {ds : List D} {vs : List V} {i : Nat} {v : V}, Reps K F ds vs → vs[i]? = some v → ∃ d, ds[i]? = some d ∧ Rep K F d v
  | [], _, i, d, h, e => by cases h; simp at e
  | d :: r, vs, 0, x, h, e => by
    obtain ⟨v, w, e2, h1, h2⟩ := h
    subst e2
    have e : v = x := Option.some.inj e
    subst e
    exact ⟨d, rfl, h1⟩
  | d :: r, vs, i + 1, x, h, e => by
    obtain ⟨v, w, e2, h1, h2⟩ := h
    subst e2
    exact Reps.get' (i := i) h2 e
theorem Reps.app : ∀ {ds es : List D} {vs ws : List V}, Reps K F ds vs → Reps K F es ws → Reps K F (ds ++ es) (vs ++ ws)
  | [], es, _, ws, h, g => by cases h; exact g
  | d :: r, es, vs, ws, h, g => by
    obtain ⟨v, w, e, h1, h2⟩ := h
    subst e
    exact ⟨v, w ++ ws, rfl, h1, Reps.app h2 g⟩
theorem Reps.one {d : D} {v : V} (h : Rep K F d v) : Reps K F [d] [v] := ⟨v, [], rfl, h, rfl⟩
theorem Reps.cons {d : D} {v : V} {ds : List D} {vs : List V} (h : Rep K F d v) (r : Reps K F ds vs) : Reps K F (d :: ds) (v :: vs) := ⟨v, vs, rfl, h, r⟩
theorem Reps.drop : ∀ (n : Nat) {ds : List D} {vs : List V}, Reps K F ds vs → Reps K F (ds.drop n) (vs.drop n)
  | 0, _, _, h => h
  | n + 1, [], _, h => by cases h; exact rfl
  | n + 1, d :: r, vs, h => by
    obtain ⟨v, w, e, h1, h2⟩ := h
    subst e
    exact Reps.drop n h2
theorem Reps.take : ∀ (n : Nat) {ds : List D} {vs : List V}, Reps K F ds vs → Reps K F (ds.take n) (vs.take n)
  | 0, ds, vs, h => by simp; exact rfl
  | n + 1, [], _, h => by cases h; exact rfl
  | n + 1, d :: r, vs, h => by
    obtain ⟨v, w, e, h1, h2⟩ := h
    subst e
    exact ⟨v, w.take n, rfl, h1, Reps.take n h2⟩
end

/-! ### the state: slots and cells -/
structure Cell where
  a : Addr
  d : D
/-- lo: what was made since the entry -/
structure Rho where
  sl : List (Option D)
  os : List Cell
  lo : Addr → Prop
def Rho.set (ρ : Rho) (i : Nat) (d : D) : Rho := { ρ with sl := ρ.sl.set i (some d) }
def addrs (os : List Cell) : List Addr := os.map Cell.a
/-- what stands in a cell -/
def InCell (K : PySem.W.Frag) (F : Hp) (d : D) (o : HO) : Prop := match d with
  | .lst ds => ∃ vs, o = .lst vs ∧ Reps K F ds vs
  | .dct ks ds => ∃ vs, ks.length = ds.length ∧ o = .dK ((ks.map keyV).zip vs) ∧ Reps K F ds vs
  | .obj C ns ds => ∃ dx vs, ns.length = ds.length ∧ o = .ins C dx (ns.zip vs) ∧ Reps K F ds vs
  | _ => False
theorem InCell.mono {K : PySem.W.Frag} {F F' : Hp} {d : D} {o : HO} (h : InCell K F d o) (l : Le F F') : InCell K F' d o := by
  cases d with
  | lst ds =>
    obtain ⟨vs, e, r⟩ := h
    exact ⟨vs, e, Reps.mono l r⟩
  | dct ks ds =>
    obtain ⟨vs, n, e, r⟩ := h
    exact ⟨vs, n, e, Reps.mono l r⟩
  | obj C ns ds =>
    obtain ⟨dx, vs, n, e, r⟩ := h
    exact ⟨dx, vs, n, e, Reps.mono l r⟩
  | _ => exact h
theorem InCell.unl {K : PySem.W.Frag} {F F' : Hp} {d : D} {o : HO} (h : InCell K F d o) (l : Le0 F F') : InCell K F' (unL d) o := by
  cases d with
  | lst ds =>
    obtain ⟨vs, e, r⟩ := h
    exact ⟨vs, e, Reps.unl l r⟩
  | dct ks ds =>
    obtain ⟨vs, n, e, r⟩ := h
    exact ⟨vs, n.trans (unLs_len ds).symm, e, Reps.unl l r⟩
  | obj C ns ds =>
    obtain ⟨dx, vs, n, e, r⟩ := h
    exact ⟨dx, vs, n.trans (unLs_len ds).symm, e, Reps.unl l r⟩
  | _ => exact h.elim
structure Cells (K : PySem.W.Frag) (F H : Hp) (os : List Cell) : Prop where
  nd : (addrs os).Nodup
  nof : ∀ c ∈ os, F c.a = none
  at_ : ∀ c ∈ os, ∃ o, H c.a = some o ∧ InCell K F c.d o

/-- the entry: H and F there, which addresses may change -/
structure Ent where
  B : Hp
  FB : Hp
  M : Addr → Prop
structure Env (K : PySem.W.Frag) (G : Ent) (F H : Hp) (σ : L2.St) (ρ : Rho) : Prop where
  fit : ∀ a u, F a = some u → H a = some u
  ext : Le G.FB F
  keep : ∀ a u, G.B a = some u → ¬ G.M a → H a = some u
  new : ∀ a, G.FB a = none → G.B a ≠ none → F a = none
  there : ∀ a, G.B a ≠ none → H a ≠ none
  slots : ∀ (i : Nat) (d : D), ρ.sl[i]? = some (some d) → ∃ v : V, σ[i]? = some (some v) ∧ Rep K F d v
  len : ρ.sl.length = σ.length
  cells : Cells K F H ρ.os
  mine : ∀ c ∈ ρ.os, G.M c.a ∨ G.B c.a = none
  lo : ∀ a, ρ.lo a → G.B a = none ∧ H a ≠ none
end DL

set_option Elab.async false
set_option linter.all false
set_option maxRecDepth 100000
set_option maxHeartbeats 2000000
namespace DL
open PySem PySem.Spec PyProof.Rows L2

structure Grow (F H F' H' : Hp) : Prop where
  le : Le F F'
  fit : ∀ a u, F' a = some u → H' a = some u
  keep : ∀ a u, H a = some u → H' a = some u
  new : ∀ a, F a = none → H a ≠ none → F' a = none
theorem Grow.refl {F H : Hp} (f : ∀ a u, F a = some u → H a = some u) : Grow F H F H := ⟨Le.refl F, f, fun _ _ h => h, fun _ h _ => h⟩
theorem Grow.trans {F H F1 H1 F2 H2 : Hp} (a : Grow F H F1 H1) (b : Grow F1 H1 F2 H2) : Grow F H F2 H2 :=
  ⟨a.le.trans b.le, b.fit, fun x u h => b.keep x u (a.keep x u h), fun x h1 h2 => b.new x (a.new x h1 h2) fun z => by
    cases e : H x with
    | none => exact h2 e
    | some u => rw [a.keep x u e] at z; cases z⟩
theorem none_sub {F H : Hp} (f : ∀ a u, F a = some u → H a = some u) {p : Addr} (h : H p = none) : F p = none := by
  cases e : F p with
  | none => rfl
  | some u => rw [f p u e] at h; cases h
theorem Grow.alloc {F H : Hp} (f : ∀ a u, F a = some u → H a = some u) {p : Addr} {o : HO} (h : H p = none) : Grow F H (upd F p o) (upd H p o) := by
  have fp := none_sub f h
  refine ⟨Le.new fp, fun a u e => ?_, fun a u e => ?_, fun a e1 e2 => ?_⟩
  · by_cases q : a = p
    · subst q; rw [upd_same] at e ⊢; exact e
    · rw [upd_ne q] at e ⊢; exact f a u e
  · rw [upd_ne (ne_of_none e h)]; exact e
  · have q : a ≠ p := fun z => e2 (z ▸ h)
    rw [upd_ne q]; exact e1
/-- a new thing that F does not take -/
theorem Grow.allocH {F H : Hp} (f : ∀ a u, F a = some u → H a = some u) {p : Addr} {o : HO} (h : H p = none) : Grow F H F (upd H p o) := by
  refine ⟨Le.refl F, fun a u e => ?_, fun a u e => ?_, fun a e1 _ => e1⟩
  · rw [upd_ne (ne_of_none (f a u e) h)]; exact f a u e
  · rw [upd_ne (ne_of_none e h)]; exact e

section
variable {K : PySem.W.Frag} {G : Ent} {F H F' H' : Hp} {σ : L2.St} {ρ : Rho}
theorem Cells.grow {os : List Cell} (c : Cells K F H os) (g : Grow F H F' H') : Cells K F' H' os :=
  ⟨c.nd, fun x hx => g.new _ (c.nof x hx) (by obtain ⟨o, e, _⟩ := c.at_ x hx; rw [e]; simp), fun x hx => by
    obtain ⟨o, e, i⟩ := c.at_ x hx
    exact ⟨o, g.keep _ _ e, i.mono g.le⟩⟩
theorem Env.grow (e : Env K G F H σ ρ) (g : Grow F H F' H') : Env K G F' H' σ ρ where
  fit := g.fit
  ext := e.ext.trans g.le
  keep := fun a u h n => g.keep a u (e.keep a u h n)
  new := fun a h1 h2 => g.new a (e.new a h1 h2) (e.there a h2)
  there := fun a h => by
    cases q : H a with
    | none => exact absurd q (e.there a h)
    | some u => rw [g.keep a u q]; simp
  slots := fun i d h => by
    obtain ⟨v, h1, r⟩ := e.slots i d h
    exact ⟨v, h1, r.mono g.le⟩
  len := e.len
  cells := e.cells.grow g
  mine := e.mine
  lo := fun a h => ⟨(e.lo a h).1, by
    cases q : H a with
    | none => exact absurd q (e.lo a h).2
    | some u => rw [g.keep a u q]; simp⟩
end

/-! ### what is wanted -/
structure Po (α : Type) where
  ok : α → Rho → Prop
  ex : Addr → List Str → List D → Rho → Prop
abbrev DX := Rho → Po D → Prop
abbrev DT := Rho → Po Bool → Prop
abbrev DA := Rho → Po (List D) → Prop
/-- an exception's way out -/
def ExW (K : PySem.W.Frag) (E : XK) (G : Ent) (F : Hp) (σ : L2.St) (X : Addr → List Str → List D → Rho → Prop) : Prop :=
  ∀ F' H' C ns ds vs e ρ' σ', Le F F' → Env K G F' H' σ' ρ' → H' e = some (.xd (ns.zip vs)) → ns.length = ds.length → Reps K F' ds vs → X C ns ds ρ' → E (.ref C) (some e) H'
theorem ExW.le {K : PySem.W.Frag} {E : XK} {G : Ent} {F F1 : Hp} {σ σ1 : L2.St} {X : Addr → List Str → List D → Rho → Prop} (h : ExW K E G F σ X) (l : Le F F1) : ExW K E G F1 σ1 X :=
  fun F' H' C ns ds vs e ρ' σ' l1 => h F' H' C ns ds vs e ρ' σ' (l.trans l1)

def up (K : PySem.W.Frag) (E : XK) (t : DX) : TE := fun σ H Q => ∃ G F ρ P, Env K G F H σ ρ ∧ t ρ P ∧
  (∀ F' H' d v ρ', Le F F' → Env K G F' H' σ ρ' → Rep K F' d v → P.ok d ρ' → Q v H') ∧ ExW K E G F σ P.ex
def upT (K : PySem.W.Frag) (E : XK) (t : DT) : TT := fun σ H Q => ∃ G F ρ P, Env K G F H σ ρ ∧ t ρ P ∧
  (∀ F' H' b ρ', Le F F' → Env K G F' H' σ ρ' → P.ok b ρ' → Q b H') ∧ ExW K E G F σ P.ex
def upA (K : PySem.W.Frag) (E : XK) (t : DA) : TA := fun σ H Q => ∃ G F ρ P, Env K G F H σ ρ ∧ t ρ P ∧
  (∀ F' H' ds vs ρ', Le F F' → Env K G F' H' σ ρ' → Reps K F' ds vs → P.ok ds ρ' → Q vs H') ∧ ExW K E G F σ P.ex
def PX (X : Cx) (E : XK) (e : Expr) (t : DX) : Prop := PE X e (up X.K E t)
def PXT (X : Cx) (E : XK) (e : Expr) (t : DT) : Prop := PT X e (upT X.K E t)
def PXA (X : Cx) (E : XK) (es : List Expr) (t : DA) : Prop := PA X es (upA X.K E t)

theorem PE.weak {X : Cx} {e : Expr} {t t' : TE} (h : PE X e t) (w : ∀ σ H Q, t' σ H Q → t σ H Q) : PE X e t' := ⟨fun pins s σ H Q I q => h.run pins s σ H Q I (w σ H Q q)⟩
theorem PT.weak {X : Cx} {e : Expr} {t t' : TT} (h : PT X e t) (w : ∀ σ H Q, t' σ H Q → t σ H Q) : PT X e t' := ⟨fun pins s σ H Q I q => h.run pins s σ H Q I (w σ H Q q)⟩
theorem PA.weak {X : Cx} {es : List Expr} {t t' : TA} (h : PA X es t) (w : ∀ σ H Q, t' σ H Q → t σ H Q) : PA X es t' := ⟨fun pos pins s σ H Q I q => h.run pos pins s σ H Q I (w σ H Q q)⟩

/-! ### views: data, or a cell that holds it -/
def Sees (ρ : Rho) (d e : D) : Prop := d = e ∨ (∃ c, c ∈ ρ.os ∧ d = .raw (.ref c.a) ∧ c.d = e) ∨ ∃ ks ds, d = .ldct ks ds ∧ e = .dct ks ds
section
variable {K : PySem.W.Frag} {G : Ent} {F H : Hp} {σ : L2.St} {ρ : Rho} {v : V} {d : D} {ds : List D}
theorem sqL_fit (f : ∀ a u, F a = some u → H a = some u) {a : Addr} {xs : List V} (h : SqL K F a xs) : SqL K H a xs := by
  rcases h with (h | ⟨o, h⟩) | h
  · exact .inl (.inl (f _ _ h))
  · exact .inl (.inr ⟨o, f _ _ h⟩)
  · exact .inr h
theorem sqT_fit (f : ∀ a u, F a = some u → H a = some u) {a : Addr} {xs : List V} (h : SqT K F a xs) : SqT K H a xs := by
  rcases h with (h | ⟨o, h⟩) | h
  · exact .inl (.inl (f _ _ h))
  · exact .inl (.inr ⟨o, f _ _ h⟩)
  · exact .inr h
theorem rd_fit (f : ∀ a u, F a = some u → H a = some u) {a : Addr} {u : HO} (h : Rd F a u) : Rd H a u := by
  rcases h with h | ⟨o, h⟩
  · exact .inl (f _ _ h)
  · exact .inr ⟨o, f _ _ h⟩
theorem Env.lstR (e : Env K G F H σ ρ) (s : Sees ρ d (.lst ds)) (r : Rep K F d v) : ∃ a vs, v = .ref a ∧ Rd H a (.lst vs) ∧ Reps K F ds vs := by
  rcases s with s | ⟨c, hc, s, s2⟩ | ⟨ks', ds', s, s2⟩
  · subst s
    obtain ⟨a, vs, h1, h2, h3⟩ := r
    refine ⟨a, vs, h1, ?_, h3⟩
    rcases h2 with h | ⟨o, h⟩
    · exact .inl (e.fit _ _ h)
    · exact .inr ⟨o, e.fit _ _ h⟩
  · subst s
    obtain ⟨o, h1, h2⟩ := e.cells.at_ c hc
    rw [s2] at h2
    obtain ⟨vs, h2, h3⟩ := h2
    subst h2
    exact ⟨c.a, vs, r, .inl h1, h3⟩
  · cases s2
theorem Env.lst (e : Env K G F H σ ρ) (s : Sees ρ d (.lst ds)) (r : Rep K F d v) : ∃ a vs, v = .ref a ∧ SqL K H a vs ∧ Reps K F ds vs := by
  obtain ⟨a, vs, h1, h2, h3⟩ := e.lstR s r
  exact ⟨a, vs, h1, .inl h2, h3⟩
theorem Env.tup (e : Env K G F H σ ρ) (r : Rep K F (.tup ds) v) : ∃ a vs, v = .ref a ∧ SqT K H a vs ∧ Reps K F ds vs := by
  obtain ⟨a, vs, h1, h2, h3⟩ := r
  exact ⟨a, vs, h1, sqT_fit e.fit h2, h3⟩
theorem Env.dct {ks : List (List Nat)} (e : Env K G F H σ ρ) (s : Sees ρ d (.dct ks ds)) (r : Rep K F d v) : ∃ a vs, v = .ref a ∧ ks.length = ds.length ∧ Rd H a (.dK ((ks.map keyV).zip vs)) ∧ Reps K F ds vs := by
  rcases s with s | ⟨c, hc, s, s2⟩ | ⟨ks', ds', s, s2⟩
  · subst s
    obtain ⟨a, vs, h1, n, h2, h3⟩ := r
    exact ⟨a, vs, h1, n, rd_fit e.fit h2, h3⟩
  · subst s
    obtain ⟨o, h1, h2⟩ := e.cells.at_ c hc
    rw [s2] at h2
    obtain ⟨vs, n, h2, h3⟩ := h2
    subst h2
    exact ⟨c.a, vs, r, n, .inl h1, h3⟩
  · cases s2
    subst s
    obtain ⟨a, vs, h1, n, ⟨o, h2⟩, h3⟩ := r
    exact ⟨a, vs, h1, n, .inr ⟨o, e.fit _ _ h2⟩, h3⟩
theorem Env.obj {C : Addr} {ns : List Str} (e : Env K G F H σ ρ) (s : Sees ρ d (.obj C ns ds)) (r : Rep K F d v) : ∃ a dx vs, v = .ref a ∧ ns.length = ds.length ∧ H a = some (.ins C dx (ns.zip vs)) ∧ Reps K F ds vs := by
  rcases s with s | ⟨c, hc, s, s2⟩ | ⟨ks', ds', s, s2⟩
  · subst s
    obtain ⟨a, dx, vs, h1, n, h2, h3⟩ := r
    exact ⟨a, dx, vs, h1, n, e.fit _ _ h2, h3⟩
  · subst s
    obtain ⟨o, h1, h2⟩ := e.cells.at_ c hc
    rw [s2] at h2
    obtain ⟨dx, vs, n, h2, h3⟩ := h2
    subst h2
    exact ⟨c.a, dx, vs, r, n, h1, h3⟩
  · cases s2
end

/-! ### names and constants -/
section
variable {X : Cx} {E : XK}
def dVar (i : Nat) : DX := fun ρ P => ∃ d, ρ.sl[i]? = some (some d) ∧ P.ok d ρ
def dC (d : D) : DX := fun ρ P => P.ok d ρ
theorem px_of {e : Expr} {te : TE} {t : DX} (h : PE X e te) (w : ∀ G F H σ ρ (P : Po D) (Q : VK), Env X.K G F H σ ρ → t ρ P → (∀ F' H' d v ρ', Le F F' → Env X.K G F' H' σ ρ' → Rep X.K F' d v → P.ok d ρ' → Q v H') → ExW X.K E G F σ P.ex → te σ H Q) : PX X E e t :=
  PE.weak h fun σ H Q ⟨G, F, ρ, P, env, q, k, x⟩ => w G F H σ ρ P Q env q k x
theorem px_ofT {e : Expr} {te : TT} {t : DT} (h : PT X e te) (w : ∀ G F H σ ρ (P : Po Bool) (Q : Bool → Hp → Prop), Env X.K G F H σ ρ → t ρ P → (∀ F' H' b ρ', Le F F' → Env X.K G F' H' σ ρ' → P.ok b ρ' → Q b H') → ExW X.K E G F σ P.ex → te σ H Q) : PXT X E e t :=
  PT.weak h fun σ H Q ⟨G, F, ρ, P, env, q, k, x⟩ => w G F H σ ρ P Q env q k x
theorem px_var (i : Nat) {x : Str} {pos : Pos} (hN : X.N[i]? = some x := by rfl) (hv : Vis X.env.scope x := by first | exact Or.inl rfl | exact Or.inr (Or.inl rfl) | exact Or.inr (Or.inr rfl)) (hd : (x == ("__debug__" : Str)) = false := by decide)
    (hcd : (x == ("__classdict__" : Str)) = false := by decide) : PX X E (.Name x pos) (dVar i) :=
  px_of (pe_var hN hv hd hcd) fun G F H σ ρ P Q env ⟨d, h, q⟩ k _ => by
    obtain ⟨v, h1, r⟩ := env.slots i d h
    exact ⟨v, h1, k F H d v ρ (Le.refl F) env r q⟩
theorem px_c {e : Expr} {w : V} {d : D} (h : PE X e (tC w)) (r : ∀ F, Rep X.K F d w) : PX X E e (dC d) :=
  px_of h fun G F H σ ρ P Q env q k _ => k F H d w ρ (Le.refl F) env (r F) q
theorem px_int {i j pos} : PX X E (.Constant (.int i) j pos) (dC (.int i)) := px_c pe_int fun _ => rfl
theorem px_bl {b j pos} : PX X E (.Constant (.bool b) j pos) (dC (.bl b)) := px_c pe_bl fun _ => rfl
theorem px_non {j pos} : PX X E (.Constant .none j pos) (dC .non) := px_c pe_non fun _ => rfl
theorem px_str {x j pos} (s : List Nat) (h : x = mkS s := by rfl) : PX X E (.Constant (.str x) j pos) (dC (.str s)) := px_c pe_str fun _ => by subst h; rfl
/-- a global of the module: an int, a text -/
theorem px_gint {x : Str} {i : Int} {t : Tok} {pos : Pos} (hm : X.mg x = some (.int i t)) (hg : Gl X x := by rfl) (hd : (x == ("__debug__" : Str)) = false := by decide) : PX X E (.Name x pos) (dC (.int i)) :=
  px_c (pe_glob hg hm (show RelV (.int i) _ from ⟨t, rfl⟩) hd) fun _ => rfl
theorem px_gstr {x : Str} {s : List Nat} {t : Tok} {pos : Pos} (hm : X.mg x = some (.str (mkS s) t)) (hg : Gl X x := by rfl) (hd : (x == ("__debug__" : Str)) = false := by decide) : PX X E (.Name x pos) (dC (.str s)) :=
  px_c (pe_glob hg hm (show RelV (.str (mkS s)) _ from ⟨t, rfl⟩) hd) fun _ => rfl
theorem px_gref {x : Str} {a : Addr} {pos : Pos} (hm : X.mg x = some (.ref a)) (hg : Gl X x := by rfl) (hd : (x == ("__debug__" : Str)) = false := by decide) : PX X E (.Name x pos) (dC (.raw (.ref a))) :=
  px_c (pe_glob hg hm (show RelV (.ref a) _ from rfl) hd) fun _ => rfl

/-! ### operators on values -/
abbrev DR2 := Rho → D → D → (D → Prop) → Prop
abbrev DR1 := Rho → D → (D → Prop) → Prop
abbrev DRs := Rho → List D → (D → Prop) → Prop
def Lift2 (K : PySem.W.Frag) (ro : R2) (rd : DR2) : Prop := ∀ G F H σ ρ d1 d2 v1 v2 (P : D → Prop) (Q : VK), Env K G F H σ ρ → Rep K F d1 v1 → Rep K F d2 v2 → rd ρ d1 d2 P →
  (∀ F' H' d v, Grow F H F' H' → Rep K F' d v → P d → Q v H') → ro v1 v2 H Q
def dOp (rd : DR2) (ta tb : DX) : DX := fun ρ P => ta ρ ⟨fun x ρ1 => tb ρ1 ⟨fun y ρ2 => rd ρ2 x y fun z => P.ok z ρ2, P.ex⟩, P.ex⟩
theorem up_op {K : PySem.W.Frag} {ro : R2} {rd : DR2} {ta tb : DX} (l : Lift2 K ro rd) {G F H σ ρ} {P : Po D} {Q : VK} (env : Env K G F H σ ρ) (q : dOp rd ta tb ρ P)
    (k : ∀ F' H' d v ρ', Le F F' → Env K G F' H' σ ρ' → Rep K F' d v → P.ok d ρ' → Q v H') (x : ExW K E G F σ P.ex) : tOp ro (up K E ta) (up K E tb) σ H Q :=
  ⟨G, F, ρ, _, env, q, fun F1 H1 d1 v1 ρ1 l1 env1 r1 q1 => ⟨G, F1, ρ1, _, env1, q1, fun F2 H2 d2 v2 ρ2 l2 env2 r2 q2 =>
    l G F2 H2 σ ρ2 d1 d2 v1 v2 _ Q env2 (r1.mono l2) r2 q2 fun F3 H3 d3 v3 g r3 q3 => k F3 H3 d3 v3 ρ2 ((l1.trans l2).trans g.le) (env2.grow g) r3 q3, x.le l1⟩, x⟩
variable {a b : Expr} {ta tb : DX} {ro : R2} {rd : DR2} {pos : Pos}
theorem px_op {op : Operator} (ho : OpR X (binaryOp op) ro) (l : Lift2 X.K ro rd) (ha : PX X E a ta) (hb : PX X E b tb) : PX X E (.BinOp a op b pos) (dOp rd ta tb) :=
  px_of (pe_op ho ha hb) fun G F H σ ρ P Q env q k x => up_op l env q k x
theorem px_cmp {op : CmpOp} (ho : OpR X (compareOp op) ro) (l : Lift2 X.K ro rd) (ha : PX X E a ta) (hb : PX X E b tb) (hm : behindInMarks op b = false := by first | exact nomark _ | rfl) : PX X E (.Compare a [op] [b] pos) (dOp rd ta tb) :=
  px_of (pe_cmpR ho ha hb hm) fun G F H σ ρ P Q env q k x => up_op l env q k x
/-- a value as a test -/
def dTest (t : DX) : DT := fun ρ P => t ρ ⟨fun z ρ' => ∃ k, z = .bl k ∧ P.ok k ρ', P.ex⟩
theorem pt_cmp {op : CmpOp} (ho : OpR X (compareOp op) ro) (l : Lift2 X.K ro rd) (ha : PX X E a ta) (hb : PX X E b tb) (hm : behindInMarks op b = false := by first | exact nomark _ | rfl) : PXT X E (.Compare a [op] [b] pos) (dTest (dOp rd ta tb)) :=
  px_ofT (pt_cmpR ho ha hb hm) fun G F H σ ρ P Q env q k x => up_op (P := ⟨fun z ρ' => ∃ k, z = .bl k ∧ P.ok k ρ', P.ex⟩) l env q (fun F' H' d v ρ' l1 env1 r ⟨c, e, p⟩ => by
    subst e
    cases r
    exact ⟨c, rfl, k F' H' c ρ' l1 env1 p⟩) x
theorem pt_v {e : Expr} {t : DX} (h : PX X E e t) (he : ∀ whole, isTrue e X.env whole = (do let v ← whole; standAt e.pos; holding [v] (truthy v)) := by intro _; rfl) : PXT X E e (dTest t) :=
  px_ofT (pt_val h he) fun G F H σ ρ P Q env q k x => ⟨G, F, ρ, _, env, q, fun F' H' d v ρ' l1 env1 r ⟨c, e, p⟩ => by
    subst e
    cases r
    exact ⟨c, rfl, k F' H' c ρ' l1 env1 p⟩, x⟩
end
end DL

set_option Elab.async false
set_option linter.all false
set_option maxRecDepth 100000
set_option maxHeartbeats 2000000
namespace DL
open PySem PySem.Spec PyProof.Rows L2
theorem ift {A B : Prop} (h : if true = true then A else B) : A := by
  rw [if_pos rfl] at h
  exact h
theorem iff {A B : Prop} (h : if false = true then A else B) : B := by
  rw [if_neg Bool.false_ne_true] at h
  exact h
section
variable {X : Cx} {E : XK} {a b c : Expr} {ta tb tc : DX} {ua ub : DT} {pos : Pos} {rest : List Expr}

/-! ### tests -/
structure PXW (X : Cx) (E : XK) (e : Expr) (t : DT) : Prop where
  w : PW X e (upT X.K E t)
theorem PXW.pt {e : Expr} {t : DT} (h : PXW X E e t) : PXT X E e t := h.w.pt
theorem PW.weak {e : Expr} {t t' : TT} (h : PW X e t) (w : ∀ σ H Q, t' σ H Q → t σ H Q) : PW X e t' := ⟨fun wh pins s σ H Q I q => h.run wh pins s σ H Q I (w σ H Q q)⟩
def dAnd (t u : DT) : DT := fun ρ P => t ρ ⟨fun b ρ1 => if b = true then u ρ1 P else P.ok false ρ1, P.ex⟩
def dOr (t u : DT) : DT := fun ρ P => t ρ ⟨fun b ρ1 => if b = true then P.ok true ρ1 else u ρ1 P, P.ex⟩
def dNot (t : DT) : DT := fun ρ P => t ρ ⟨fun b ρ1 => P.ok (!b) ρ1, P.ex⟩
theorem ptw_and1 (h : PXT X E a ua) : PXW X E (.BoolOp .And [a] pos) ua := ⟨pw_and1 h⟩
theorem ptw_or1 (h : PXT X E a ua) : PXW X E (.BoolOp .Or [a] pos) ua := ⟨pw_or1 h⟩
theorem ptw_and (h : PXT X E a ua) (g : PXW X E (.BoolOp .And (b :: rest) pos) ub) : PXW X E (.BoolOp .And (a :: b :: rest) pos) (dAnd ua ub) :=
  ⟨PW.weak (pw_and h g.w) fun σ H Q ⟨G, F, ρ, P, env, q, k, x⟩ => ⟨G, F, ρ, _, env, q, fun F1 H1 bv ρ1 l1 env1 q1 => by
    cases bv with
    | true =>
      refine iteT ?_
      try dsimp only at q1
      rw [if_pos rfl] at q1
      exact ⟨G, F1, ρ1, P, env1, q1, fun F2 H2 b2 ρ2 l2 env2 q2 => k F2 H2 b2 ρ2 (l1.trans l2) env2 q2, x.le l1⟩
    | false =>
      refine iteF ?_
      try dsimp only at q1
      rw [if_neg Bool.false_ne_true] at q1
      exact k F1 H1 false ρ1 l1 env1 q1, x⟩⟩
theorem ptw_or (h : PXT X E a ua) (g : PXW X E (.BoolOp .Or (b :: rest) pos) ub) : PXW X E (.BoolOp .Or (a :: b :: rest) pos) (dOr ua ub) :=
  ⟨PW.weak (pw_or h g.w) fun σ H Q ⟨G, F, ρ, P, env, q, k, x⟩ => ⟨G, F, ρ, _, env, q, fun F1 H1 bv ρ1 l1 env1 q1 => by
    cases bv with
    | true =>
      refine iteT ?_
      try dsimp only at q1
      rw [if_pos rfl] at q1
      exact k F1 H1 true ρ1 l1 env1 q1
    | false =>
      refine iteF ?_
      try dsimp only at q1
      rw [if_neg Bool.false_ne_true] at q1
      exact ⟨G, F1, ρ1, P, env1, q1, fun F2 H2 b2 ρ2 l2 env2 q2 => k F2 H2 b2 ρ2 (l1.trans l2) env2 q2, x.le l1⟩, x⟩⟩
theorem pt_no (h : PXT X E a ua) : PXT X E (.UnaryOp .Not a pos) (dNot ua) :=
  PT.weak (pt_not h) fun σ H Q ⟨G, F, ρ, P, env, q, k, x⟩ => ⟨G, F, ρ, _, env, q, fun F1 H1 bv ρ1 l1 env1 q1 => k F1 H1 _ ρ1 l1 env1 q1, x⟩
/-- a and b, a or b as values: all but the last are bools -/
def dAndV (ta tb : DX) : DX := fun ρ P => ta ρ ⟨fun x ρ1 => ∃ c, x = .bl c ∧ if c = true then tb ρ1 P else P.ok (.bl false) ρ1, P.ex⟩
def dOrV (ta tb : DX) : DX := fun ρ P => ta ρ ⟨fun x ρ1 => ∃ c, x = .bl c ∧ if c = true then P.ok (.bl true) ρ1 else tb ρ1 P, P.ex⟩
def dNotV (ta : DX) : DX := fun ρ P => ta ρ ⟨fun x ρ1 => ∃ c, x = .bl c ∧ P.ok (.bl (!c)) ρ1, P.ex⟩
theorem px_one {op} (h : PX X E a ta) : PX X E (.BoolOp op [a] pos) ta := pe_one h
theorem px_and (h : PX X E a ta) (g : PX X E (.BoolOp .And (b :: rest) pos) tb) : PX X E (.BoolOp .And (a :: b :: rest) pos) (dAndV ta tb) :=
  px_of (pe_and h g) fun G F H σ ρ P Q env q k x => ⟨G, F, ρ, _, env, q, fun F1 H1 d1 v1 ρ1 l1 env1 r1 ⟨c, e, q1⟩ => by
    subst e
    cases r1
    refine ⟨c, rfl, ?_⟩
    cases c with
    | true =>
      refine iteT ?_
      try dsimp only at q1
      rw [if_pos rfl] at q1
      exact ⟨G, F1, ρ1, P, env1, q1, fun F2 H2 d2 v2 ρ2 l2 env2 r2 q2 => k F2 H2 d2 v2 ρ2 (l1.trans l2) env2 r2 q2, x.le l1⟩
    | false =>
      refine iteF ?_
      try dsimp only at q1
      rw [if_neg Bool.false_ne_true] at q1
      exact k F1 H1 (.bl _) _ ρ1 l1 env1 rfl q1, x⟩
theorem px_or (h : PX X E a ta) (g : PX X E (.BoolOp .Or (b :: rest) pos) tb) : PX X E (.BoolOp .Or (a :: b :: rest) pos) (dOrV ta tb) :=
  px_of (pe_or h g) fun G F H σ ρ P Q env q k x => ⟨G, F, ρ, _, env, q, fun F1 H1 d1 v1 ρ1 l1 env1 r1 ⟨c, e, q1⟩ => by
    subst e
    cases r1
    refine ⟨c, rfl, ?_⟩
    cases c with
    | true =>
      refine iteT ?_
      try dsimp only at q1
      rw [if_pos rfl] at q1
      exact k F1 H1 (.bl _) _ ρ1 l1 env1 rfl q1
    | false =>
      refine iteF ?_
      try dsimp only at q1
      rw [if_neg Bool.false_ne_true] at q1
      exact ⟨G, F1, ρ1, P, env1, q1, fun F2 H2 d2 v2 ρ2 l2 env2 r2 q2 => k F2 H2 d2 v2 ρ2 (l1.trans l2) env2 r2 q2, x.le l1⟩, x⟩
theorem px_not (h : PX X E a ta) : PX X E (.UnaryOp .Not a pos) (dNotV ta) :=
  px_of (pe_not h) fun G F H σ ρ P Q env q k x => ⟨G, F, ρ, _, env, q, fun F1 H1 d1 v1 ρ1 l1 env1 r1 ⟨c, e, q1⟩ => by
    subst e
    cases r1
    exact ⟨c, rfl, k F1 H1 (.bl _) _ ρ1 l1 env1 rfl q1⟩, x⟩
def dIf (t : DT) (ta tb : DX) : DX := fun ρ P => t ρ ⟨fun b ρ1 => if b = true then ta ρ1 P else tb ρ1 P, P.ex⟩
theorem px_if (h : PXT X E c ua) (ha : PX X E a ta) (hb : PX X E b tb) : PX X E (.IfExp c a b pos) (dIf ua ta tb) :=
  px_of (pe_ifExp h ha hb) fun G F H σ ρ P Q env q k x => ⟨G, F, ρ, _, env, q, fun F1 H1 bv ρ1 l1 env1 q1 => by
    cases bv with
    | true =>
      refine iteT ?_
      try dsimp only at q1
      rw [if_pos rfl] at q1
      exact ⟨G, F1, ρ1, P, env1, q1, fun F2 H2 d2 v2 ρ2 l2 env2 r2 q2 => k F2 H2 d2 v2 ρ2 (l1.trans l2) env2 r2 q2, x.le l1⟩
    | false =>
      refine iteF ?_
      try dsimp only at q1
      rw [if_neg Bool.false_ne_true] at q1
      exact ⟨G, F1, ρ1, P, env1, q1, fun F2 H2 d2 v2 ρ2 l2 env2 r2 q2 => k F2 H2 d2 v2 ρ2 (l1.trans l2) env2 r2 q2, x.le l1⟩, x⟩
/-- a op1 b op2 c -/
def dChain (r r' : DR2) (ta tb tc : DX) : DX := fun ρ P => ta ρ ⟨fun x ρ1 => tb ρ1 ⟨fun y ρ2 => r ρ2 x y fun z => ∃ k, z = .bl k ∧
  if k = true then tc ρ2 ⟨fun w ρ3 => r' ρ3 y w fun u => P.ok u ρ3, P.ex⟩ else P.ok (.bl false) ρ2, P.ex⟩, P.ex⟩
theorem up_chain {K : PySem.W.Frag} {ro ro' : R2} {r r' : DR2} (l : Lift2 K ro r) (l' : Lift2 K ro' r') {G F H σ ρ} {P : Po D} {Q : VK} (env : Env K G F H σ ρ) (q : dChain r r' ta tb tc ρ P)
    (k : ∀ F' H' d v ρ', Le F F' → Env K G F' H' σ ρ' → Rep K F' d v → P.ok d ρ' → Q v H') (x : ExW K E G F σ P.ex) : tChain ro ro' (up K E ta) (up K E tb) (up K E tc) σ H Q :=
  ⟨G, F, ρ, _, env, q, fun F1 H1 d1 v1 ρ1 l1 env1 r1 q1 => ⟨G, F1, ρ1, _, env1, q1, fun F2 H2 d2 v2 ρ2 l2 env2 r2 q2 =>
    l G F2 H2 σ ρ2 d1 d2 v1 v2 _ _ env2 (r1.mono l2) r2 q2 fun F3 H3 d3 v3 g r3 ⟨c, e, q3⟩ => by
      subst e
      cases r3
      refine ⟨c, rfl, ?_⟩
      cases c with
      | false =>
        refine iteF ?_
        try dsimp only at q3
        rw [if_neg Bool.false_ne_true] at q3
        exact k F3 H3 (.bl false) _ ρ2 ((l1.trans l2).trans g.le) (env2.grow g) rfl q3
      | true =>
        refine iteT ?_
        try dsimp only at q3
        rw [if_pos rfl] at q3
        exact ⟨G, F3, ρ2, _, env2.grow g, q3, fun F4 H4 d4 v4 ρ4 l4 env4 r4 q4 => l' G F4 H4 σ ρ4 d2 d4 v2 v4 _ Q env4 ((r2.mono g.le).mono l4) r4 q4 fun F5 H5 d5 v5 g5 r5 q5 =>
          k F5 H5 d5 v5 ρ4 ((((l1.trans l2).trans g.le).trans l4).trans g5.le) (env4.grow g5) r5 q5, x.le ((l1.trans l2).trans g.le)⟩, x.le l1⟩, x⟩
theorem px_chain {op op' : CmpOp} {ro ro' : R2} {r r' : DR2} (ho : OpR X (compareOp op) ro) (ho' : OpR X (compareOp op') ro') (l : Lift2 X.K ro r) (l' : Lift2 X.K ro' r') (ha : PX X E a ta) (hb : PX X E b tb) (hc : PX X E c tc)
    (hm : lastMarks [op, op'] [b, c] = false := by with_unfolding_all rfl) : PX X E (.Compare a [op, op'] [b, c] pos) (dChain r r' ta tb tc) :=
  px_of (pe_chain ho ho' ha hb hc hm) fun G F H σ ρ P Q env q k x => up_chain l l' env q k x
theorem pt_chain {op op' : CmpOp} {ro ro' : R2} {r r' : DR2} (ho : OpR X (compareOp op) ro) (ho' : OpR X (compareOp op') ro') (l : Lift2 X.K ro r) (l' : Lift2 X.K ro' r') (ha : PX X E a ta) (hb : PX X E b tb) (hc : PX X E c tc)
    (hm : lastMarks [op, op'] [b, c] = false := by with_unfolding_all rfl) : PXT X E (.Compare a [op, op'] [b, c] pos) (dTest (dChain r r' ta tb tc)) :=
  px_ofT (L2.pt_chain ho ho' ha hb hc hm) fun G F H σ ρ P Q env q k x => up_chain (P := ⟨fun z ρ' => ∃ k, z = .bl k ∧ P.ok k ρ', P.ex⟩) l l' env q (fun F' H' d v ρ' l1 env1 r ⟨c, e, p⟩ => by
    subst e
    cases r
    exact ⟨c, rfl, k F' H' c ρ' l1 env1 p⟩) x
/-- any value as a test, by its truth -/
def truD : D → Option Bool
  | .non => some false
  | .bl b => some b
  | .int i => some (i != 0)
  | .str s => some (!s.isEmpty)
  | .lst ds => some (!ds.isEmpty)
  | .tup ds => some (!ds.isEmpty)
  | _ => none

/-! ### arguments and displays -/
def dNil : DA := fun ρ P => P.ok [] ρ
def dCons (t : DX) (u : DA) : DA := fun ρ P => t ρ ⟨fun x ρ1 => u ρ1 ⟨fun xs ρ2 => P.ok (x :: xs) ρ2, P.ex⟩, P.ex⟩
theorem pxa_nil : PXA X E [] dNil := PA.weak pa_nil fun σ H Q ⟨G, F, ρ, P, env, q, k, x⟩ => k F H [] [] ρ (Le.refl F) env rfl q
theorem pxa_cons {e : Expr} {es : List Expr} {t : DX} {u : DA} (h : PX X E e t) (hr : PXA X E es u) (hs : starEach (e :: es) X.env = (false, eval e X.env) :: starEach es X.env := by rfl) : PXA X E (e :: es) (dCons t u) :=
  PA.weak (pa_cons h hr hs) fun σ H Q ⟨G, F, ρ, P, env, q, k, x⟩ => ⟨G, F, ρ, _, env, q, fun F1 H1 d1 v1 ρ1 l1 env1 r1 q1 => ⟨G, F1, ρ1, _, env1, q1, fun F2 H2 ds vs ρ2 l2 env2 r2 q2 =>
    k F2 H2 _ _ ρ2 (l1.trans l2) env2 (Reps.cons (r1.mono l2) r2) q2, x.le l1⟩, x⟩
def small : Nat := 16777216
theorem small_eq : sizeLine = small := by rw [sizeLine_eq]; rfl
def dTup (t : DA) : DX := fun ρ P => t ρ ⟨fun ds ρ1 => ds.length ≤ 16777216 ∧ P.ok (.tup ds) ρ1, P.ex⟩
def dLst (t : DA) : DX := fun ρ P => t ρ ⟨fun ds ρ1 => ds.length ≤ 16777216 ∧ P.ok (.lst ds) ρ1, P.ex⟩
theorem sqL_upd {K : PySem.W.Frag} {F : Hp} {p : Addr} {vs : List V} : SqL K (upd F p (.lst vs)) p vs := SqL.of upd_same
theorem sqT_upd {K : PySem.W.Frag} {F : Hp} {p : Addr} {vs : List V} : SqT K (upd F p (.tup vs)) p vs := SqT.of upd_same
theorem rep_newT {K : PySem.W.Frag} {F : Hp} {p : Addr} {vs : List V} {ds : List D} (h : F p = none) (r : Reps K F ds vs) : Rep K (upd F p (.tup vs)) (.tup ds) (.ref p) := ⟨p, vs, rfl, sqT_upd, r.mono (Le.new h)⟩
theorem rep_newL {K : PySem.W.Frag} {F : Hp} {p : Addr} {vs : List V} {ds : List D} (h : F p = none) (r : Reps K F ds vs) : Rep K (upd F p (.lst vs)) (.lst ds) (.ref p) := ⟨p, vs, rfl, .inl upd_same, r.mono (Le.new h)⟩
theorem px_tup {es : List Expr} {u : DA} {x1} (h : PXA X E es u) : PX X E (.Tuple es x1 pos) (dTup u) :=
  px_of (pe_tup h) fun G F H σ ρ P Q env q k x => ⟨G, F, ρ, _, env, q, fun F1 H1 ds vs ρ1 l1 env1 r1 ⟨z, q1⟩ => ⟨by rw [← r1.length, sizeLine_eq]; exact z, fun p hp => by
    have g := Grow.alloc (o := .tup vs) env1.fit hp
    exact k _ _ (.tup ds) _ ρ1 (l1.trans g.le) (env1.grow g) (rep_newT (none_sub env1.fit hp) r1) q1⟩, x⟩
theorem px_lst {es : List Expr} {u : DA} (h : PXA X E es u) : PX X E (.List es pos) (dLst u) :=
  px_of (pe_lst h) fun G F H σ ρ P Q env q k x => ⟨G, F, ρ, _, env, q, fun F1 H1 ds vs ρ1 l1 env1 r1 ⟨z, q1⟩ => ⟨by rw [← r1.length, sizeLine_eq]; exact z, fun p hp => by
    have g := Grow.alloc (o := .lst vs) env1.fit hp
    exact k _ _ (.lst ds) _ ρ1 (l1.trans g.le) (env1.grow g) (rep_newL (none_sub env1.fit hp) r1) q1⟩, x⟩
/-- [..] as a new cell -/
def Rho.add (ρ : Rho) (a : Addr) (d : D) : Rho := { ρ with os := ⟨a, d⟩ :: ρ.os, lo := fun x => x = a ∨ ρ.lo x }
theorem Env.bnone {K : PySem.W.Frag} {G : Ent} {F H : Hp} {σ : L2.St} {ρ : Rho} (e : Env K G F H σ ρ) {p : Addr} (hp : H p = none) : G.B p = none := by
  cases q : G.B p with
  | none => rfl
  | some u => exact absurd hp (e.there p (by rw [q]; simp))
theorem Env.addC {K : PySem.W.Frag} {G : Ent} {F H : Hp} {σ : L2.St} {ρ : Rho} (e : Env K G F H σ ρ) {p : Addr} {o : HO} {d : D} (hp : H p = none) (i : InCell K F d o) : Env K G F (upd H p o) σ (ρ.add p d) := by
  have g := Grow.allocH (o := o) e.fit hp
  have e' := e.grow g
  have fp := none_sub e.fit hp
  have np : ∀ c ∈ ρ.os, c.a ≠ p := fun c hc z => by
    obtain ⟨u, h, _⟩ := e.cells.at_ c hc
    rw [z, hp] at h; cases h
  refine ⟨e'.fit, e'.ext, e'.keep, e'.new, e'.there, e'.slots, e'.len, ⟨?_, ?_, ?_⟩, ?_, fun a h => h.elim (fun z => by subst z; exact ⟨e.bnone hp, by rw [upd_same]; simp⟩) (fun z => e'.lo a z)⟩
  · show ((⟨p, d⟩ : Cell).a :: addrs ρ.os).Nodup
    refine List.nodup_cons.mpr ⟨fun m => ?_, e.cells.nd⟩
    obtain ⟨c, hc, z⟩ := List.mem_map.mp m
    exact np c hc z
  · intro c hc
    rcases List.mem_cons.mp hc with rfl | hc
    · exact fp
    · exact e'.cells.nof c hc
  · intro c hc
    rcases List.mem_cons.mp hc with rfl | hc
    · exact ⟨o, upd_same, i⟩
    · exact e'.cells.at_ c hc
  · intro c hc
    rcases List.mem_cons.mp hc with rfl | hc
    · exact .inr (e.bnone hp)
    · exact e.mine c hc
/-- a new address is none of the cells' -/
def Fresh (ρ : Rho) (a : Addr) : Prop := ∀ c ∈ ρ.os, c.a ≠ a
theorem Env.fresh {K : PySem.W.Frag} {G : Ent} {F H : Hp} {σ : L2.St} {ρ : Rho} (e : Env K G F H σ ρ) {p : Addr} (hp : H p = none) : Fresh ρ p := fun c hc z => by
  obtain ⟨u, h, _⟩ := e.cells.at_ c hc
  rw [z, hp] at h; cases h
def dLstC (t : DA) : DX := fun ρ P => t ρ ⟨fun ds ρ1 => ds.length ≤ 16777216 ∧ ∀ p, Fresh ρ1 p → P.ok (.raw (.ref p)) (ρ1.add p (.lst ds)), P.ex⟩
theorem px_lstC {es : List Expr} {u : DA} (h : PXA X E es u) : PX X E (.List es pos) (dLstC u) :=
  px_of (pe_lst h) fun G F H σ ρ P Q env q k x => ⟨G, F, ρ, _, env, q, fun F1 H1 ds vs ρ1 l1 env1 r1 ⟨z, q1⟩ => ⟨by rw [← r1.length, sizeLine_eq]; exact z, fun p hp =>
    k _ _ (.raw (.ref p)) _ _ l1 (env1.addC (d := .lst ds) hp ⟨vs, rfl, r1⟩) rfl (q1 p (env1.fresh hp))⟩, x⟩
end
end DL

set_option Elab.async false
set_option linter.all false
set_option maxRecDepth 100000
set_option maxHeartbeats 2000000
namespace DL
open PySem PySem.Spec PyProof.Rows L2

/-! ### statements -/
structure PoS where
  nx : Rho → Prop
  rt : D → Rho → Prop
  bk : Rho → Prop := fun _ => False
  ct : Rho → Prop := fun _ => False
  ex : Addr → List Str → List D → Rho → Prop := fun _ _ _ _ => False
abbrev DS := Rho → PoS → Prop
structure FinS (K : PySem.W.Frag) (E : XK) (G : Ent) (F : Hp) (P : PoS) (Dn : Ends) : Prop where
  nx : ∀ F' H' σ' ρ', Le F F' → Env K G F' H' σ' ρ' → P.nx ρ' → Dn.nx σ' H'
  rt : ∀ F' H' σ' d v ρ', Le F F' → Env K G F' H' σ' ρ' → Rep K F' d v → P.rt d ρ' → Dn.rt v H'
  bk : ∀ F' H' σ' ρ', Le F F' → Env K G F' H' σ' ρ' → P.bk ρ' → Dn.bk σ' H'
  ct : ∀ F' H' σ' ρ', Le F F' → Env K G F' H' σ' ρ' → P.ct ρ' → Dn.ct σ' H'
  ex : ∀ σ, ExW K E G F σ P.ex
theorem FinS.le {K : PySem.W.Frag} {E : XK} {G : Ent} {F F1 : Hp} {P : PoS} {Dn : Ends} (f : FinS K E G F P Dn) (l : Le F F1) : FinS K E G F1 P Dn :=
  ⟨fun F' H' σ' ρ' l1 => f.nx F' H' σ' ρ' (l.trans l1), fun F' H' σ' d v ρ' l1 => f.rt F' H' σ' d v ρ' (l.trans l1), fun F' H' σ' ρ' l1 => f.bk F' H' σ' ρ' (l.trans l1), fun F' H' σ' ρ' l1 => f.ct F' H' σ' ρ' (l.trans l1), fun σ => (f.ex σ).le l⟩
def upS (K : PySem.W.Frag) (E : XK) (t : DS) : TS := fun Dn σ H => ∃ G F ρ P, Env K G F H σ ρ ∧ t ρ P ∧ FinS K E G F P Dn
def PXS (X : Cx) (E : XK) (st : Stmt) (t : DS) : Prop := PS X st (upS X.K E t)
def PXB (X : Cx) (E : XK) (sts : List Stmt) (t : DS) : Prop := PSs X sts (upS X.K E t)
theorem PS.weak {X : Cx} {e : Stmt} {t t' : TS} (h : PS X e t) (w : ∀ D σ H, t' D σ H → t D σ H) : PS X e t' := ⟨fun pins s σ H D I q => h.run pins s σ H D I (w D σ H q)⟩
theorem PSs.weak {X : Cx} {e : List Stmt} {t t' : TS} (h : PSs X e t) (w : ∀ D σ H, t' D σ H → t D σ H) : PSs X e t' := ⟨fun pins s σ H D I q => h.run pins s σ H D I (w D σ H q)⟩
theorem PG.weak {X : Cx} {e : Expr} {t t' : TG} (h : PG X e t) (w : ∀ v σ H Q, t' v σ H Q → t v σ H Q) : PG X e t' := ⟨fun pins s σ H v u Q I r q => h.run pins s σ H v u Q I r (w v σ H Q q)⟩
section
variable {X : Cx} {E : XK} {st : Stmt} {rest body els : List Stmt} {t u : DS} {pos : Pos}
def dNext : DS := fun ρ P => P.nx ρ
def dSeq (t u : DS) : DS := fun ρ P => t ρ { P with nx := fun ρ1 => u ρ1 P }
theorem pb_nil : PXB X E [] dNext := PSs.weak pss_nil fun Dn σ H ⟨G, F, ρ, P, env, q, f⟩ => f.nx F H σ ρ (Le.refl F) env q
theorem pb_cons (h : PXS X E st t) (g : PXB X E rest u) : PXB X E (st :: rest) (dSeq t u) :=
  PSs.weak (pss_cons h g) fun Dn σ H ⟨G, F, ρ, P, env, q, f⟩ => ⟨G, F, ρ, _, env, q, ⟨fun F' H' σ' ρ' l1 env1 q1 => ⟨G, F', ρ', P, env1, q1, f.le l1⟩, f.rt, f.bk, f.ct, f.ex⟩⟩
theorem pb_one (h : PXS X E st t) : PXB X E [st] t := pss_one h
theorem sx_pass : PXS X E (.Pass pos) dNext := PS.weak ps_pass fun Dn σ H ⟨G, F, ρ, P, env, q, f⟩ => f.nx F H σ ρ (Le.refl F) env q
theorem sx_doc {x j pos'} : PXS X E (.Expr (.Constant (.str x) j pos) pos') dNext := PS.weak ps_doc fun Dn σ H ⟨G, F, ρ, P, env, q, f⟩ => f.nx F H σ ρ (Le.refl F) env q
def dBrk : DS := fun ρ P => P.bk ρ
def dCont : DS := fun ρ P => P.ct ρ
theorem sx_break : PXS X E (.Break pos) dBrk := PS.weak ps_break fun Dn σ H ⟨G, F, ρ, P, env, q, f⟩ => f.bk F H σ ρ (Le.refl F) env q
theorem sx_cont : PXS X E (.Continue pos) dCont := PS.weak ps_continue fun Dn σ H ⟨G, F, ρ, P, env, q, f⟩ => f.ct F H σ ρ (Le.refl F) env q
def dNever : DS := fun _ _ => False
theorem sx_never : PXS X E st dNever := PS.weak ps_never fun Dn σ H ⟨G, F, ρ, P, env, q, f⟩ => q
variable {e : Expr} {te : DX} {ua : DT}
def dDrop (t : DX) : DS := fun ρ P => t ρ ⟨fun _ ρ1 => P.nx ρ1, P.ex⟩
theorem sx_expr (h : PX X E e te) (hs : swapsWith e none pos.line X.env = pure false := by rfl) : PXS X E (.Expr e pos) (dDrop te) :=
  PS.weak (ps_expr h hs) fun Dn σ H ⟨G, F, ρ, P, env, q, f⟩ => ⟨G, F, ρ, _, env, q, fun F' H' d v ρ' l1 env1 r q1 => f.nx F' H' σ ρ' l1 env1 q1, f.ex σ⟩
def dRet (t : DX) : DS := fun ρ P => t ρ ⟨P.rt, P.ex⟩
theorem sx_ret (h : PX X E e te) : PXS X E (.Return (some e) pos) (dRet te) :=
  PS.weak (ps_ret h) fun Dn σ H ⟨G, F, ρ, P, env, q, f⟩ => ⟨G, F, ρ, _, env, q, fun F' H' d v ρ' l1 env1 r q1 => f.rt F' H' σ d v ρ' l1 env1 r q1, f.ex σ⟩
def dRetN : DS := fun ρ P => P.rt .non ρ
theorem sx_retN : PXS X E (.Return none pos) dRetN := PS.weak ps_retN fun Dn σ H ⟨G, F, ρ, P, env, q, f⟩ => f.rt F H σ .non .non ρ (Le.refl F) env rfl q
def dIfS (c : DT) (t u : DS) : DS := fun ρ P => c ρ ⟨fun b ρ1 => if b = true then t ρ1 P else u ρ1 P, P.ex⟩
theorem sx_if (h : PXT X E e ua) (h1 : PXB X E body t) (h2 : PXB X E els u) : PXS X E (.If e body els pos) (dIfS ua t u) :=
  PS.weak (ps_if h h1 h2) fun Dn σ H ⟨G, F, ρ, P, env, q, f⟩ => ⟨G, F, ρ, _, env, q, fun F' H' b ρ' l1 env1 q1 => by
    cases b with
    | true =>
      refine iteT ?_
      try dsimp only at q1
      rw [if_pos rfl] at q1
      exact ⟨G, F', ρ', P, env1, q1, f.le l1⟩
    | false =>
      refine iteF ?_
      try dsimp only at q1
      rw [if_neg Bool.false_ne_true] at q1
      exact ⟨G, F', ρ', P, env1, q1, f.le l1⟩, f.ex σ⟩

/-! ### stores -/
theorem Env.set {K : PySem.W.Frag} {G : Ent} {F H : Hp} {σ : L2.St} {ρ : Rho} (e : Env K G F H σ ρ) (i : Nat) {d : D} {v : V} (r : Rep K F d v) : Env K G F H (σ.set i (some v)) (ρ.set i d) := by
  refine ⟨e.fit, e.ext, e.keep, e.new, e.there, fun j x h => ?_, ?_, e.cells, e.mine, e.lo⟩
  · have h : (ρ.sl.set i (some d))[j]? = some (some x) := h
    by_cases q : i = j
    · subst q
      by_cases hl : i < ρ.sl.length
      · rw [List.getElem?_set_self hl] at h
        cases h
        exact ⟨v, List.getElem?_set_self (by rw [← e.len]; exact hl), r⟩
      · rw [List.getElem?_eq_none (by simpa using hl)] at h
        cases h
    · rw [List.getElem?_set_ne q] at h
      obtain ⟨w, h1, h2⟩ := e.slots j x h
      exact ⟨w, by rw [List.getElem?_set_ne q]; exact h1, h2⟩
  · show (ρ.sl.set i (some d)).length = _
    rw [List.length_set, List.length_set]
    exact e.len
abbrev DG := D → Rho → (Rho → Prop) → Prop
abbrev DGs := List D → Rho → (Rho → Prop) → Prop
def upG (K : PySem.W.Frag) (g : DG) : TG := fun v σ H Q => ∃ G F ρ d P, Env K G F H σ ρ ∧ Rep K F d v ∧ g d ρ P ∧ ∀ F' H' σ' ρ', Le F F' → Env K G F' H' σ' ρ' → P ρ' → Q σ' H'
def upGs (K : PySem.W.Frag) (g : DGs) : TGs := fun vs σ H Q => ∃ G F ρ ds P, Env K G F H σ ρ ∧ Reps K F ds vs ∧ g ds ρ P ∧ ∀ F' H' σ' ρ', Le F F' → Env K G F' H' σ' ρ' → P ρ' → Q σ' H'
def PXG (X : Cx) (tg : Expr) (g : DG) : Prop := PG X tg (upG X.K g)
def PXGs (X : Cx) (tgs : List Expr) (g : DGs) : Prop := PGs X tgs (upGs X.K g)
def dgName (i : Nat) : DG := fun d ρ P => P (ρ.set i d)
theorem gx_name (i : Nat) {x : Str} (hN : X.N.Nodup) (hi : X.N[i]? = some x := by rfl) (hx : Loc X.env.scope x := by first | exact .inl rfl | exact .inr rfl) (hf : X.fn x = true ∨ X.env.scope.names.lookup x = some .local := by first | exact .inl rfl | exact .inr rfl) : PXG X (.Name x pos) (dgName i) :=
  PG.weak (pg_name hN hi hx hf) fun v σ H Q ⟨G, F, ρ, d, P, env, r, q, k⟩ => k F H _ _ (Le.refl F) (env.set i r) q
def dgNil : DGs := fun ds ρ P => ds = [] ∧ P ρ
def dgCons (g : DG) (u : DGs) : DGs := fun ds ρ P => ∃ x r, ds = x :: r ∧ g x ρ fun ρ1 => u r ρ1 P
theorem gxs_nil : PXGs X [] dgNil := by
  refine ⟨fun pins s σ H vs us Q I r q => ?_⟩
  obtain ⟨G, F, ρ, ds, P, env, rr, ⟨e, p⟩, k⟩ := q
  subst e
  exact pgs_nil.run pins s σ H vs us Q I r ⟨rr, k F H σ ρ (Le.refl F) env p⟩
theorem gxs_cons {tg : Expr} {tgs : List Expr} {g : DG} {v : DGs} (h1 : PXG X tg g) (h2 : PXGs X tgs v) (hs : (assignEach (tg :: tgs) X.env).map (·.2) = assign tg X.env :: (assignEach tgs X.env).map (·.2) := by rfl) : PXGs X (tg :: tgs) (dgCons g v) := by
  have h := pgs_cons h1 h2 hs
  refine ⟨fun pins s σ H vs us Q I r q => ?_⟩
  obtain ⟨G, F, ρ, ds, P, env, rr, ⟨x, w, e, p⟩, k⟩ := q
  subst e
  obtain ⟨v0, vr, e, r1, r2⟩ := rr
  exact h.run pins s σ H vs us Q I r ⟨v0, vr, e, G, F, ρ, x, _, env, r1, p, fun F1 H1 σ1 ρ1 l1 env1 q1 => ⟨G, F1, ρ1, w, P, env1, r2.mono l1, q1, fun F2 H2 σ2 ρ2 l2 env2 q2 => k F2 H2 σ2 ρ2 (l1.trans l2) env2 q2⟩⟩
def dgTup (n : Nat) (g : DGs) : DG := fun d ρ P => ∃ ds, d = .tup ds ∧ ds.length = n ∧ g ds ρ P
theorem gx_tup {tgs : List Expr} {k n : Nat} {g : DGs} (hc : X.calm = true) (h : PXGs X tgs g) (hn : (assignEach tgs X.env).length = n := by rfl) (hst : (assignEach tgs X.env).findIdx? (·.1) = none := by rfl) : PXG X (.Tuple tgs k pos) (dgTup n g) :=
  PG.weak (pg_tup hc h hn hst) fun v σ H Q ⟨G, F, ρ, d, P, env, r, ⟨ds, ed, hl, q⟩, k⟩ => by
    subst ed
    obtain ⟨a, vs, ev, s, rs⟩ := r
    exact ⟨a, vs, ev, sqT_fit env.fit s, by rw [← rs.length]; exact hl, G, F, ρ, ds, P, env, rs, q, k⟩
def dSet (te : DX) (g : DG) : DS := fun ρ P => te ρ ⟨fun d ρ1 => g d ρ1 P.nx, P.ex⟩
/-- name = e -/
theorem sx_set (i : Nat) {x : Str} {pos' : Pos} (hN : X.N.Nodup) (h : PX X E e te) (hi : X.N[i]? = some x := by rfl) (hx : Loc X.env.scope x := by first | exact .inl rfl | exact .inr rfl) (hs : swapsWith e (some (.Name x pos')) pos.line X.env = pure false := by rfl)
    (hf : X.fn x = true ∨ X.env.scope.names.lookup x = some .local := by first | exact .inl rfl | exact .inr rfl) : PXS X E (.Assign [.Name x pos'] e pos) (dSet te (dgName i)) :=
  PS.weak (ps_set hN hi hx h hs hf) fun Dn σ H ⟨G, F, ρ, P, env, q, f⟩ => ⟨G, F, ρ, _, env, q, fun F' H' d v ρ' l1 env1 r q1 => f.nx F' H' _ _ l1 (env1.set i r) q1, f.ex σ⟩
theorem sx_asg {tg : Expr} {g : DG} (h : PX X E e te) (hg : PXG X tg g) (hs : swapsWithSole [tg] e pos.line X.env = pure false := by rfl) (hw : swappedStores [tg] e X.env = pure none := by rfl) (h1 : (assignEach [tg] X.env).map (·.2) = [assign tg X.env] := by rfl) : PXS X E (.Assign [tg] e pos) (dSet te g) :=
  PS.weak (ps_asg h hg hs hw h1) fun Dn σ H ⟨G, F, ρ, P, env, q, f⟩ => ⟨G, F, ρ, _, env, q, fun F' H' d v ρ' l1 env1 r q1 => ⟨G, F', ρ', d, _, env1, r, q1, fun F2 H2 σ2 ρ2 l2 env2 q2 => f.nx F2 H2 σ2 ρ2 (l1.trans l2) env2 q2⟩, f.ex σ⟩

/-! ### while -/
def dWhile (c : DT) (tb : DS) : DS := fun ρ P => ∃ W : Nat → Rho → Prop, (∃ m, W m ρ) ∧ ∀ m ρ, W m ρ → c ρ ⟨fun b ρ1 => if b = true then
  tb ρ1 { nx := fun ρ2 => ∃ m', m' < m ∧ W m' ρ2, ct := fun ρ2 => ∃ m', m' < m ∧ W m' ρ2, bk := P.nx, rt := P.rt, ex := P.ex } else P.nx ρ1, P.ex⟩
theorem sx_while (hp : PassesOwn (model X.prog X.w) X.A X.env X.xe) (hc : PXT X E e ua) (hb : PXB X E body t) : PXS X E (.While e body [] pos) (dWhile ua t) :=
  PS.weak (ps_while hp hc hb) fun Dn σ H ⟨G, F, ρ, P, env, ⟨W, ⟨m0, w0⟩, turn⟩, f⟩ => by
    refine ⟨fun m σ H => ∃ F1 ρ1, Le F F1 ∧ Env X.K G F1 H σ ρ1 ∧ W m ρ1, ⟨m0, F, ρ, Le.refl F, env, w0⟩, fun m σ1 H1 ⟨F1, ρ1, l1, env1, w1⟩ => ?_⟩
    refine ⟨G, F1, ρ1, _, env1, turn m ρ1 w1, fun F2 H2 b ρ2 l2 env2 q2 => ?_, (f.ex σ1).le l1⟩
    cases b with
    | true =>
      refine iteT ?_
      try dsimp only at q2
      rw [if_pos rfl] at q2
      have go : ∀ F' H' σ' ρ', Le F2 F' → Env X.K G F' H' σ' ρ' → (∃ m', m' < m ∧ W m' ρ') → ∃ m', m' < m ∧ ∃ F1 ρ1, Le F F1 ∧ Env X.K G F1 H' σ' ρ1 ∧ W m' ρ1 := fun F' H' σ' ρ' l3 env3 ⟨m', hm, w⟩ => ⟨m', hm, F', ρ', (l1.trans l2).trans l3, env3, w⟩
      exact ⟨fun σ' H' => ∃ m', m' < m ∧ ∃ F1 ρ1, Le F F1 ∧ Env X.K G F1 H' σ' ρ1 ∧ W m' ρ1, fun _ _ h => h, G, F2, ρ2, _, env2, q2, ⟨go, (f.le (l1.trans l2)).rt, (f.le (l1.trans l2)).nx, go, (f.le (l1.trans l2)).ex⟩⟩
    | false =>
      refine iteF ?_
      try dsimp only at q2
      rw [if_neg Bool.false_ne_true] at q2
      exact f.nx F2 H2 σ1 ρ2 (l1.trans l2) env2 q2

/-! ### what is walked -/
structure WalkD (K : PySem.W.Frag) (J : It) (F : Hp) (ds : List D) : Prop where
  goes : ∀ i H F', i < ds.length → Le F F' → (∀ a u, F' a = some u → H a = some u) → J.go i H
  stops : ∀ H F', Le F F' → (∀ a u, F' a = some u → H a = some u) → J.stop ds.length H
  yields : ∀ i H x H' F', i < ds.length → Le F F' → (∀ a u, F' a = some u → H a = some u) → J.yld i H x H' → ∃ d, ds[i]? = some d ∧
    ((H' = H ∧ Rep K F' d x) ∨ ∃ T xs es, H T = none ∧ H' = upd H T (.tup xs) ∧ x = .ref T ∧ d = .tup es ∧ Reps K F' es xs)
abbrev DI := Rho → Po (List D) → Prop
def upI (K : PySem.W.Frag) (E : XK) (wi : DI) : TI := fun σ H R => ∃ G F ρ P, Env K G F H σ ρ ∧ wi ρ P ∧ (∀ F' H' ds ρ' J, Le F F' → Env K G F' H' σ ρ' → WalkD K J F' ds → P.ok ds ρ' → R J H') ∧ ExW K E G F σ P.ex
def PXI (X : Cx) (E : XK) (tg iter : Expr) (wi : DI) : Prop := PI X tg iter (upI X.K E wi)
theorem PI.weak {X : Cx} {tg e : Expr} {t t' : TI} (h : PI X tg e t) (w : ∀ σ H Q, t' σ H Q → t σ H Q) : PI X tg e t' := ⟨fun pins s σ H Q I q => h.run pins s σ H Q I (w σ H Q q)⟩
/-- what a turn yields: the state behind -/
theorem WalkD.turnG {K : PySem.W.Frag} {J : It} {F : Hp} {ds : List D} (w : WalkD K J F ds) {F1 H : Hp} {x : V} {H' : Hp} {i : Nat} (l : Le F F1) (fit : ∀ a u, F1 a = some u → H a = some u) (hi : i < ds.length) (y : J.yld i H x H') :
    ∃ d F2, ds[i]? = some d ∧ Grow F1 H F2 H' ∧ Rep K F2 d x := by
  obtain ⟨d, hd, h⟩ := w.yields i H x H' F1 hi l fit y
  rcases h with ⟨e, r⟩ | ⟨T, xs, es, hT, e, ex, ed, r⟩
  · subst e
    exact ⟨d, F1, hd, Grow.refl fit, r⟩
  · subst e ex ed
    exact ⟨_, _, hd, Grow.alloc (o := .tup xs) fit hT, rep_newT (none_sub fit hT) r⟩
theorem WalkD.turn {K : PySem.W.Frag} {J : It} {F : Hp} {ds : List D} (w : WalkD K J F ds) {G : Ent} {F1 H x H' σ ρ} {i : Nat} (l : Le F F1) (env : Env K G F1 H σ ρ) (hi : i < ds.length) (y : J.yld i H x H') :
    ∃ d F2, ds[i]? = some d ∧ Le F1 F2 ∧ Env K G F2 H' σ ρ ∧ Rep K F2 d x := by
  obtain ⟨d, F2, hd, g, r⟩ := w.turnG l env.fit hi y
  exact ⟨d, F2, hd, g.le, env.grow g, r⟩
def dFor (wi : DI) (g : DG) (tb : DS) : DS := fun ρ P => wi ρ ⟨fun ds ρ1 => ∃ W : Nat → Rho → Prop, W 0 ρ1 ∧
  (∀ i d ρ2, ds[i]? = some d → W i ρ2 → g d ρ2 fun ρ3 => tb ρ3 { nx := W (i + 1), ct := W (i + 1), bk := P.nx, rt := P.rt, ex := P.ex }) ∧ ∀ ρ2, W ds.length ρ2 → P.nx ρ2, P.ex⟩
theorem for_up {K : PySem.W.Frag} {J : It} {E : XK} {G : Ent} {F H σ ρ} {ds : List D} {g : DG} {tb : DS} {P : PoS} {Dn : Ends} (w : WalkD K J F ds) (env : Env K G F H σ ρ) (f : FinS K E G F P Dn)
    (q : ∃ W : Nat → Rho → Prop, W 0 ρ ∧ (∀ i d ρ2, ds[i]? = some d → W i ρ2 → g d ρ2 fun ρ3 => tb ρ3 { nx := W (i + 1), ct := W (i + 1), bk := P.nx, rt := P.rt, ex := P.ex }) ∧ ∀ ρ2, W ds.length ρ2 → P.nx ρ2) :
    ∃ W : Nat → Nat → L2.St → Hp → Prop, (∃ m, W 0 m σ H) ∧ ∀ i m σ H, W i m σ H →
      (J.stop i H ∧ Dn.nx σ H) ∨ (J.go i H ∧ ∃ N : L2.St → Hp → Prop, (∀ σ' H', N σ' H' → ∃ m', m' < m ∧ W (i + 1) m' σ' H') ∧ ∀ x H', J.yld i H x H' → upG K g x σ H' fun σ2 H2 => upS K E tb { Dn with nx := N, ct := N, bk := Dn.nx } σ2 H2) := by
  obtain ⟨W, w0, turn, fin⟩ := q
  refine ⟨fun i m σ H => m = ds.length - i ∧ i ≤ ds.length ∧ ∃ F1 ρ1, Le F F1 ∧ Env K G F1 H σ ρ1 ∧ W i ρ1, ⟨ds.length, by simp, Nat.zero_le _, F, ρ, Le.refl F, env, w0⟩, ?_⟩
  rintro i m σ1 H1 ⟨rfl, hi, F1, ρ1, l1, env1, w1⟩
  by_cases hlt : i < ds.length
  · refine .inr ⟨w.goes i H1 F1 hlt l1 env1.fit, fun σ' H' => ∃ F1 ρ1, Le F F1 ∧ Env K G F1 H' σ' ρ1 ∧ W (i + 1) ρ1, fun σ' H' h => ⟨ds.length - (i + 1), by omega, rfl, hlt, h⟩, fun x H' y => ?_⟩
    obtain ⟨d, F2, hd, l2, env2, r2⟩ := w.turn l1 env1 hlt y
    refine ⟨G, F2, ρ1, d, _, env2, r2, turn i d ρ1 hd w1, fun F3 H3 σ3 ρ3 l3 env3 q3 => ?_⟩
    have l := (l1.trans l2).trans l3
    have go : ∀ F' H' σ' ρ', Le F3 F' → Env K G F' H' σ' ρ' → W (i + 1) ρ' → ∃ F1 ρ1, Le F F1 ∧ Env K G F1 H' σ' ρ1 ∧ W (i + 1) ρ1 := fun F' H' σ' ρ' l4 env4 w4 => ⟨F', ρ', l.trans l4, env4, w4⟩
    exact ⟨G, F3, ρ3, _, env3, q3, ⟨go, (f.le l).rt, (f.le l).nx, go, (f.le l).ex⟩⟩
  · have e : i = ds.length := by omega
    subst e
    exact .inl ⟨w.stops H1 F1 l1 env1.fit, f.nx F1 H1 σ1 ρ1 l1 env1 (fin ρ1 w1)⟩
theorem sx_for {tg iter : Expr} {wi : DI} {g : DG} (hp : PassesOwn (model X.prog X.w) X.A X.env X.xe) (hc : X.calm = true) (hi : PXI X E tg iter wi) (hg : PXG X tg g) (hb : PXB X E body t)
    (hs : ∀ x, foldedSetIterable iter X.env x = pure x := by intro _; rfl) : PXS X E (.For tg iter body [] pos) (dFor wi g t) :=
  PS.weak (ps_for hp hc hi hg hb hs) fun Dn σ H ⟨G, F, ρ, P, env, q, f⟩ => ⟨G, F, ρ, _, env, q, fun F1 H1 ds ρ1 J l1 env1 w1 q1 => for_up w1 env1 (f.le l1) q1, f.ex σ⟩
end
/-! ### the walks -/
section
variable {X : Cx} {E : XK} {tg : Expr} {e : Expr} {te : DX} {pos : Pos}
/-- over a list or a tuple of data -/
def dSeqI (te : DX) : DI := fun ρ P => te ρ ⟨fun d ρ1 => ∃ ds, d = .lst ds ∧ P.ok ds ρ1, P.ex⟩
def dTupI (te : DX) : DI := fun ρ P => te ρ ⟨fun d ρ1 => ∃ ds, d = .tup ds ∧ P.ok ds ρ1, P.ex⟩
theorem walkD_list {K : PySem.W.Frag} {F : Hp} {a : Addr} {xs : List V} {ds : List D} (h : SqL K F a xs) (r : Reps K F ds xs) : WalkD K (Itl K a) F ds := by
  have n := r.length
  refine ⟨fun i H F' hi l f => ?_, fun H F' l f => ?_, fun i H x H' F' hi l f y => ?_⟩
  · exact ⟨xs, xs[i]'(by omega), sqL_fit f (sqL_mono l.l0 h), by simp [show i < xs.length by omega]⟩
  · exact ⟨xs, sqL_fit f (sqL_mono l.l0 h), by omega⟩
  · obtain ⟨e, y⟩ := y
    obtain ⟨d, hd, rd⟩ := (r.mono l).get' (y xs (sqL_fit f (sqL_mono l.l0 h)))
    exact ⟨d, hd, .inl ⟨e, rd⟩⟩
theorem walkD_tup {K : PySem.W.Frag} {F : Hp} {a : Addr} {xs : List V} {ds : List D} (h : SqT K F a xs) (r : Reps K F ds xs) : WalkD K (Itt K a) F ds := by
  have n := r.length
  refine ⟨fun i H F' hi l f => ?_, fun H F' l f => ?_, fun i H x H' F' hi l f y => ?_⟩
  · exact ⟨xs, xs[i]'(by omega), sqT_fit f (sqT_mono l.l0 h), by simp [show i < xs.length by omega]⟩
  · exact ⟨xs, sqT_fit f (sqT_mono l.l0 h), by omega⟩
  · obtain ⟨e, y⟩ := y
    obtain ⟨d, hd, rd⟩ := (r.mono l).get' (y xs (sqT_fit f (sqT_mono l.l0 h)))
    exact ⟨d, hd, .inl ⟨e, rd⟩⟩
theorem ix_list (h : PX X E e te) : PXI X E tg e (dSeqI te) :=
  PI.weak (pi_list h) fun σ H Q ⟨G, F, ρ, P, env, q, k, x⟩ => ⟨G, F, ρ, _, env, q, fun F1 H1 d v ρ1 l1 env1 r1 ⟨ds, ed, q1⟩ => by
    subst ed
    obtain ⟨a, vs, ev, s, rs⟩ := r1
    exact ⟨a, ev, ⟨vs, sqL_fit env1.fit (.inl s)⟩, k F1 H1 ds ρ1 _ l1 env1 (walkD_list (.inl s) rs) q1⟩, x⟩
theorem ix_tup (h : PX X E e te) : PXI X E tg e (dTupI te) :=
  PI.weak (pi_tup h) fun σ H Q ⟨G, F, ρ, P, env, q, k, x⟩ => ⟨G, F, ρ, _, env, q, fun F1 H1 d v ρ1 l1 env1 r1 ⟨ds, ed, q1⟩ => by
    subst ed
    obtain ⟨a, vs, ev, s, rs⟩ := r1
    exact ⟨a, ev, ⟨vs, sqT_fit env1.fit s⟩, k F1 H1 ds ρ1 _ l1 env1 (walkD_tup s rs) q1⟩, x⟩
/-- a text, sign by sign -/
def signs (s : List Nat) : List D := s.map fun c => .str [c]
def dStrI (te : DX) : DI := fun ρ P => te ρ ⟨fun d ρ1 => ∃ s, d = .str s ∧ P.ok (signs s) ρ1, P.ex⟩
theorem walkD_str {K : PySem.W.Frag} {F : Hp} {s : List Nat} : WalkD K (Its (mkS s)) F (signs s) := by
  have n : (signs s).length = s.length := by simp [signs]
  refine ⟨fun i H F' hi l f => ?_, fun H F' l f => ?_, fun i H x H' F' hi l f y => ?_⟩
  · show i < (mkS s).cps.size
    simp only [List.size_toArray]
    omega
  · show (mkS s).cps.size ≤ _
    simp only [List.size_toArray]
    omega
  · obtain ⟨e, c, hc, ex⟩ := y
    subst ex
    have hc : s[i]? = some c := by simpa using hc
    refine ⟨.str [c], ?_, .inl ⟨e, rfl⟩⟩
    unfold signs
    rw [List.getElem?_map, hc]
    rfl
theorem ix_str (h : PX X E e te) : PXI X E tg e (dStrI te) :=
  PI.weak (pi_str h) fun σ H Q ⟨G, F, ρ, P, env, q, k, x⟩ => ⟨G, F, ρ, _, env, q, fun F1 H1 d v ρ1 l1 env1 r1 ⟨s, ed, q1⟩ => by
    subst ed
    cases r1
    exact ⟨mkS s, rfl, k F1 H1 (signs s) ρ1 _ l1 env1 walkD_str q1⟩, x⟩
/-- range(n) -/
def intsD (lo : Int) (n : Nat) : List D := (List.range n).map fun (i : Nat) => D.int (lo + (i : Int))
def dRng1 (ta : DA) : DI := fun ρ P => ta ρ ⟨fun ds ρ1 => ∃ j : Int, ds = [.int j] ∧ -(2 ^ 62) ≤ j ∧ j < 2 ^ 62 ∧ P.ok (intsD 0 j.toNat) ρ1, P.ex⟩
def dRng2 (ta : DA) : DI := fun ρ P => ta ρ ⟨fun ds ρ1 => ∃ i j : Int, ds = [.int i, .int j] ∧ (-(2 ^ 62) ≤ i ∧ i < 2 ^ 62 ∧ -(2 ^ 62) ≤ j ∧ j < 2 ^ 62) ∧ P.ok (intsD i (j - i).toNat) ρ1, P.ex⟩
theorem walkD_range {K : PySem.W.Frag} {F : Hp} {lo : Int} {n : Nat} : WalkD K (Itr lo n) F (intsD lo n) := by
  have hn : (intsD lo n).length = n := by simp [intsD]
  refine ⟨fun i H F' hi l f => ?_, fun H F' l f => ?_, fun i H x H' F' hi l f y => ?_⟩
  · show i < n
    omega
  · show n ≤ _
    omega
  · obtain ⟨e, ex⟩ := y
    subst ex
    refine ⟨.int (lo + i), ?_, .inl ⟨e, rfl⟩⟩
    unfold intsD
    rw [List.getElem?_map, List.getElem?_range (by omega)]
    rfl
theorem reps1 {K : PySem.W.Frag} {F : Hp} {d : D} {vs : List V} (h : Reps K F [d] vs) : ∃ v, vs = [v] ∧ Rep K F d v := by
  obtain ⟨v, w, e, r, rr⟩ := h
  cases rr
  exact ⟨v, e, r⟩
theorem reps2 {K : PySem.W.Frag} {F : Hp} {d d' : D} {vs : List V} (h : Reps K F [d, d'] vs) : ∃ v v', vs = [v, v'] ∧ Rep K F d v ∧ Rep K F d' v' := by
  obtain ⟨v, w, e, r, rr⟩ := h
  obtain ⟨v', e', r'⟩ := reps1 rr
  subst e'
  exact ⟨v, v', e, r, r'⟩
theorem ix_range1 {a : Expr} {ta : DA} {p : Pos} (hm : X.mg "range" = none) (ha : PXA X E [a] ta) (hg : Gl X "range" := by rfl) (hs : starEach [a] X.env = [(false, eval a X.env)] := by rfl) : PXI X E tg (.Call (.Name "range" p) [a] [] pos) (dRng1 ta) :=
  PI.weak (pi_range1 hg hm ha hs) fun σ H Q ⟨G, F, ρ, P, env, q, k, x⟩ => ⟨G, F, ρ, _, env, q, fun F1 H1 ds vs ρ1 l1 env1 r1 ⟨j, ed, b1, b2, q1⟩ => by
    subst ed
    obtain ⟨v, ev, r⟩ := reps1 r1
    cases r
    exact ⟨j, ev, b1, b2, k F1 H1 _ ρ1 _ l1 env1 walkD_range q1⟩, x⟩
theorem ix_range2 {a b : Expr} {ta : DA} {p : Pos} (hm : X.mg "range" = none) (ha : PXA X E [a, b] ta) (hg : Gl X "range" := by rfl) (hs : starEach [a, b] X.env = [(false, eval a X.env), (false, eval b X.env)] := by rfl) (hs2 : starEach [b] X.env = [(false, eval b X.env)] := by rfl) :
    PXI X E tg (.Call (.Name "range" p) [a, b] [] pos) (dRng2 ta) :=
  PI.weak (pi_range2 hg hm ha hs hs2) fun σ H Q ⟨G, F, ρ, P, env, q, k, x⟩ => ⟨G, F, ρ, _, env, q, fun F1 H1 ds vs ρ1 l1 env1 r1 ⟨i, j, ed, b, q1⟩ => by
    subst ed
    obtain ⟨v, v', ev, r, r'⟩ := reps2 r1
    cases r
    cases r'
    exact ⟨i, j, ev, b, k F1 H1 _ ρ1 _ l1 env1 walkD_range q1⟩, x⟩
end
end DL

set_option Elab.async false
set_option linter.all false
set_option maxRecDepth 100000
set_option maxHeartbeats 2000000
namespace DL
open PySem PySem.Spec PyProof.Rows L2

/-! ### promises over data -/
structure PoF where
  ok : D → List Cell → Prop
  ex : Addr → List Str → List D → List Cell → Prop := fun _ _ _ _ => False
abbrev DF := List D → List Cell → PoF → Prop
structure After (K : PySem.W.Frag) (F H : Hp) (os : List Cell) (F' H' : Hp) (os' : List Cell) : Prop where
  le : Le F F'
  fit : ∀ a u, F' a = some u → H' a = some u
  keep : ∀ a u, H a = some u → a ∉ addrs os → H' a = some u
  there : ∀ a, H a ≠ none → H' a ≠ none
  new : ∀ a, F a = none → H a ≠ none → F' a = none
  cells : Cells K F' H' os'
  mine : ∀ c ∈ os', c.a ∈ addrs os ∨ H c.a = none
def Pr (K : PySem.W.Frag) (R : DF) : Sp := fun vs H Q E => ∃ F ds os P, (∀ a u, F a = some u → H a = some u) ∧ Cells K F H os ∧ Reps K F ds vs ∧ R ds os P ∧
  (∀ F' H' d v os', After K F H os F' H' os' → Rep K F' d v → P.ok d os' → Q v H') ∧
  (∀ F' H' C ns ds' vs' e os', After K F H os F' H' os' → H' e = some (.xd (ns.zip vs')) → ns.length = ds'.length → Reps K F' ds' vs' → P.ex C ns ds' os' → E (.ref C) (some e) H')
def start0 (n : Nat) (ds : List D) (os : List Cell) : Rho := ⟨ds.map some ++ List.replicate (n - ds.length) none, os, fun _ => False⟩
/-- a def's ends, told by its body's -/
def bodyP (P : PoF) : PoS where
  nx := fun ρ => ∃ os', os'.Sublist ρ.os ∧ P.ok .non os'
  rt := fun d ρ => ∃ os', os'.Sublist ρ.os ∧ P.ok d os'
  ex := fun C ns ds ρ => ∃ os', os'.Sublist ρ.os ∧ P.ex C ns ds os'
section
variable {K : PySem.W.Frag} {G : Ent} {F H F' H' : Hp} {σ : L2.St} {ρ : Rho} {os os' : List Cell}
theorem Cells.sub (c : Cells K F H os) (s : os'.Sublist os) : Cells K F H os' :=
  ⟨c.nd.sublist (s.map _), fun x hx => c.nof x (s.subset hx), fun x hx => c.at_ x (s.subset hx)⟩
def entOf (F H : Hp) (os : List Cell) : Ent := ⟨H, F, fun a => a ∈ addrs os⟩
theorem env_start {ds : List D} {vs : List V} {N : List Str} (f : ∀ a u, F a = some u → H a = some u) (c : Cells K F H os) (r : Reps K F ds vs) : Env K (entOf F H os) F H (L2.start N vs) (start0 N.length ds os) := by
  have n := r.length
  refine ⟨f, Le.refl F, fun _ _ h _ => h, fun _ h _ => h, fun _ h => h, fun i d h => ?_, ?_, c, fun x hx => .inl (List.mem_map.mpr ⟨x, hx, rfl⟩), fun _ h => h.elim⟩
  · have h : (ds.map some ++ List.replicate (N.length - ds.length) none)[i]? = some (some d) := h
    by_cases hi : i < ds.length
    · rw [List.getElem?_append_left (by simpa using hi), List.getElem?_map] at h
      cases e : ds[i]? with
      | none => rw [e] at h; cases h
      | some x =>
        rw [e] at h
        cases h
        obtain ⟨v, hv, rv⟩ := r.get e
        refine ⟨v, ?_, rv⟩
        unfold L2.start
        rw [List.getElem?_append_left (by simp; omega), List.getElem?_map, hv]
        rfl
    · rw [List.getElem?_append_right (by simpa using hi), List.getElem?_replicate] at h
      split at h <;> cases h
  · show (ds.map some ++ List.replicate (N.length - ds.length) none).length = (L2.start N vs).length
    unfold L2.start
    simp
    omega
theorem env_after (e : Env K (entOf F H os) F' H' σ ρ) (s : os'.Sublist ρ.os) : After K F H os F' H' os' :=
  ⟨e.ext, e.fit, fun a u h n => e.keep a u h n, e.there, fun a h1 h2 => e.new a h1 h2, e.cells.sub s, fun c hc => e.mine c (s.subset hc)⟩
end
section
variable {P : Program} {w : World} {K : PySem.W.Frag} {mg : Str → Option Value} {base : Heap}
/-- THE RULE for a def that raises nothing: its body's reading over data -/
theorem okD {x qual : Str} {st : Stmt} {f : Addr} {fd : FuncData} {N ps : List Str} {k : Nat} {R : DF} (F : Fun K x qual st f fd) (S : FnScope N ps (defScope st)) (len : ∀ ds os P, R ds os P → ds.length = ps.length)
    (hbp : ∃ t : DS, (∀ (cdv : Value) (A : Around) (outer : List PySem.Env) (s : Shared) (H : Hp), Room k (A.deeper (envOfC qual (defScope st) s.heap.objs.size f cdv)) →
      PXB (cxOf CX0 P w K mg base N qual (defScope st) f cdv A outer s H E0).nox E0 (defBody st) t) ∧
    ∀ ds os P, R ds os P → (∀ C ns ds' os', ¬ P.ex C ns ds' os') → t (start0 N.length ds os) (bodyP P)) : FnOk P w K mg base CX0 (k + 1) f fd ps (Pr K fun ds os P => R ds os P ∧ ∀ C ns ds' os', ¬ P.ex C ns ds' os') := by
  obtain ⟨t, hb, hp⟩ := hbp
  refine F.ok S (fun vs H Q E ⟨F0, ds, os, PP, _, _, r, ⟨h, _⟩, _⟩ => by rw [← r.length]; exact len ds os PP h) (fun cdv A outer s H vs Q E hr ⟨F0, ds, os, PP, fit, c, r, ⟨h, hx⟩, k1, _⟩ => ?_)
  refine ⟨_, hb cdv A outer s H hr, entOf F0 H os, F0, _, _, env_start fit c r, hp ds os PP h hx, ⟨fun F' H' σ' ρ' l e ⟨os', sb, q⟩ => k1 F' H' .non .non os' (env_after e sb) rfl q,
    fun F' H' σ' d v ρ' l e rv ⟨os', sb, q⟩ => k1 F' H' d v os' (env_after e sb) rv q, fun _ _ _ _ _ _ h => h.elim, fun _ _ _ _ _ _ h => h.elim, fun σ F' H' C ns ds' vs' e ρ' σ' l env _ _ _ ⟨os', _, z⟩ => hx C ns ds' os' z⟩⟩
end

/-! ### a def that is known by its name -/
/-- R, and no exception is wished -/
abbrev NoX (R : DF) : DF := fun ds os P => R ds os P ∧ ∀ C ns ds' os', ¬ P.ex C ns ds' os'
structure Kn (P : Program) (w : World) (K : PySem.W.Frag) (mg : Str → Option Value) (base : Heap) (CX : CXT) (x : Str) (k : Nat) (ps : List Str) (R : DF) : Prop where
  ex : ∃ f fd, mg x = some (.ref f) ∧ PySem.W.keepIn K (.ref f) = true ∧ Binds K fd ps [] ∧ FnOk P w K mg base CX k f fd ps (Pr K R)
/-- .. one that raises nothing -/
abbrev Kn0 (P : Program) (w : World) (K : PySem.W.Frag) (mg : Str → Option Value) (base : Heap) (x : Str) (k : Nat) (ps : List Str) (R : DF) : Prop := Kn P w K mg base CX0 x k ps (NoX R)
section
variable {X : Cx} {E : XK} {CX : CXT} {x m : Str} {k : Nat} {ps : List Str} {R : DF} {e o : Expr} {es : List Expr} {u : DA} {to : DX} {p pos apos : Pos}
/-- what a caller gives and gets: no cells -/
def dCall (R : DF) (u : DA) : DX := fun ρ P => u ρ ⟨fun ds ρ1 => R ds [] ⟨fun d os' => P.ok d ρ1, fun C ns ds' os' => P.ex C ns ds' ρ1⟩, P.ex⟩
/-- .. the cells os1; os2 are left -/
def Rho.ret (ρ : Rho) (os1 os' os2 : List Cell) : Rho := { ρ with os := os' ++ os2, lo := fun a => ρ.lo a ∨ (a ∈ addrs os' ∧ a ∉ addrs os1) }
def dCallC (R : DF) (u : DA) : DX := fun ρ P => u ρ ⟨fun ds ρ1 => ∃ os1 os2, ρ1.os.Perm (os1 ++ os2) ∧ R ds os1 ⟨fun d os' => P.ok d (ρ1.ret os1 os' os2), fun C ns ds' os' => P.ex C ns ds' (ρ1.ret os1 os' os2)⟩, P.ex⟩
section
variable {K : PySem.W.Frag} {G : Ent} {F H F' H' : Hp} {σ : L2.St} {ρ : Rho} {os1 os2 os' : List Cell}
theorem mem_addrs {os : List Cell} {a : Addr} : a ∈ addrs os ↔ ∃ c ∈ os, c.a = a := by simp [addrs]
theorem Env.callC (e : Env K G F H σ ρ) (p : ρ.os.Perm (os1 ++ os2)) (a : After K F H os1 F' H' os') : Env K G F' H' σ (ρ.ret os1 os' os2) := by
  have mem1 : ∀ c ∈ os1, c ∈ ρ.os := fun c hc => p.mem_iff.mpr (List.mem_append_left _ hc)
  have mem2 : ∀ c ∈ os2, c ∈ ρ.os := fun c hc => p.mem_iff.mpr (List.mem_append_right _ hc)
  have nd : (addrs os1 ++ addrs os2).Nodup := by
    have q := (p.map Cell.a).nodup_iff.mp e.cells.nd
    rw [List.map_append] at q
    exact q
  have nd2 := List.nodup_append.mp nd
  have out2 : ∀ c ∈ os2, c.a ∉ addrs os1 := fun c hc z => nd2.2.2 _ z _ (mem_addrs.mpr ⟨c, hc, rfl⟩) rfl
  have nn : ∀ c ∈ ρ.os, H c.a ≠ none := fun c hc => by
    obtain ⟨o, h, _⟩ := e.cells.at_ c hc
    rw [h]; simp
  have out3 : ∀ c ∈ os', ∀ c2 ∈ os2, c.a ≠ c2.a := fun c hc c2 hc2 z => by
    rcases a.mine c hc with q | q
    · exact out2 c2 hc2 (z ▸ q)
    · exact nn c2 (mem2 c2 hc2) (z ▸ q)
  refine ⟨a.fit, e.ext.trans a.le, fun b v h n => ?_, fun b h1 h2 => a.new b (e.new b h1 h2) (e.there b h2), fun b h => a.there b (e.there b h), fun i d h => ?_, e.len, ⟨?_, ?_, ?_⟩, ?_, ?_⟩
  · refine a.keep b v (e.keep b v h n) fun z => ?_
    obtain ⟨c, hc, z⟩ := mem_addrs.mp z
    subst z
    rcases e.mine c (mem1 c hc) with q | q
    · exact n q
    · rw [h] at q; cases q
  · obtain ⟨v, h1, r⟩ := e.slots i d h
    exact ⟨v, h1, r.mono a.le⟩
  · show (addrs (os' ++ os2)).Nodup
    unfold addrs
    rw [List.map_append]
    refine List.nodup_append.mpr ⟨a.cells.nd, nd2.2.1, fun x hx y hy z => ?_⟩
    obtain ⟨c, hc, q⟩ := List.mem_map.mp hx
    obtain ⟨c2, hc2, q2⟩ := List.mem_map.mp hy
    exact out3 c hc c2 hc2 (by rw [q, q2, z])
  · intro c hc
    rcases List.mem_append.mp hc with hc | hc
    · exact a.cells.nof c hc
    · exact a.new _ (e.cells.nof c (mem2 c hc)) (nn c (mem2 c hc))
  · intro c hc
    rcases List.mem_append.mp hc with hc | hc
    · exact a.cells.at_ c hc
    · obtain ⟨o, h, i⟩ := e.cells.at_ c (mem2 c hc)
      exact ⟨o, a.keep _ _ h (out2 c hc), i.mono a.le⟩
  · intro c hc
    rcases List.mem_append.mp hc with hc | hc
    · rcases a.mine c hc with q | q
      · obtain ⟨c1, hc1, z⟩ := mem_addrs.mp q
        rw [← z]
        exact e.mine c1 (mem1 c1 hc1)
      · refine .inr ?_
        cases z : G.B c.a with
        | none => rfl
        | some v => exact absurd q (e.there _ (by rw [z]; simp))
    · exact e.mine c (mem2 c hc)
  · intro b hb
    rcases hb with hb | ⟨hb, hn⟩
    · exact ⟨(e.lo b hb).1, a.there b (e.lo b hb).2⟩
    · obtain ⟨c, hc, z⟩ := mem_addrs.mp hb
      subst z
      rcases a.mine c hc with q | q
      · exact absurd q hn
      · refine ⟨?_, ?_⟩
        · cases z : G.B c.a with
          | none => rfl
          | some v => exact absurd q (e.there _ (by rw [z]; simp))
        · obtain ⟨o, h, _⟩ := a.cells.at_ c hc
          rw [h]; simp
/-- behind a call that got no cells: what it made is forgotten -/
theorem Env.call0 (e : Env K G F H σ ρ) (a : After K F H [] F' H' os') : Env K G F' H' σ ρ := by
  have k : ∀ b u, H b = some u → H' b = some u := fun b u h => a.keep b u h (by simp [addrs])
  exact e.grow ⟨a.le, a.fit, k, a.new⟩
end
theorem cells_nil {K : PySem.W.Frag} {F H : Hp} : Cells K F H [] := ⟨List.nodup_nil, (fun _ h => by cases h), (fun _ h => by cases h)⟩
/-- the promise at a call, over data -/
theorem pr_call {K : PySem.W.Frag} {G : Ent} {F H : Hp} {σ : L2.St} {ρ : Rho} {ds : List D} {vs : List V} {P : Po D} {Q : VK} (env : Env K G F H σ ρ) (r : Reps K F ds vs)
    (h : R ds [] ⟨fun d os' => P.ok d ρ, fun C ns ds' os' => P.ex C ns ds' ρ⟩) (k : ∀ F' H' d v ρ', Le F F' → Env K G F' H' σ ρ' → Rep K F' d v → P.ok d ρ' → Q v H') (x : ExW K E G F σ P.ex) : Pr K R vs H Q E :=
  ⟨F, ds, [], _, env.fit, cells_nil, r, h, fun F' H' d v os' a rv q => k F' H' d v ρ a.le (env.call0 a) rv q, fun F' H' C ns ds' vs' e os' a he hl rr q => x F' H' C ns ds' vs' e ρ σ a.le (env.call0 a) he hl rr q⟩
theorem pr_callC {K : PySem.W.Frag} {G : Ent} {F H : Hp} {σ : L2.St} {ρ : Rho} {ds : List D} {vs : List V} {P : Po D} {Q : VK} (env : Env K G F H σ ρ) (r : Reps K F ds vs)
    (h : ∃ os1 os2, ρ.os.Perm (os1 ++ os2) ∧ R ds os1 ⟨fun d os' => P.ok d (ρ.ret os1 os' os2), fun C ns ds' os' => P.ex C ns ds' (ρ.ret os1 os' os2)⟩) (k : ∀ F' H' d v ρ', Le F F' → Env K G F' H' σ ρ' → Rep K F' d v → P.ok d ρ' → Q v H') (x : ExW K E G F σ P.ex) : Pr K R vs H Q E := by
  obtain ⟨os1, os2, p, h⟩ := h
  have c : Cells K F H os1 := by
    have mem1 : ∀ c ∈ os1, c ∈ ρ.os := fun c hc => p.mem_iff.mpr (List.mem_append_left _ hc)
    have q := (p.map Cell.a).nodup_iff.mp env.cells.nd
    rw [List.map_append] at q
    exact ⟨(List.nodup_append.mp q).1, fun c hc => env.cells.nof c (mem1 c hc), fun c hc => env.cells.at_ c (mem1 c hc)⟩
  exact ⟨F, ds, os1, _, env.fit, c, r, h, fun F' H' d v os' a rv q => k F' H' d v _ a.le (env.callC p a) rv q, fun F' H' C ns ds' vs' e os' a he hl rr q => x F' H' C ns ds' vs' e _ σ a.le (env.callC p a) he hl rr q⟩
theorem app0 {α : Type} {l : List α} {P : List α → Prop} (h : P l) : P (l ++ []) := by rw [List.append_nil]; exact h
theorem px_call (G : Kn X.prog X.w X.K X.mg X.base CX x k ps R) (hr : Room k X.A) (hx : Passes CX X E) (ha : PXA X E (e :: es) u) (hg : Gl X x := by rfl) (hdb : (x == ("__debug__" : Str)) = false := by decide)
    (he : starEach (e :: es) X.env = (false, eval e X.env) :: starEach es X.env := by rfl) (hpl : (backTo pos (starEach es X.env)).any (·.1) = false := by rfl) : PX X E (.Call (.Name x p) (e :: es) [] pos) (dCall R u) := by
  obtain ⟨f, fd, mf, kp, b, Fk⟩ := G.ex
  exact px_of (pe_call Fk hr hg mf kp b .nil hx ha hdb he hpl) fun G F H σ ρ P Q env q k x => ⟨G, F, ρ, _, env, q, fun F1 H1 ds vs ρ1 l1 env1 r1 q1 =>
    app0 (P := fun l => Pr X.K R l H1 Q E) (pr_call env1 r1 q1 (fun F' H' d v ρ' l => k F' H' d v ρ' (l1.trans l)) (x.le l1)), x⟩
theorem px_callC (G : Kn X.prog X.w X.K X.mg X.base CX x k ps R) (hr : Room k X.A) (hx : Passes CX X E) (ha : PXA X E (e :: es) u) (hg : Gl X x := by rfl) (hdb : (x == ("__debug__" : Str)) = false := by decide)
    (he : starEach (e :: es) X.env = (false, eval e X.env) :: starEach es X.env := by rfl) (hpl : (backTo pos (starEach es X.env)).any (·.1) = false := by rfl) : PX X E (.Call (.Name x p) (e :: es) [] pos) (dCallC R u) := by
  obtain ⟨f, fd, mf, kp, b, Fk⟩ := G.ex
  exact px_of (pe_call Fk hr hg mf kp b .nil hx ha hdb he hpl) fun G F H σ ρ P Q env q k x => ⟨G, F, ρ, _, env, q, fun F1 H1 ds vs ρ1 l1 env1 r1 q1 =>
    app0 (P := fun l => Pr X.K R l H1 Q E) (pr_callC env1 r1 q1 (fun F' H' d v ρ' l => k F' H' d v ρ' (l1.trans l)) (x.le l1)), x⟩
/-- calls of defs that raise nothing -/
abbrev exN : Addr → List Str → List D → List Cell → Prop := fun _ _ _ _ => False
def dCall0 (R : DF) (u : DA) : DX := fun ρ P => u ρ ⟨fun ds ρ1 => R ds [] ⟨fun d os' => P.ok d ρ1, exN⟩, P.ex⟩
def dCallC0 (R : DF) (u : DA) : DX := fun ρ P => u ρ ⟨fun ds ρ1 => ∃ os1 os2, ρ1.os.Perm (os1 ++ os2) ∧ R ds os1 ⟨fun d os' => P.ok d (ρ1.ret os1 os' os2), exN⟩, P.ex⟩
theorem pr_call0 {K : PySem.W.Frag} {G : Ent} {F H : Hp} {σ : L2.St} {ρ : Rho} {ds : List D} {vs : List V} {P : Po D} {Q : VK} (env : Env K G F H σ ρ) (r : Reps K F ds vs)
    (h : R ds [] ⟨fun d os' => P.ok d ρ, exN⟩) (k : ∀ F' H' d v ρ', Le F F' → Env K G F' H' σ ρ' → Rep K F' d v → P.ok d ρ' → Q v H') : Pr K (NoX R) vs H Q E0 :=
  ⟨F, ds, [], _, env.fit, cells_nil, r, ⟨h, fun _ _ _ _ z => z⟩, fun F' H' d v os' a rv q => k F' H' d v ρ a.le (env.call0 a) rv q, fun F' H' C ns ds' vs' e os' a he hl rr q => q.elim⟩
theorem pr_callC0 {K : PySem.W.Frag} {G : Ent} {F H : Hp} {σ : L2.St} {ρ : Rho} {ds : List D} {vs : List V} {P : Po D} {Q : VK} (env : Env K G F H σ ρ) (r : Reps K F ds vs)
    (h : ∃ os1 os2, ρ.os.Perm (os1 ++ os2) ∧ R ds os1 ⟨fun d os' => P.ok d (ρ.ret os1 os' os2), exN⟩) (k : ∀ F' H' d v ρ', Le F F' → Env K G F' H' σ ρ' → Rep K F' d v → P.ok d ρ' → Q v H') : Pr K (NoX R) vs H Q E0 := by
  obtain ⟨os1, os2, p, h⟩ := h
  have c : Cells K F H os1 := by
    have mem1 : ∀ c ∈ os1, c ∈ ρ.os := fun c hc => p.mem_iff.mpr (List.mem_append_left _ hc)
    have q := (p.map Cell.a).nodup_iff.mp env.cells.nd
    rw [List.map_append] at q
    exact ⟨(List.nodup_append.mp q).1, fun c hc => env.cells.nof c (mem1 c hc), fun c hc => env.cells.at_ c (mem1 c hc)⟩
  exact ⟨F, ds, os1, _, env.fit, c, r, ⟨h, fun _ _ _ _ z => z⟩, fun F' H' d v os' a rv q => k F' H' d v _ a.le (env.callC p a) rv q, fun F' H' C ns ds' vs' e os' a he hl rr q => q.elim⟩
theorem px_call0 (G : Kn0 X.prog X.w X.K X.mg X.base x k ps R) (hr : Room k X.A) (ha : PXA X E (e :: es) u) (hg : Gl X x := by rfl) (hdb : (x == ("__debug__" : Str)) = false := by decide)
    (he : starEach (e :: es) X.env = (false, eval e X.env) :: starEach es X.env := by rfl) (hpl : (backTo pos (starEach es X.env)).any (·.1) = false := by rfl) : PX X E (.Call (.Name x p) (e :: es) [] pos) (dCall0 R u) := by
  obtain ⟨f, fd, mf, kp, b, Fk⟩ := G.ex
  exact px_of (pe_call Fk hr hg mf kp b .nil pass0 ha hdb he hpl) fun G F H σ ρ P Q env q k x => ⟨G, F, ρ, _, env, q, fun F1 H1 ds vs ρ1 l1 env1 r1 q1 =>
    app0 (P := fun l => Pr X.K (NoX R) l H1 Q E0) (pr_call0 env1 r1 q1 (fun F' H' d v ρ' l => k F' H' d v ρ' (l1.trans l))), x⟩
theorem px_callC0 (G : Kn0 X.prog X.w X.K X.mg X.base x k ps R) (hr : Room k X.A) (ha : PXA X E (e :: es) u) (hg : Gl X x := by rfl) (hdb : (x == ("__debug__" : Str)) = false := by decide)
    (he : starEach (e :: es) X.env = (false, eval e X.env) :: starEach es X.env := by rfl) (hpl : (backTo pos (starEach es X.env)).any (·.1) = false := by rfl) : PX X E (.Call (.Name x p) (e :: es) [] pos) (dCallC0 R u) := by
  obtain ⟨f, fd, mf, kp, b, Fk⟩ := G.ex
  exact px_of (pe_call Fk hr hg mf kp b .nil pass0 ha hdb he hpl) fun G F H σ ρ P Q env q k x => ⟨G, F, ρ, _, env, q, fun F1 H1 ds vs ρ1 l1 env1 r1 q1 =>
    app0 (P := fun l => Pr X.K (NoX R) l H1 Q E0) (pr_callC0 env1 r1 q1 (fun F' H' d v ρ' l => k F' H' d v ρ' (l1.trans l))), x⟩
end
end DL

set_option Elab.async false
set_option linter.all false
set_option maxRecDepth 100000
set_option maxHeartbeats 2000000
namespace DL
open PySem PySem.Spec PyProof.Rows L2

/-! ### one new object beside the state: a comprehension's -/
section
variable {K : PySem.W.Frag} {G : Ent} {F H : Hp} {σ : L2.St} {ρ : Rho} {D0 : Addr} {u o : HO}
def Ent.fr (G : Ent) (a : Addr) (u : HO) : Ent := ⟨upd G.B a u, G.FB, fun b => b ≠ a ∧ G.M b⟩
/-- D0 is none of what the state tells -/
structure Out (F : Hp) (ρ : Rho) (a : Addr) : Prop where
  f : F a = none
  c : ∀ c ∈ ρ.os, c.a ≠ a
  l : ¬ ρ.lo a
theorem le_none {F F' : Hp} (l : Le F F') {a : Addr} (h : F' a = none) : F a = none := by
  cases e : F a with
  | none => rfl
  | some u =>
    by_cases p : Pl u
    · rcases l.l0.1 a u p (.inl e) with z | ⟨o, z⟩
      · rw [h] at z; cases z
      · rw [h] at z; cases z
    · cases u with
      | frz o u => have z := l.lk a o u e; rw [h] at z; cases z
      | _ => exact absurd trivial p
theorem Env.outside (e : Env K G F H σ ρ) (h : H D0 = some u) (o : Out F ρ D0) : Env K (G.fr D0 u) F H σ ρ := by
  refine ⟨e.fit, e.ext, fun a v hb hm => ?_, fun a h1 h2 => ?_, fun a h2 => ?_, e.slots, e.len, e.cells, fun c hc => ?_, fun a ha => ?_⟩
  · by_cases q : a = D0
    · subst q
      have hb : upd G.B a u a = some v := hb
      rw [upd_same] at hb
      rw [h, hb]
    · have hb : upd G.B D0 u a = some v := hb
      rw [upd_ne q] at hb
      exact e.keep a v hb fun m => hm ⟨q, m⟩
  · by_cases q : a = D0
    · subst q; exact o.f
    · have h2 : upd G.B D0 u a ≠ none := h2
      rw [upd_ne q] at h2
      exact e.new a h1 h2
  · by_cases q : a = D0
    · subst q; rw [h]; simp
    · have h2 : upd G.B D0 u a ≠ none := h2
      rw [upd_ne q] at h2
      exact e.there a h2
  · rcases e.mine c hc with m | m
    · exact .inl ⟨o.c c hc, m⟩
    · refine .inr ?_
      show upd G.B D0 u c.a = none
      rw [upd_ne (o.c c hc)]
      exact m
  · have q : a ≠ D0 := fun z => o.l (z ▸ ha)
    refine ⟨?_, (e.lo a ha).2⟩
    show upd G.B D0 u a = none
    rw [upd_ne q]
    exact (e.lo a ha).1
theorem Env.inside (e : Env K (G.fr D0 u) F H σ ρ) (hB : G.B D0 = none) (hF : G.FB D0 = none) : Env K G F H σ ρ ∧ H D0 = some u ∧ Out F ρ D0 := by
  have hD : H D0 = some u := e.keep D0 u upd_same fun z => z.1 rfl
  have fD : F D0 = none := e.new D0 hF (by show upd G.B D0 u D0 ≠ none; rw [upd_same]; simp)
  refine ⟨⟨e.fit, e.ext, fun a v hb hm => ?_, fun a h1 h2 => ?_, fun a h2 => ?_, e.slots, e.len, e.cells, fun c hc => ?_, fun a ha => ?_⟩, hD, fD, fun c hc z => ?_, fun ha => ?_⟩
  · have q : a ≠ D0 := fun z => by rw [z, hB] at hb; cases hb
    exact e.keep a v (by show upd G.B D0 u a = some v; rw [upd_ne q]; exact hb) fun m => hm m.2
  · have q : a ≠ D0 := fun z => h2 (z ▸ hB)
    exact e.new a h1 (by show upd G.B D0 u a ≠ none; rw [upd_ne q]; exact h2)
  · have q : a ≠ D0 := fun z => h2 (z ▸ hB)
    exact e.there a (by show upd G.B D0 u a ≠ none; rw [upd_ne q]; exact h2)
  · rcases e.mine c hc with m | m
    · exact .inl m.2
    · have m : upd G.B D0 u c.a = none := m
      by_cases q : c.a = D0
      · rw [q, upd_same] at m; cases m
      · rw [upd_ne q] at m; exact .inr m
  · obtain ⟨m, n⟩ := e.lo a ha
    refine ⟨?_, n⟩
    have m : upd G.B D0 u a = none := m
    by_cases q : a = D0
    · rw [q, upd_same] at m; cases m
    · rw [upd_ne q] at m; exact m
  · rcases e.mine c hc with m | m
    · exact m.1 z
    · have m : upd G.B D0 u c.a = none := m
      rw [z, upd_same] at m; cases m
  · have m : upd G.B D0 u D0 = none := (e.lo D0 ha).1
    rw [upd_same] at m; cases m
theorem Env.writeO (e : Env K G F H σ ρ) (ot : Out F ρ D0) (hB : G.B D0 = none) : Env K G F (upd H D0 o) σ ρ := by
  have nf : ∀ a v, F a = some v → a ≠ D0 := fun a v h z => by rw [z, ot.f] at h; cases h
  refine ⟨fun a v h => by rw [upd_ne (nf a v h)]; exact e.fit a v h, e.ext, fun a v hb hm => ?_, e.new, fun a h2 => ?_, e.slots, e.len, ⟨e.cells.nd, e.cells.nof, fun c hc => ?_⟩, e.mine, fun a ha => ?_⟩
  · have q : a ≠ D0 := fun z => by rw [z, hB] at hb; cases hb
    rw [upd_ne q]; exact e.keep a v hb hm
  · by_cases q : a = D0
    · rw [q, upd_same]; simp
    · rw [upd_ne q]; exact e.there a h2
  · rw [upd_ne (ot.c c hc)]; exact e.cells.at_ c hc
  · refine ⟨(e.lo a ha).1, ?_⟩
    by_cases q : a = D0
    · rw [q, upd_same]; simp
    · rw [upd_ne q]; exact (e.lo a ha).2
/-- it is data from now on -/
theorem Env.frzO (e : Env K G F H σ ρ) (ot : Out F ρ D0) (hB : G.B D0 = none) (h : H D0 = some u) : Env K G (upd F D0 u) H σ ρ := by
  have l := Le.new (o := u) ot.f
  refine ⟨fun a v q => ?_, e.ext.trans l, e.keep, fun a h1 h2 => ?_, e.there, fun i d h => ?_, e.len, ⟨e.cells.nd, fun c hc => ?_, fun c hc => ?_⟩, e.mine, e.lo⟩
  · by_cases z : a = D0
    · subst z; rw [upd_same] at q; rw [h, q]
    · rw [upd_ne z] at q; exact e.fit a v q
  · have z : a ≠ D0 := fun z => h2 (z ▸ hB)
    rw [upd_ne z]; exact e.new a h1 h2
  · obtain ⟨v, h1, r⟩ := e.slots i d h
    exact ⟨v, h1, r.mono l⟩
  · rw [upd_ne (ot.c c hc)]; exact e.cells.nof c hc
  · obtain ⟨x, h1, i⟩ := e.cells.at_ c hc
    exact ⟨x, h1, i.mono l⟩
/-- it is a cell from now on -/
theorem Env.cellO (e : Env K G F H σ ρ) (ot : Out F ρ D0) (hB : G.B D0 = none) (h : H D0 = some u) {d : D} (i : InCell K F d u) : Env K G F H σ (ρ.add D0 d) := by
  refine ⟨e.fit, e.ext, e.keep, e.new, e.there, e.slots, e.len, ⟨?_, ?_, ?_⟩, ?_, fun a ha => ?_⟩
  · show (Cell.a ⟨D0, d⟩ :: addrs ρ.os).Nodup
    refine List.nodup_cons.mpr ⟨fun m => ?_, e.cells.nd⟩
    obtain ⟨c, hc, z⟩ := List.mem_map.mp m
    exact ot.c c hc z
  · intro c hc
    rcases List.mem_cons.mp hc with rfl | hc
    · exact ot.f
    · exact e.cells.nof c hc
  · intro c hc
    rcases List.mem_cons.mp hc with rfl | hc
    · exact ⟨u, h, i⟩
    · exact e.cells.at_ c hc
  · intro c hc
    rcases List.mem_cons.mp hc with rfl | hc
    · exact .inr hB
    · exact e.mine c hc
  · rcases ha with rfl | ha
    · exact ⟨hB, by rw [h]; simp⟩
    · exact e.lo a ha
/-- other slots -/
theorem Env.slotsOf {σ' : L2.St} {ρ' : Rho} (e : Env K G F H σ ρ) (sl : ∀ (i : Nat) (d : D), ρ'.sl[i]? = some (some d) → ∃ v : V, σ'[i]? = some (some v) ∧ Rep K F d v) (len : ρ'.sl.length = σ'.length) (ho : ρ'.os = ρ.os) (hl : ρ'.lo = ρ.lo) : Env K G F H σ' ρ' :=
  ⟨e.fit, e.ext, e.keep, e.new, e.there, sl, len, by rw [ho]; exact e.cells, by rw [ho]; exact e.mine, by rw [hl]; exact e.lo⟩
end

/-! ### a comprehension's target: its own names -/
structure OwnG (K : PySem.W.Frag) (vs : List Nat) (g : TG) (gd : DG) : Prop where
  go : ∀ G F H σ ρ d v (P : Rho → Prop) (Q : L2.St → Hp → Prop), Env K G F H σ ρ → Rep K F d v → gd d ρ P → (∀ σ' ρ', wipe σ' vs = wipe σ vs → Env K G F H σ' ρ' → P ρ' → Q σ' H) → g v (wipe σ vs) H Q
theorem own1 {K : PySem.W.Frag} (i : Nat) : OwnG K [i] (gName i) (dgName i) := ⟨fun G F H σ ρ d v P Q e r p k => by
  have e1 : (wipe σ [i]).set i (some v) = σ.set i (some v) := by
    show (σ.set i none).set i (some v) = _
    rw [List.set_set]
  show Q ((wipe σ [i]).set i (some v)) H
  rw [e1]
  refine k _ _ ?_ (e.set i r) p
  show (σ.set i (some v)).set i none = σ.set i none
  rw [List.set_set]⟩
theorem own2 {K : PySem.W.Frag} (i j : Nat) (hij : i ≠ j) : OwnG K [i, j] (gTup K 2 (gCons (gName i) (gCons (gName j) gNil))) (dgTup 2 (dgCons (dgName i) (dgCons (dgName j) dgNil))) := ⟨fun G F H σ ρ d v P Q e r p k => by
  obtain ⟨ds, ed, hl, x, w, e1, y, w2, e2, e3, p⟩ := p
  subst ed e1 e2 e3
  obtain ⟨a, vs, ev, s, rs⟩ := r
  obtain ⟨v1, v2, evs, r1, r2⟩ := reps2 rs
  subst evs
  refine ⟨a, _, ev, sqT_fit e.fit s, rfl, v1, [v2], rfl, v2, [], rfl, rfl, ?_⟩
  have h : ((wipe σ [i, j]).set i (some v1)).set j (some v2) = (σ.set i (some v1)).set j (some v2) := by
    show ((((σ.set j none).set i none).set i (some v1)).set j (some v2)) = _
    rw [List.set_set, List.set_comm _ _ hij, List.set_set, List.set_comm _ _ (Ne.symm hij)]
  show Q (((wipe σ [i, j]).set i (some v1)).set j (some v2)) H
  rw [h]
  refine k _ _ ?_ ((e.set i r1).set j r2) p
  show (((σ.set i (some v1)).set j (some v2)).set j none).set i none = (σ.set j none).set i none
  rw [List.set_set, List.set_comm _ _ hij, List.set_set, List.set_comm _ _ (Ne.symm hij)]⟩

/-! ### tests of a clause -/
def PXTs (X : Cx) (E : XK) (ifs : List Expr) (t : DT) : Prop := PTs X ifs (upT X.K E t)
def dYes : DT := fun ρ P => P.ok true ρ
theorem PTs.weak {X : Cx} {ifs : List Expr} {t t' : TT} (h : PTs X ifs t) (w : ∀ σ H Q, t' σ H Q → t σ H Q) : PTs X ifs t' := ⟨fun pins s σ H Q I q => h.run pins s σ H Q I (w σ H Q q)⟩
theorem pxts_nil {X : Cx} {E : XK} : PXTs X E [] dYes := PTs.weak pts_nil fun σ H Q ⟨G, F, ρ, P, env, q, k, x⟩ => k F H true ρ (Le.refl F) env q
theorem pxts_one {X : Cx} {E : XK} {c : Expr} {t : DT} (h : PXT X E c t) : PXTs X E [c] t := pts_one h

/-! ### list comprehensions -/
abbrev exF : Addr → List Str → List D → Rho → Prop := fun _ _ _ _ => False
theorem exw0 {K : PySem.W.Frag} {E : XK} {G : Ent} {F : Hp} {σ : L2.St} : ExW K E G F σ exF := fun _ _ _ _ _ _ _ _ _ _ _ _ _ _ z => z.elim
def Rho.back (ρ ρ0 : Rho) : Rho := { ρ with sl := ρ0.sl }
def dLc (wi : DI) (gd : DG) (tt : DT) (te : DX) : DX := fun ρ P => wi ρ ⟨fun ds ρ1 => ∃ W : Nat → List D → Rho → Prop, W 0 [] ρ1 ∧
  (∀ j acc d ρ2, ds[j]? = some d → ρ2.sl = ρ1.sl → W j acc ρ2 → acc.length < 16777216 ∧ gd d ρ2 fun ρ3 => tt ρ3 ⟨fun b ρ4 => if b = true then te ρ4 ⟨fun y ρ5 => W (j + 1) (acc ++ [y]) (ρ5.back ρ1), exF⟩ else W (j + 1) acc (ρ4.back ρ1), exF⟩) ∧
  ∀ acc ρ2, ρ2.sl = ρ1.sl → W ds.length acc ρ2 → P.ok (.lst acc) ρ2, P.ex⟩
/-- .. the list as a new cell -/
def dLcC (wi : DI) (gd : DG) (tt : DT) (te : DX) : DX := fun ρ P => wi ρ ⟨fun ds ρ1 => ∃ W : Nat → List D → Rho → Prop, W 0 [] ρ1 ∧
  (∀ j acc d ρ2, ds[j]? = some d → ρ2.sl = ρ1.sl → W j acc ρ2 → acc.length < 16777216 ∧ gd d ρ2 fun ρ3 => tt ρ3 ⟨fun b ρ4 => if b = true then te ρ4 ⟨fun y ρ5 => W (j + 1) (acc ++ [y]) (ρ5.back ρ1), exF⟩ else W (j + 1) acc (ρ4.back ρ1), exF⟩) ∧
  ∀ acc ρ2 p, ρ2.sl = ρ1.sl → W ds.length acc ρ2 → Fresh ρ2 p → P.ok (.raw (.ref p)) (ρ2.add p (.lst acc)), P.ex⟩
theorem lc_up {K : PySem.W.Frag} {J : It} {G : Ent} {F H : Hp} {σ : L2.St} {ρ : Rho} {ds : List D} {g : TG} {gd : DG} {tt : DT} {te : DX} {vs : List Nat} {Qd : Addr → Hp → Prop} (w : WalkD K J F ds) (env : Env K G F H σ ρ) (og : OwnG K vs g gd)
    (W : Nat → List D → Rho → Prop) (w0 : W 0 [] ρ)
    (turn : ∀ j acc d ρ2, ds[j]? = some d → ρ2.sl = ρ.sl → W j acc ρ2 → acc.length < 16777216 ∧ gd d ρ2 fun ρ3 => tt ρ3 ⟨fun b ρ4 => if b = true then te ρ4 ⟨fun y ρ5 => W (j + 1) (acc ++ [y]) (ρ5.back ρ), exF⟩ else W (j + 1) acc (ρ4.back ρ), exF⟩)
    (fin : ∀ D0 F' H' acc us ρ2, Le F F' → Env K G F' H' σ ρ2 → ρ2.sl = ρ.sl → W ds.length acc ρ2 → H' D0 = some (.lst us) → Reps K F' acc us → Out F' ρ2 D0 → G.B D0 = none → Qd D0 H') :
    ∀ D0, H D0 = none → ∃ W : Nat → Nat → Hp → Prop, (∃ m, W 0 m (upd H D0 (.lst []))) ∧ ∀ i m H, W i m H →
      (J.stop i H ∧ Qd D0 H) ∨ (J.go i H ∧ ∃ Nx : Hp → Prop, (∀ H', Nx H' → ∃ m', m' < m ∧ W (i + 1) m' H') ∧ ∀ x H', J.yld i H x H' → g x (wipe σ vs) H' fun σ2 H2 => wipe σ2 vs = wipe σ vs ∧ upT K E0 tt σ2 H2 fun b H3 =>
        if b = true then up K E0 te σ2 H3 fun y H4 => ∃ acc, H4 D0 = some (.lst acc) ∧ acc.length < sizeLine ∧ Nx (upd H4 D0 (.lst (acc ++ [y]))) else Nx H3) := by
  intro D0 hD
  have hB := env.bnone hD
  have hFB : G.FB D0 = none := le_none env.ext (none_sub env.fit hD)
  let T : Nat → Hp → Prop := fun i H' => ∃ F' ρ' acc us, Le F F' ∧ Env K G F' H' σ ρ' ∧ ρ'.sl = ρ.sl ∧ W i acc ρ' ∧ H' D0 = some (.lst us) ∧ Reps K F' acc us ∧ Out F' ρ' D0
  refine ⟨fun i m H' => m = ds.length - i ∧ i ≤ ds.length ∧ T i H', ⟨ds.length, by simp, Nat.zero_le _, ?_⟩, ?_⟩
  · exact ⟨F, ρ, [], [], Le.refl F, env.grow (Grow.allocH env.fit hD), rfl, w0, upd_same, rfl, none_sub env.fit hD, env.fresh hD, fun z => (env.lo D0 z).2 hD⟩
  rintro i m H1 ⟨rfl, hi, F1, ρ1, acc, us, l1, env1, es, w1, hD1, ra, o1⟩
  by_cases hlt : i < ds.length
  · refine .inr ⟨w.goes i H1 F1 hlt l1 env1.fit, T (i + 1), fun H' h => ⟨ds.length - (i + 1), by omega, rfl, hlt, h⟩, fun x H' y => ?_⟩
    obtain ⟨d, F2, hd, g2, r2⟩ := w.turnG l1 env1.fit hlt y
    obtain ⟨hl, q⟩ := turn i acc d ρ1 hd es w1
    have env2 := env1.grow g2
    have hD2 := g2.keep _ _ hD1
    have o2 : Out F2 ρ1 D0 := ⟨g2.new D0 o1.f (by rw [hD1]; simp), o1.c, o1.l⟩
    refine og.go (G.fr D0 (.lst us)) F2 H' σ ρ1 d x _ _ (env2.outside hD2 o2) r2 q fun σ2 ρ3 hw env3 q3 => ⟨hw, ?_⟩
    refine ⟨_, F2, ρ3, _, env3, q3, fun F4 H4 b ρ4 l4 env4 q4 => ?_, exw0⟩
    have slots : ∀ {F5 : Hp}, Le F2 F5 → ∀ (i : Nat) (d : D), ρ.sl[i]? = some (some d) → ∃ v : V, σ[i]? = some (some v) ∧ Rep K F5 d v := fun l5 i d h => by
      obtain ⟨v, h1, r⟩ := env2.slots i d (by rw [es]; exact h)
      exact ⟨v, h1, r.mono l5⟩
    cases b with
    | true =>
      refine iteT ?_
      try dsimp only at q4
      rw [if_pos rfl] at q4
      refine ⟨_, F4, ρ4, _, env4, q4, fun F5 H5 y5 v5 ρ5 l5 env5 r5 q5 => ?_, exw0⟩
      obtain ⟨env6, hD6, o6⟩ := env5.inside hB hFB
      have l25 := l4.trans l5
      refine ⟨us, hD6, by rw [sizeLine_eq, ← ra.length]; exact hl, F5, ρ5.back ρ, acc ++ [y5], us ++ [v5], ((l1.trans g2.le).trans l25), ?_, rfl, q5, upd_same, ((ra.mono (g2.le.trans l25)).app (Reps.one r5)), ⟨o6.f, o6.c, o6.l⟩⟩
      exact ((env6.writeO (o := .lst (us ++ [v5])) o6 hB).slotsOf (ρ' := ρ5.back ρ) (slots l25) (by show ρ.sl.length = _; exact env.len) rfl rfl)
    | false =>
      refine iteF ?_
      try dsimp only at q4
      rw [if_neg Bool.false_ne_true] at q4
      obtain ⟨env6, hD6, o6⟩ := env4.inside hB hFB
      exact ⟨F4, ρ4.back ρ, acc, us, ((l1.trans g2.le).trans l4), env6.slotsOf (ρ' := ρ4.back ρ) (slots l4) (by show ρ.sl.length = _; exact env.len) rfl rfl, rfl, q4, hD6, ra.mono (g2.le.trans l4), ⟨o6.f, o6.c, o6.l⟩⟩
  · have e : i = ds.length := by omega
    subst e
    exact .inl ⟨w.stops H1 F1 l1 env1.fit, fin D0 F1 H1 acc us ρ1 l1 env1 es w1 hD1 ra o1 hB⟩
section
variable {X : Cx} {E : XK} {elt tg iter : Expr} {ifs : List Expr} {scope : Scope} {own : List (Str × Nat)} {pos : Pos} {wi : DI} {g : TG} {gd : DG} {tt : DT} {te : DX}
theorem lc_data {K : PySem.W.Frag} {vs : List Nat} (og : OwnG K vs g gd) {G : Ent} {F H : Hp} {σ : L2.St} {ρ : Rho} {P : Po D} {Q : VK} (env : Env K G F H σ ρ) (q : dLc wi gd tt te ρ P)
    (k : ∀ F' H' d v ρ', Le F F' → Env K G F' H' σ ρ' → Rep K F' d v → P.ok d ρ' → Q v H') (x : ExW K E G F σ P.ex) : tLc (upI K E wi) g (upT K E0 tt) (up K E0 te) vs σ H Q :=
  ⟨G, F, ρ, _, env, q, fun F1 H1 ds ρ1 J l1 env1 w1 ⟨W, w0, turn, fin⟩ => lc_up w1 env1 og W w0 turn fun D0 F' H' acc us ρ2 l2 env2 es wn hD ra o hB =>
    k _ _ (.lst acc) _ ρ2 ((l1.trans l2).trans (Le.new o.f)) (env2.frzO o hB hD) (rep_newL o.f ra) (fin acc ρ2 es wn), x⟩
theorem lc_cell {K : PySem.W.Frag} {vs : List Nat} (og : OwnG K vs g gd) {G : Ent} {F H : Hp} {σ : L2.St} {ρ : Rho} {P : Po D} {Q : VK} (env : Env K G F H σ ρ) (q : dLcC wi gd tt te ρ P)
    (k : ∀ F' H' d v ρ', Le F F' → Env K G F' H' σ ρ' → Rep K F' d v → P.ok d ρ' → Q v H') (x : ExW K E G F σ P.ex) : tLc (upI K E wi) g (upT K E0 tt) (up K E0 te) vs σ H Q :=
  ⟨G, F, ρ, _, env, q, fun F1 H1 ds ρ1 J l1 env1 w1 ⟨W, w0, turn, fin⟩ => lc_up w1 env1 og W w0 turn fun D0 F' H' acc us ρ2 l2 env2 es wn hD ra o hB =>
    k F' H' (.raw (.ref D0)) _ _ (l1.trans l2) (env2.cellO o hB hD (d := .lst acc) ⟨us, rfl, ra⟩) rfl (fin acc ρ2 D0 es wn o.c), x⟩
/-- [elt for tg in iter if ..] -/
theorem px_lc (og : OwnG X.K (own.map (·.2)) g gd) (hc : X.calm = true) (hN : X.N.Nodup) (hi : PXI X E tg iter wi) (ok : BlkOk X.N X.env.scope scope own)
    (hg : ∀ (s : Shared) (H : Hp) (C : Addr) (cl : List (Str × Addr)) (fp : List Addr), PG (X.blk s H scope (compEnvC scope cl C X.env) fp) tg g) (ht : ∀ (s : Shared) (H : Hp) (C : Addr) (cl : List (Str × Addr)) (fp : List Addr), PXTs (X.blk s H scope (compEnvC scope cl C X.env) fp) E0 ifs tt)
    (he : ∀ (s : Shared) (H : Hp) (C : Addr) (cl : List (Str × Addr)) (fp : List Addr), PX (X.blk s H scope (compEnvC scope cl C X.env) fp) E0 elt te) (hs : ∀ x, foldedSetIterable iter X.env x = pure x := by intro _; rfl) :
    PX X E (.ListComp elt [⟨tg, iter, ifs, 0⟩] scope pos) (dLc wi gd tt te) :=
  px_of (pe_lc (tt := upT X.K E0 tt) (te := up X.K E0 te) hc hN hi ok hg ht he hs) fun G F H σ ρ P Q env q k x => lc_data og env q k x
theorem px_lcC (og : OwnG X.K (own.map (·.2)) g gd) (hc : X.calm = true) (hN : X.N.Nodup) (hi : PXI X E tg iter wi) (ok : BlkOk X.N X.env.scope scope own)
    (hg : ∀ (s : Shared) (H : Hp) (C : Addr) (cl : List (Str × Addr)) (fp : List Addr), PG (X.blk s H scope (compEnvC scope cl C X.env) fp) tg g) (ht : ∀ (s : Shared) (H : Hp) (C : Addr) (cl : List (Str × Addr)) (fp : List Addr), PXTs (X.blk s H scope (compEnvC scope cl C X.env) fp) E0 ifs tt)
    (he : ∀ (s : Shared) (H : Hp) (C : Addr) (cl : List (Str × Addr)) (fp : List Addr), PX (X.blk s H scope (compEnvC scope cl C X.env) fp) E0 elt te) (hs : ∀ x, foldedSetIterable iter X.env x = pure x := by intro _; rfl) :
    PX X E (.ListComp elt [⟨tg, iter, ifs, 0⟩] scope pos) (dLcC wi gd tt te) :=
  px_of (pe_lc (tt := upT X.K E0 tt) (te := up X.K E0 te) hc hN hi ok hg ht he hs) fun G F H σ ρ P Q env q k x => lc_cell og env q k x
/-- name = [..] on one line -/
theorem sx_setLc (i : Nat) {y : Str} {py spos : Pos} (og : OwnG X.K (own.map (·.2)) g gd) (hc : X.calm = true) (hN : X.N.Nodup) (hsw : swapsWith (.ListComp elt [⟨tg, iter, ifs, 0⟩] scope pos) (some (.Name y py)) spos.line X.env = pure true) (hi : PXI X E tg iter wi) (ok : BlkOk X.N X.env.scope scope own)
    (hg : ∀ (s : Shared) (H : Hp) (C : Addr) (cl : List (Str × Addr)) (fp : List Addr), PG (X.blk s H scope (compEnvC scope cl C X.env) fp) tg g) (ht : ∀ (s : Shared) (H : Hp) (C : Addr) (cl : List (Str × Addr)) (fp : List Addr), PXTs (X.blk s H scope (compEnvC scope cl C X.env) fp) E0 ifs tt)
    (he : ∀ (s : Shared) (H : Hp) (C : Addr) (cl : List (Str × Addr)) (fp : List Addr), PX (X.blk s H scope (compEnvC scope cl C X.env) fp) E0 elt te) (hy : X.N[i]? = some y := by rfl) (hyl : X.env.scope.names.lookup y = some .local := by rfl) (hs : ∀ x, foldedSetIterable iter X.env x = pure x := by intro _; rfl) :
    PXS X E (.Assign [.Name y py] (.ListComp elt [⟨tg, iter, ifs, 0⟩] scope pos) spos) (dSet (dLc wi gd tt te) (dgName i)) :=
  PS.weak (ps_setLc (tt := upT X.K E0 tt) (te := up X.K E0 te) hc hN hy hyl hsw hi ok hg ht he hs) fun Dn σ H ⟨G, F, ρ, P, env, q, f⟩ => lc_data (Q := fun v H => Dn.nx (σ.set i (some v)) H) og env q (fun F' H' d v ρ' l e r p => f.nx F' H' _ _ l (e.set i r) p) (f.ex σ)
theorem sx_setLcC (i : Nat) {y : Str} {py spos : Pos} (og : OwnG X.K (own.map (·.2)) g gd) (hc : X.calm = true) (hN : X.N.Nodup) (hsw : swapsWith (.ListComp elt [⟨tg, iter, ifs, 0⟩] scope pos) (some (.Name y py)) spos.line X.env = pure true) (hi : PXI X E tg iter wi) (ok : BlkOk X.N X.env.scope scope own)
    (hg : ∀ (s : Shared) (H : Hp) (C : Addr) (cl : List (Str × Addr)) (fp : List Addr), PG (X.blk s H scope (compEnvC scope cl C X.env) fp) tg g) (ht : ∀ (s : Shared) (H : Hp) (C : Addr) (cl : List (Str × Addr)) (fp : List Addr), PXTs (X.blk s H scope (compEnvC scope cl C X.env) fp) E0 ifs tt)
    (he : ∀ (s : Shared) (H : Hp) (C : Addr) (cl : List (Str × Addr)) (fp : List Addr), PX (X.blk s H scope (compEnvC scope cl C X.env) fp) E0 elt te) (hy : X.N[i]? = some y := by rfl) (hyl : X.env.scope.names.lookup y = some .local := by rfl) (hs : ∀ x, foldedSetIterable iter X.env x = pure x := by intro _; rfl) :
    PXS X E (.Assign [.Name y py] (.ListComp elt [⟨tg, iter, ifs, 0⟩] scope pos) spos) (dSet (dLcC wi gd tt te) (dgName i)) :=
  PS.weak (ps_setLc (tt := upT X.K E0 tt) (te := up X.K E0 te) hc hN hy hyl hsw hi ok hg ht he hs) fun Dn σ H ⟨G, F, ρ, P, env, q, f⟩ => lc_cell (Q := fun v H => Dn.nx (σ.set i (some v)) H) og env q (fun F' H' d v ρ' l e r p => f.nx F' H' _ _ l (e.set i r) p) (f.ex σ)
end
end DL

set_option Elab.async false
set_option linter.all false
set_option maxRecDepth 100000
set_option maxHeartbeats 2000000
namespace DL
open PySem PySem.Spec PyProof.Rows L2 TL

/-! ### lifts of the operators -/
section
variable {K : PySem.W.Frag}
theorem l2_of {ro : R2} {rd : DR2} (h : ∀ G F H σ ρ d1 d2 v1 v2 (P : D → Prop) (Q : VK), Env K G F H σ ρ → Rep K F d1 v1 → Rep K F d2 v2 → rd ρ d1 d2 P → (∀ d v, Rep K F d v → P d → Q v H) → ro v1 v2 H Q) : Lift2 K ro rd :=
  fun G F H σ ρ d1 d2 v1 v2 P Q env r1 r2 q k => h G F H σ ρ d1 d2 v1 v2 P Q env r1 r2 q fun d v r p => k F H d v (Grow.refl env.fit) r p
def rI2 (C : Int → Int → Prop) (f : Int → Int → D) : DR2 := fun _ x y P => ∃ i j, x = .int i ∧ y = .int j ∧ C i j ∧ P (f i j)
def rI20 (f : Int → Int → D) : DR2 := fun _ x y P => ∃ i j, x = .int i ∧ y = .int j ∧ P (f i j)
theorem l_I0 {g : Int → Int → V} {f : Int → Int → D} (h : ∀ F i j, Rep K F (f i j) (g i j)) : Lift2 K (rI0 g) (rI20 f) := l2_of fun G F H σ ρ d1 d2 v1 v2 P Q env r1 r2 ⟨i, j, e1, e2, p⟩ k => by
  subst e1 e2
  cases r1
  cases r2
  exact ⟨i, j, rfl, rfl, k _ _ (h F i j) p⟩
theorem l_I {C : Int → Int → Prop} {g : Int → Int → V} {f : Int → Int → D} (h : ∀ F i j, Rep K F (f i j) (g i j)) : Lift2 K (rI C g) (rI2 C f) := l2_of fun G F H σ ρ d1 d2 v1 v2 P Q env r1 r2 ⟨i, j, e1, e2, c, p⟩ k => by
  subst e1 e2
  cases r1
  cases r2
  exact ⟨i, j, rfl, rfl, c, k _ _ (h F i j) p⟩
abbrev rdAdd : DR2 := rI20 fun i j => .int (i + j)
abbrev rdSub : DR2 := rI20 fun i j => .int (i - j)
abbrev rdMul : DR2 := rI2 CMul fun i j => .int (i * j)
abbrev rdMod : DR2 := rI2 (fun _ j => 0 < j) fun i j => .int (i % j)
abbrev rdPow : DR2 := rI2 CPow fun i j => .int (i ^ j.toNat)
abbrev rdLt : DR2 := rI20 fun i j => .bl (decide (i < j))
abbrev rdLe : DR2 := rI20 fun i j => .bl (decide (i ≤ j))
abbrev rdGt : DR2 := rI20 fun i j => .bl (decide (j < i))
abbrev rdGe : DR2 := rI20 fun i j => .bl (decide (j ≤ i))
theorem l_add : Lift2 K (rI0 fun i j => .int (i + j)) rdAdd := l_I0 fun _ _ _ => rfl
theorem l_sub : Lift2 K (rI0 fun i j => .int (i - j)) rdSub := l_I0 fun _ _ _ => rfl
theorem l_mul : Lift2 K (rI CMul fun i j => .int (i * j)) rdMul := l_I fun _ _ _ => rfl
theorem l_mod : Lift2 K (rI (fun _ j => 0 < j) fun i j => .int (i % j)) rdMod := l_I fun _ _ _ => rfl
theorem l_pow : Lift2 K (rI CPow fun i j => .int (i ^ j.toNat)) rdPow := l_I fun _ _ _ => rfl
theorem l_lt : Lift2 K (rI0 fun i j => .bl (decide (i < j))) rdLt := l_I0 fun _ _ _ => rfl
theorem l_le : Lift2 K (rI0 fun i j => .bl (decide (i ≤ j))) rdLe := l_I0 fun _ _ _ => rfl
theorem l_gt : Lift2 K (rI0 fun i j => .bl (decide (j < i))) rdGt := l_I0 fun _ _ _ => rfl
theorem l_ge : Lift2 K (rI0 fun i j => .bl (decide (j ≤ i))) rdGe := l_I0 fun _ _ _ => rfl
/-- texts -/
def rdAddS : DR2 := fun _ x y P => ∃ s t, x = .str s ∧ y = .str t ∧ s.length + t.length ≤ 16777216 ∧ P (.str (s ++ t))
theorem mkS_app (s t : List Nat) : mkS s ++ mkS t = mkS (s ++ t) := ext_tl (by rw [tl_append] <;> rfl)
theorem mkS_len (s : List Nat) : (mkS s).length = s.length := by rw [len_tl] <;> rfl
theorem l_addS : Lift2 K (fun x y H Q => ∃ i j, x = .str i ∧ y = .str j ∧ i.length + j.length ≤ sizeLine ∧ Q (.str (i ++ j)) H) rdAddS := l2_of fun G F H σ ρ d1 d2 v1 v2 P Q env r1 r2 ⟨s, t, e1, e2, c, p⟩ k => by
  subst e1 e2
  cases r1
  cases r2
  refine ⟨_, _, rfl, rfl, by rw [mkS_len, mkS_len, sizeLine_eq]; exact c, ?_⟩
  rw [mkS_app]
  exact k (.str (s ++ t)) _ rfl p
/-- == of scalars -/
def seq : D → D → Option Bool
  | .str s, .str t => some (decide (s = t))
  | .int i, .int j => some (decide (i = j))
  | .bl a, .bl b => some (decide (a = b))
  | .non, .non => some true
  | .non, .str _ => some false
  | .str _, .non => some false
  | .non, .int _ => some false
  | .int _, .non => some false
  | .non, .bl _ => some false
  | .bl _, .non => some false
  | .int _, .str _ => some false
  | .str _, .int _ => some false
  | .bl _, .str _ => some false
  | .str _, .bl _ => some false
  | _, _ => none
theorem mkS_inj {s t : List Nat} : mkS s = mkS t ↔ s = t := ⟨fun h => by have := congrArg tl h; exact this, fun h => by rw [h]⟩
theorem seq_ok {F : Hp} {x y : D} {v w : V} {b : Bool} (h : seq x y = some b) (r1 : Rep K F x v) (r2 : Rep K F y w) : scal v w = true ∧ decide (v = w) = b := by
  cases x <;> cases y <;> first
    | (simp [seq] at h; done)
    | (cases r1; cases r2; simp only [seq, Option.some.injEq] at h; subst h; refine ⟨rfl, ?_⟩; simp)
def rdEq : DR2 := fun _ x y P => ∃ b, seq x y = some b ∧ P (.bl b)
def rdNe : DR2 := fun _ x y P => ∃ b, seq x y = some b ∧ P (.bl (!b))
theorem l_eq : Lift2 K rEq rdEq := l2_of fun G F H σ ρ d1 d2 v1 v2 P Q env r1 r2 ⟨b, e, p⟩ k => by
  obtain ⟨h1, h2⟩ := seq_ok e r1 r2
  exact ⟨h1, by rw [h2]; exact k (.bl b) _ rfl p⟩
theorem l_ne : Lift2 K rNe rdNe := l2_of fun G F H σ ρ d1 d2 v1 v2 P Q env r1 r2 ⟨b, e, p⟩ k => by
  obtain ⟨h1, h2⟩ := seq_ok e r1 r2
  exact ⟨h1, by rw [h2]; exact k (.bl (!b)) _ rfl p⟩
/-- one sign in a text -/
def rdInS : DR2 := fun _ x y P => ∃ c s, x = .str [c] ∧ y = .str s ∧ P (.bl (decide (c ∈ s)))
def rdNotInS : DR2 := fun _ x y P => ∃ c s, x = .str [c] ∧ y = .str s ∧ P (.bl (!decide (c ∈ s)))
theorem l_inS : Lift2 K (fun x y H Q => ∃ (c : Nat) (z : Str), x = .str ⟨#[c]⟩ ∧ y = .str z ∧ Q (.bl (decide (c ∈ z.cps.toList))) H) rdInS := l2_of fun G F H σ ρ d1 d2 v1 v2 P Q env r1 r2 ⟨c, s, e1, e2, p⟩ k => by
  subst e1 e2
  cases r1
  cases r2
  exact ⟨c, _, rfl, rfl, k (.bl _) _ rfl p⟩
theorem l_notInS : Lift2 K (fun x y H Q => ∃ (c : Nat) (z : Str), x = .str ⟨#[c]⟩ ∧ y = .str z ∧ Q (.bl (!decide (c ∈ z.cps.toList))) H) rdNotInS := l2_of fun G F H σ ρ d1 d2 v1 v2 P Q env r1 r2 ⟨c, s, e1, e2, p⟩ k => by
  subst e1 e2
  cases r1
  cases r2
  exact ⟨c, _, rfl, rfl, k (.bl _) _ rfl p⟩
/-- is None -/
def isNon : D → Option Bool
  | .non => some true
  | .raw _ => none
  | _ => some false
def rdIsN : DR2 := fun _ x y P => ∃ b, y = .non ∧ isNon x = some b ∧ P (.bl b)
def rdNotN : DR2 := fun _ x y P => ∃ b, y = .non ∧ isNon x = some b ∧ P (.bl (!b))
theorem isNon_ok {F : Hp} {x : D} {v : V} {b : Bool} (h : isNon x = some b) (r : Rep K F x v) : decide (v = V.non) = b := by
  cases x with
  | non => cases r; cases h; rfl
  | raw w => cases h
  | bl _ => cases r; cases h; rfl
  | int _ => cases r; cases h; rfl
  | str _ => cases r; cases h; rfl
  | tup _ => obtain ⟨a, vs, e, _⟩ := r; subst e; cases h; rfl
  | lst _ => obtain ⟨a, vs, e, _⟩ := r; subst e; cases h; rfl
  | dct _ _ => obtain ⟨a, vs, e, _⟩ := r; subst e; cases h; rfl
  | ldct _ _ => obtain ⟨a, vs, e, _⟩ := r; subst e; cases h; rfl
  | obj _ _ _ => obtain ⟨a, dx, vs, e, _⟩ := r; subst e; cases h; rfl
theorem l_isN : Lift2 K (fun x y H Q => y = .non ∧ Q (.bl (decide (x = .non))) H) rdIsN := l2_of fun G F H σ ρ d1 d2 v1 v2 P Q env r1 r2 ⟨b, e, h, p⟩ k => by
  subst e
  cases r2
  exact ⟨rfl, by rw [isNon_ok h r1]; exact k (.bl b) _ rfl p⟩
theorem l_notN : Lift2 K (fun x y H Q => y = .non ∧ Q (.bl (!decide (x = .non))) H) rdNotN := l2_of fun G F H σ ρ d1 d2 v1 v2 P Q env r1 r2 ⟨b, e, h, p⟩ k => by
  subst e
  cases r2
  exact ⟨rfl, by rw [isNon_ok h r1]; exact k (.bl (!b)) _ rfl p⟩
/-! == of data at any depth -/
mutual
def toPy : D → Option PyData
  | .non => some .none
  | .bl b => some (.bool b)
  | .int i => some (.int i)
  | .str s => some (.str (mkS s))
  | .tup ds => (toPys ds).map .tuple
  | .lst ds => (toPys ds).map .list
  | _ => none
def toPys : List D → Option (List PyData)
  | [] => some []
  | d :: r => match toPy d, toPys r with
    | some x, some y => some (x :: y)
    | _, _ => none
end
mutual
theorem dp_of {F H : Hp} (f : ∀ a u, F a = some u → H a = some u) : ∀ {d : D} {v : V} {p : PyData}, toPy d = some p → Rep K F d v → Dp K H v p
  | .non, _, _, h, r => by cases h; cases r; exact .non
  | .bl b, _, _, h, r => by cases h; cases r; exact .bl b
  | .int i, _, _, h, r => by cases h; cases r; exact .int i
  | .str s, _, _, h, r => by cases h; cases r; exact .str _
  | .tup ds, _, _, h, r => by
    obtain ⟨a, vs, e, s, rs⟩ := r
    subst e
    obtain ⟨ps, h1, h2⟩ := Option.map_eq_some_iff.mp h
    subst h2
    exact .tup (sqT_fit f s) (dps_of f h1 rs)
  | .lst ds, _, _, h, r => by
    obtain ⟨a, vs, e, s, rs⟩ := r
    subst e
    obtain ⟨ps, h1, h2⟩ := Option.map_eq_some_iff.mp h
    subst h2
    exact .lst (sqL_fit f (.inl s)) (dps_of f h1 rs)
  | .dct _ _, _, _, h, r => by cases h
  | .obj _ _ _, _, _, h, r => by cases h
  | .raw _, _, _, h, r => by cases h
theorem dps_of {F H : Hp} (f : ∀ a u, F a = some u → H a = some u) : ∀ {ds : List D} {vs : List V} {ps : List PyData}, toPys ds = some ps → Reps K F ds vs → DpAll K H vs ps
  | [], _, _, h, r => by cases h; cases r; exact .nil
  | d :: rr, _, _, h, r => by
    obtain ⟨v, w, e, h1, h2⟩ := r
    subst e
    unfold toPys at h
    split at h
    · rename_i x y e1 e2
      cases h
      exact .cons (dp_of f e1 h1) (dps_of f e2 h2)
    · cases h
end
def rdEqD : DR2 := fun _ x y P => ∃ p q, toPy x = some p ∧ toPy y = some q ∧ SeqAt.shaped p = true ∧ SeqAt.shaped q = true ∧ P (.bl (PyData.eqv p q))
def rdNeD : DR2 := fun _ x y P => ∃ p q, toPy x = some p ∧ toPy y = some q ∧ SeqAt.shaped p = true ∧ SeqAt.shaped q = true ∧ P (.bl (!PyData.eqv p q))
theorem l_eqD : Lift2 K (rEqD K) rdEqD := l2_of fun G F H σ ρ d1 d2 v1 v2 P Q env r1 r2 ⟨p, q, e1, e2, s1, s2, h⟩ k => ⟨p, q, dp_of env.fit e1 r1, dp_of env.fit e2 r2, s1, s2, k (.bl _) _ rfl h⟩
theorem l_neD : Lift2 K (rNeD K) rdNeD := l2_of fun G F H σ ρ d1 d2 v1 v2 P Q env r1 r2 ⟨p, q, e1, e2, s1, s2, h⟩ k => ⟨p, q, dp_of env.fit e1 r1, dp_of env.fit e2 r2, s1, s2, k (.bl _) _ rfl h⟩
/-- x in a list or tuple of texts -/
def strsD (l : List (List Nat)) : List D := l.map .str
theorem reps_strs {F : Hp} : ∀ {l : List (List Nat)} {vs : List V}, Reps K F (strsD l) vs → vs = l.map fun s => V.str (mkS s)
  | [], _, r => by cases r; rfl
  | s :: l, _, r => by
    obtain ⟨v, w, e, h1, h2⟩ := r
    subst e
    cases h1
    rw [reps_strs h2]
    rfl
theorem strs_reps {F : Hp} : ∀ (l : List (List Nat)), Reps K F (strsD l) (l.map fun s => V.str (mkS s))
  | [] => rfl
  | s :: l => ⟨_, _, rfl, rfl, strs_reps l⟩
def rdInL (neg : Bool) : DR2 := fun ρ x y P => ∃ s l, x = .str s ∧ (Sees ρ y (.lst (strsD l)) ∨ y = .tup (strsD l)) ∧ P (.bl (if neg then !decide (s ∈ l) else decide (s ∈ l)))
theorem inV_strs (s : List Nat) (l : List (List Nat)) : inV (.str (mkS s)) (l.map fun s => V.str (mkS s)) = decide (s ∈ l) := by
  unfold inV
  rw [List.any_map]
  rw [Bool.eq_iff_iff]
  simp only [List.any_eq_true, Function.comp, decide_eq_true_eq]
  constructor
  · rintro ⟨t, ht, e⟩
    have e : (mkS t == mkS s) = true := e
    rw [beq_iff_eq, mkS_inj] at e
    rw [← e]; exact ht
  · intro h
    refine ⟨s, h, ?_⟩
    show (mkS s == mkS s) = true
    simp
theorem l_inL {neg : Bool} : Lift2 K (rIn K neg) (rdInL neg) := l2_of fun G F H σ ρ d1 d2 v1 v2 P Q env r1 r2 ⟨s, l, e1, e2, p⟩ k => by
  subst e1
  cases r1
  have fl : (l.map fun s => V.str (mkS s)).all flatV = true := by
    rw [List.all_map, List.all_eq_true]
    intro x hx
    rfl
  rcases e2 with e2 | e2
  · obtain ⟨a, vs, ev, h, rs⟩ := env.lst e2 r2
    have es := reps_strs rs
    subst es
    exact ⟨a, _, ev, .inl h, rfl, fl, by rw [inV_strs]; exact k (.bl _) _ rfl p⟩
  · subst e2
    obtain ⟨a, vs, ev, h, rs⟩ := env.tup r2
    have es := reps_strs rs
    subst es
    exact ⟨a, _, ev, .inr h, rfl, fl, by rw [inV_strs]; exact k (.bl _) _ rfl p⟩
end

/-! ### calls of built-ins -/
def LiftC (K : PySem.W.Frag) (ro : List V → Hp → VK → Prop) (rd : DRs) : Prop := ∀ G F H σ ρ ds vs (P : D → Prop) (Q : VK), Env K G F H σ ρ → Reps K F ds vs → rd ρ ds P →
  (∀ F' H' d v, Grow F H F' H' → Rep K F' d v → P d → Q v H') → ro vs H Q
section
variable {X : Cx} {E : XK} {e o : Expr} {es : List Expr} {u : DA} {to : DX} {x : Str} {id T : String} {ro : List V → Hp → VK → Prop} {rd : DRs} {p pos apos : Pos}
def dCB (rd : DRs) (u : DA) : DX := fun ρ P => u ρ ⟨fun ds ρ1 => rd ρ1 ds fun z => P.ok z ρ1, P.ex⟩
theorem up_cb {K : PySem.W.Frag} (l : LiftC K ro rd) {G : Ent} {F H : Hp} {σ : L2.St} {ρ : Rho} {P : Po D} {Q : VK} (env : Env K G F H σ ρ) (q : dCB rd u ρ P)
    (k : ∀ F' H' d v ρ', Le F F' → Env K G F' H' σ ρ' → Rep K F' d v → P.ok d ρ' → Q v H') (x : ExW K E G F σ P.ex) : tCB ro (upA K E u) σ H Q :=
  ⟨G, F, ρ, _, env, q, fun F1 H1 ds vs ρ1 l1 env1 r1 q1 => l G F1 H1 σ ρ1 ds vs _ Q env1 r1 q1 fun F2 H2 d v g r p => k F2 H2 d v ρ1 (l1.trans g.le) (env1.grow g) r p, x⟩
theorem px_cb (hc : CallR X (.builtin id) ro) (l : LiftC X.K ro rd) (hm : X.mg x = none) (hv : bootBuiltins x = some (.builtin id)) (ha : PXA X E (e :: es) u) (hg : Gl X x := by rfl) (hn : x ≠ "__name__" := by decide) (hdb : (x == ("__debug__" : Str)) = false := by decide)
    (he : starEach (e :: es) X.env = (false, eval e X.env) :: starEach es X.env := by rfl) (hpl : (backTo pos (starEach es X.env)).any (·.1) = false := by rfl) : PX X E (.Call (.Name x p) (e :: es) [] pos) (dCB rd u) :=
  px_of (pe_callB hc hg hm hv ha hn hdb he hpl) fun G F H σ ρ P Q env q k x => up_cb l env q k x
theorem px_ct (hc : CallR X (.type T) ro) (l : LiftC X.K ro rd) (hm : X.mg x = none) (hv : bootBuiltins x = some (.type T)) (ha : PXA X E (e :: es) u) (hg : Gl X x := by rfl) (hn : x ≠ "__name__" := by decide) (hdb : (x == ("__debug__" : Str)) = false := by decide)
    (he : starEach (e :: es) X.env = (false, eval e X.env) :: starEach es X.env := by rfl) (hpl : (backTo pos (starEach es X.env)).any (·.1) = false := by rfl) : PX X E (.Call (.Name x p) (e :: es) [] pos) (dCB rd u) :=
  px_of (pe_callTy hc hg hm hv ha hn hdb he hpl) fun G F H σ ρ P Q env q k x => up_cb l env q k x
end
section
variable {K : PySem.W.Frag}
/-- len -/
def lenD (ρ : Rho) (d : D) (n : Nat) : Prop := (∃ s, d = .str s ∧ s.length ≤ 16777216 ∧ n = s.length) ∨ (∃ ds, Sees ρ d (.lst ds) ∧ n = ds.length) ∨ ∃ ds, d = .tup ds ∧ n = ds.length
def rdLen : DRs := fun ρ ds P => ∃ d n, ds = [d] ∧ lenD ρ d n ∧ P (.int n)
theorem l_len : LiftC K (fun xs H Q => ∃ x n, xs = [x] ∧ LenV K x H n ∧ Q (.int n) H) rdLen := fun G F H σ ρ ds vs P Q env r ⟨d, n, e, h, p⟩ k => by
  subst e
  obtain ⟨v, ev, rv⟩ := reps1 r
  subst ev
  refine ⟨v, n, rfl, ?_, k F H (.int n) _ (Grow.refl env.fit) rfl p⟩
  rcases h with ⟨s, e, b, en⟩ | ⟨es, e, en⟩ | ⟨es, e, en⟩
  · subst e en
    cases rv
    exact ⟨by rw [mkS_len, sizeLine_eq]; exact b, (mkS_len s).symm⟩
  · obtain ⟨a, us, e1, h1, r1⟩ := env.lst e rv
    subst e1
    exact .inl ⟨us, h1, by rw [en, r1.length]⟩
  · subst e
    obtain ⟨a, us, e1, h1, r1⟩ := env.tup rv
    subst e1
    exact .inr ⟨us, h1, by rw [en, r1.length]⟩
/-- all, any of a list of bools -/
def bls (l : List Bool) : List D := l.map .bl
theorem reps_bls {F : Hp} : ∀ {l : List Bool} {vs : List V}, Reps K F (bls l) vs → vs = l.map V.bl
  | [], _, r => by cases r; rfl
  | s :: l, _, r => by
    obtain ⟨v, w, e, h1, h2⟩ := r
    subst e
    cases h1
    rw [reps_bls h2]
    rfl
def rdAll : DRs := fun ρ ds P => ∃ d l, ds = [d] ∧ d = .lst (bls l) ∧ P (.bl (l.all id))
def rdAny : DRs := fun ρ ds P => ∃ d l, ds = [d] ∧ d = .lst (bls l) ∧ P (.bl (l.any id))
theorem l_all : LiftC K (rAll K) rdAll := fun G F H σ ρ ds vs P Q env r ⟨d, l, e, h, p⟩ k => by
  subst e h
  obtain ⟨v, ev, rv⟩ := reps1 r
  subst ev
  obtain ⟨a, us, e1, h1, r1⟩ := env.lst (.inl rfl) rv
  subst e1
  have := reps_bls r1
  subst this
  exact ⟨a, l, rfl, h1, k F H (.bl _) _ (Grow.refl env.fit) rfl p⟩
theorem l_any : LiftC K (rAny K) rdAny := fun G F H σ ρ ds vs P Q env r ⟨d, l, e, h, p⟩ k => by
  subst e h
  obtain ⟨v, ev, rv⟩ := reps1 r
  subst ev
  obtain ⟨a, us, e1, h1, r1⟩ := env.lst (.inl rfl) rv
  subst e1
  have := reps_bls r1
  subst this
  exact ⟨a, l, rfl, h1, k F H (.bl _) _ (Grow.refl env.fit) rfl p⟩
/-! isinstance of a built-in type's value and a built-in type -/
/-! what isinstance asks of a class of the program -/
structure InsK (K : PySem.W.Frag) (C : Addr) : Prop where
  cl : Cls K C
  ha : PySem.W.findIn K (.ref C) "__class__" = some (some (.builtin "object.__class__"))
  hn : PySem.W.specialIn K (.builtin "object.__class__") "__get__" = some (some (.builtin "getset_descriptor.__get__"))
  ht : PySem.W.takesIn K (.builtin "object.__class__") = some true
  hm : PySem.W.mroIn K C (.type "object") = some true
def tyV (K : PySem.W.Frag) (ρ : Rho) (d : D) (t : Value) : Prop := match d with
  | .non => t = .type "NoneType"
  | .bl _ => t = .type "bool"
  | .int _ => t = .type "int"
  | .str _ => t = .type "str"
  | .tup _ => t = .type "tuple"
  | .lst _ => t = .type "list"
  | .dct _ _ => t = .type "dict"
  | .ldct _ _ => t = .type "dict"
  | .obj C _ _ => t = .ref C ∧ InsK K C
  | .raw _ => (t = .type "dict" ∧ ∃ ks ds, Sees ρ d (.dct ks ds)) ∨ (t = .type "list" ∧ ∃ ds, Sees ρ d (.lst ds)) ∨ ∃ C ns ds, t = .ref C ∧ InsK K C ∧ Sees ρ d (.obj C ns ds)
theorem tyV_ok {G : Ent} {F H : Hp} {σ : L2.St} {ρ : Rho} {d : D} {v : V} {t : Value} (env : Env K G F H σ ρ) (r : Rep K F d v) (h : tyV K ρ d t) : TyX K H v t := by
  have hd : (∃ ks ds, Sees ρ d (.dct ks ds)) → TyX K H v (.type "dict") := fun ⟨ks, ds, s⟩ => by
    obtain ⟨a, vs, e1, _, rd, _⟩ := env.dct s r
    subst e1
    rcases rd with rd | ⟨o, rd⟩
    · exact .base (.dK rd)
    · exact .fDict rd
  have hl : (∃ ds, Sees ρ d (.lst ds)) → TyX K H v (.type "list") := fun ⟨ds, s⟩ => by
    obtain ⟨a, vs, e1, rd, _⟩ := env.lstR s r
    subst e1
    rcases rd with rd | ⟨o, rd⟩
    · exact .base (.lst rd)
    · exact .base (.frz rd)
  have ho : ∀ C ns ds, InsK K C → Sees ρ d (.obj C ns ds) → TyX K H v (.ref C) := fun C ns ds i s => by
    obtain ⟨a, dx, vs, e1, _, hH, _⟩ := env.obj s r
    subst e1
    exact .base (.ins hH i.cl i.ha i.hn i.ht i.hm)
  cases d with
  | non => cases h; cases r; exact .base .non
  | bl b => cases h; cases r; exact .base (.bl b)
  | int b => cases h; cases r; exact .base (.int b)
  | str b => cases h; cases r; exact .base (.str _)
  | tup ds =>
    cases h
    obtain ⟨a, vs, e1, rd, _⟩ := env.tup r
    subst e1
    rcases rd with (rd | ⟨o, rd⟩) | ⟨o, its, n, hk, hc, _⟩
    · exact .base (.tup rd)
    · exact .fTuple rd
    · exact .kTuple hk hc
  | lst ds => cases h; exact hl ⟨ds, .inl rfl⟩
  | dct ks ds => cases h; exact hd ⟨ks, ds, .inl rfl⟩
  | ldct ks ds => cases h; exact hd ⟨ks, ds, .inr (.inr ⟨ks, ds, rfl, rfl⟩)⟩
  | obj C ns ds => obtain ⟨e, i⟩ := h; subst e; exact ho C ns ds i (.inl rfl)
  | raw w =>
    rcases h with ⟨e, h⟩ | ⟨e, h⟩ | ⟨C, ns, ds, e, i, h⟩
    · subst e; exact hd h
    · subst e; exact hl h
    · subst e; exact ho C ns ds i h
def rdIsB (K : PySem.W.Frag) (T : String) : DRs := fun ρ ds P => ∃ d n b, ds = [d, .raw (.ty T)] ∧ tyV K ρ d (.type n) ∧ kitB n T = some b ∧ P (.bl b)
theorem l_isB {T : String} : LiftC K (rIsi K) (rdIsB K T) := fun G F H σ ρ ds vs P Q env r ⟨d, n, b, e, h, kb, p⟩ k => by
  subst e
  obtain ⟨v, c, ev, rv, rc⟩ := reps2 r
  subst ev
  cases rc
  exact ⟨v, .ty T, _, _, b, rfl, .ty T, tyV_ok env rv h, kit_ty kb, k F H (.bl b) _ (Grow.refl env.fit) rfl p⟩
/-- .. an instance, a class of the program -/
def rdIsO (K : PySem.W.Frag) : DRs := fun ρ ds P => ∃ d C t b, ds = [d, .raw (.ref C)] ∧ tyV K ρ d t ∧ PySem.W.kitOne K t (.ref C) = some b ∧ P (.bl b)
theorem l_isO : LiftC K (rIsi K) (rdIsO K) := fun G F H σ ρ ds vs P Q env r ⟨d, C, t, b, e, h, kb, p⟩ k => by
  subst e
  obtain ⟨v, c, ev, rv, rc⟩ := reps2 r
  subst ev
  cases rc
  exact ⟨v, .ref C, _, _, b, rfl, .own C, tyV_ok env rv h, kb, k F H (.bl b) _ (Grow.refl env.fit) rfl p⟩
/-- int, max, min, .. of ints -/
def rdInt1 : DRs := fun _ ds P => (∃ i, ds = [.int i] ∧ P (.int i)) ∨ ∃ b, ds = [.bl b] ∧ P (.int (if b then 1 else 0))
theorem l_int1 : LiftC K (fun xs H Q => (∃ i, xs = [.int i] ∧ Q (.int i) H) ∨ ∃ k, xs = [.bl k] ∧ Q (.int (if k then 1 else 0)) H) rdInt1 := fun G F H σ ρ ds vs P Q env r q k => by
  rcases q with ⟨i, e, p⟩ | ⟨b, e, p⟩
  · subst e
    obtain ⟨v, ev, rv⟩ := reps1 r
    cases rv
    exact .inl ⟨i, ev, k F H (.int i) _ (Grow.refl env.fit) rfl p⟩
  · subst e
    obtain ⟨v, ev, rv⟩ := reps1 r
    cases rv
    exact .inr ⟨b, ev, k F H (.int _) _ (Grow.refl env.fit) rfl p⟩
def rdMax2 : DRs := fun _ ds P => ∃ i j, ds = [.int i, .int j] ∧ P (.int (if j > i then j else i))
theorem l_max2 : LiftC K (fun xs H Q => ∃ i j, xs = [.int i, .int j] ∧ Q (.int (if j > i then j else i)) H) rdMax2 := fun G F H σ ρ ds vs P Q env r ⟨i, j, e, p⟩ k => by
  subst e
  obtain ⟨v, c, ev, rv, rc⟩ := reps2 r
  cases rv
  cases rc
  exact ⟨i, j, ev, k F H (.int _) _ (Grow.refl env.fit) rfl p⟩
def rdMin2 : DRs := fun _ ds P => ∃ i j, ds = [.int i, .int j] ∧ P (.int (if j < i then j else i))
theorem l_min2 : LiftC K (fun xs H Q => ∃ i j, xs = [.int i, .int j] ∧ Q (.int (if j < i then j else i)) H) rdMin2 := fun G F H σ ρ ds vs P Q env r ⟨i, j, e, p⟩ k => by
  subst e
  obtain ⟨v, c, ev, rv, rc⟩ := reps2 r
  cases rv
  cases rc
  exact ⟨i, j, ev, k F H (.int _) _ (Grow.refl env.fit) rfl p⟩
/-- tuple(..), list(..) -/
def rdTupOf : DRs := fun ρ ds P => ∃ d xs, ds = [d] ∧ ((Sees ρ d (.lst xs) ∨ d = .tup xs) ∧ P (.tup xs))
theorem l_tupOf : LiftC K (fun xs H Q => ∃ p ys, xs = [.ref p] ∧ ((SqL K H p ys ∧ ∀ l, H l = none → Q (.ref l) (upd H l (.tup ys))) ∨ (SqT K H p ys ∧ Q (.ref p) H))) rdTupOf := fun G F H σ ρ ds vs P Q env r ⟨d, xs, e, h, p⟩ k => by
  subst e
  obtain ⟨v, ev, rv⟩ := reps1 r
  subst ev
  rcases h with h | h
  · obtain ⟨a, us, e1, h1, r1⟩ := env.lst h rv
    subst e1
    exact ⟨a, us, rfl, .inl ⟨h1, fun l hl => k _ _ (.tup xs) _ (Grow.alloc env.fit hl) (rep_newT (none_sub env.fit hl) r1) p⟩⟩
  · subst h
    obtain ⟨a, us, e1, h1, r1⟩ := env.tup rv
    subst e1
    exact ⟨a, us, rfl, .inr ⟨h1, k F H (.tup xs) _ (Grow.refl env.fit) rv p⟩⟩
def rdLstOf : DRs := fun ρ ds P => ∃ d xs, ds = [d] ∧ ((Sees ρ d (.lst xs) ∨ d = .tup xs) ∧ P (.lst xs))
theorem l_lstOf : LiftC K (fun xs H Q => ∃ p ys, xs = [.ref p] ∧ (SqL K H p ys ∨ SqT K H p ys) ∧ ∀ l, H l = none → Q (.ref l) (upd H l (.lst ys))) rdLstOf := fun G F H σ ρ ds vs P Q env r ⟨d, xs, e, h, p⟩ k => by
  subst e
  obtain ⟨v, ev, rv⟩ := reps1 r
  subst ev
  rcases h with h | h
  · obtain ⟨a, us, e1, h1, r1⟩ := env.lst h rv
    subst e1
    exact ⟨a, us, rfl, .inl h1, fun l hl => k _ _ (.lst xs) _ (Grow.alloc env.fit hl) (rep_newL (none_sub env.fit hl) r1) p⟩
  · subst h
    obtain ⟨a, us, e1, h1, r1⟩ := env.tup rv
    subst e1
    exact ⟨a, us, rfl, .inr h1, fun l hl => k _ _ (.lst xs) _ (Grow.alloc env.fit hl) (rep_newL (none_sub env.fit hl) r1) p⟩
end

/-! ### subscripts and slices -/
section
variable {X : Cx} {E : XK} {a b : Expr} {ta tb : DX} {ro : R2} {rd : DR2} {pos p2 : Pos}
theorem px_ix (hr : IxR X ro) (l : Lift2 X.K ro rd) (ha : PX X E a ta) (hb : PX X E b tb) (hs : PlainIx b := by intro _ _; rfl) : PX X E (.Subscript a b pos) (dOp rd ta tb) :=
  px_of (pe_ix hr ha hb hs) fun G F H σ ρ P Q env q k x => up_op l env q k x
end
section
variable {K : PySem.W.Frag}
theorem atI_reps {F : Hp} {ds : List D} {vs : List V} {i : Int} {d : D} (r : Reps K F ds vs) (h : atI ds i = some d) : ∃ v, atI vs i = some v ∧ Rep K F d v := by
  unfold atI at h ⊢
  rw [← r.length]
  cases e : ixN ds.length i with
  | none => rw [e] at h; cases h
  | some j =>
    rw [e] at h
    exact r.get h
def rdIxL : DR2 := fun ρ x y P => ∃ ds i d, Sees ρ x (.lst ds) ∧ y = .int i ∧ atI ds i = some d ∧ P d
def rdIxT : DR2 := fun ρ x y P => ∃ ds i d, x = .tup ds ∧ y = .int i ∧ atI ds i = some d ∧ P d
def rdIxS : DR2 := fun ρ x y P => ∃ s i c, x = .str s ∧ y = .int i ∧ s.length ≤ 16777216 ∧ atI s i = some c ∧ P (.str [c])
theorem l_ixL : Lift2 K (rIxL K) rdIxL := l2_of fun G F H σ ρ d1 d2 v1 v2 P Q env r1 r2 ⟨ds, i, d, e1, e2, h, p⟩ k => by
  subst e2
  cases r2
  obtain ⟨a, us, ev, h1, rs⟩ := env.lst e1 r1
  obtain ⟨v, hv, rv⟩ := atI_reps rs h
  exact ⟨a, us, i, v, ev, rfl, h1, hv, k d v rv p⟩
theorem l_ixT : Lift2 K (rIxT K) rdIxT := l2_of fun G F H σ ρ d1 d2 v1 v2 P Q env r1 r2 ⟨ds, i, d, e1, e2, h, p⟩ k => by
  subst e1 e2
  cases r2
  obtain ⟨a, us, ev, h1, rs⟩ := env.tup r1
  obtain ⟨v, hv, rv⟩ := atI_reps rs h
  exact ⟨a, us, i, v, ev, rfl, h1, hv, k d v rv p⟩
theorem l_ixS : Lift2 K rIxS rdIxS := l2_of fun G F H σ ρ d1 d2 v1 v2 P Q env r1 r2 ⟨s, i, c, e1, e2, b, h, p⟩ k => by
  subst e1 e2
  cases r1
  cases r2
  exact ⟨mkS s, i, c, rfl, rfl, by rw [mkS_len, sizeLine_eq]; exact b, h, k (.str [c]) _ rfl p⟩
end
end DL

set_option Elab.async false
set_option linter.all false
set_option maxRecDepth 100000
set_option maxHeartbeats 2000000
namespace DL
open PySem PySem.Spec PyProof.Rows L2 TL

/-! ### a cell is written -/
section
variable {K : PySem.W.Frag} {G : Ent} {F H : Hp} {σ : L2.St} {ρ : Rho} {a : Addr} {d0 d' : D} {o' : HO} {l r : List Cell}
def Rho.os' (ρ : Rho) (os : List Cell) : Rho := { ρ with os := os }
theorem Env.updC (e : Env K G F H σ ρ) (hc : ρ.os = l ++ ⟨a, d0⟩ :: r) (i : InCell K F d' o') : Env K G F (upd H a o') σ (ρ.os' (l ++ ⟨a, d'⟩ :: r)) := by
  have hm : (⟨a, d0⟩ : Cell) ∈ ρ.os := by rw [hc]; simp
  have fa : F a = none := e.cells.nof _ hm
  have nf : ∀ b v, F b = some v → b ≠ a := fun b v h z => by rw [z, fa] at h; cases h
  have nd := e.cells.nd
  rw [hc] at nd
  have ad : addrs (l ++ ⟨a, d0⟩ :: r) = addrs (l ++ ⟨a, d'⟩ :: r) := by simp [addrs]
  have ne : ∀ c ∈ l ++ r, c.a ≠ a := fun c h z => by
    have q : (addrs l ++ a :: addrs r).Nodup := by simpa [addrs] using nd
    have q2 := List.nodup_append.mp q
    rcases List.mem_append.mp h with h | h
    · exact q2.2.2 c.a (mem_addrs.mpr ⟨c, h, rfl⟩) a List.mem_cons_self z
    · exact (List.nodup_cons.mp q2.2.1).1 (z ▸ mem_addrs.mpr ⟨c, h, rfl⟩)
  have old : ∀ c ∈ l ++ r, c ∈ ρ.os := fun c h => by
    rw [hc]
    rcases List.mem_append.mp h with h | h
    · exact List.mem_append_left _ h
    · exact List.mem_append_right _ (List.mem_cons_of_mem _ h)
  have spl : ∀ c ∈ l ++ ⟨a, d'⟩ :: r, c = ⟨a, d'⟩ ∨ c ∈ l ++ r := fun c h => by
    rcases List.mem_append.mp h with h | h
    · exact .inr (List.mem_append_left _ h)
    · rcases List.mem_cons.mp h with h | h
      · exact .inl h
      · exact .inr (List.mem_append_right _ h)
  refine ⟨fun b v h => by rw [upd_ne (nf b v h)]; exact e.fit b v h, e.ext, fun b v hb hn => ?_, e.new, fun b hb => ?_, e.slots, e.len, ⟨?_, fun c hc' => ?_, fun c hc' => ?_⟩, fun c hc' => ?_, fun b hb => ⟨(e.lo b hb).1, ?_⟩⟩
  · have q : b ≠ a := fun z => by
      rcases e.mine _ hm with m | m
      · exact hn (z ▸ m)
      · rw [← z] at m; rw [m] at hb; cases hb
    rw [upd_ne q]; exact e.keep b v hb hn
  · by_cases q : b = a
    · rw [q, upd_same]; simp
    · rw [upd_ne q]; exact e.there b hb
  · show (addrs (l ++ ⟨a, d'⟩ :: r)).Nodup
    rw [← ad]; exact nd
  · rcases spl c hc' with z | z
    · subst z; exact fa
    · exact e.cells.nof c (old c z)
  · rcases spl c hc' with z | z
    · subst z; exact ⟨o', upd_same, i⟩
    · rw [upd_ne (ne c z)]; exact e.cells.at_ c (old c z)
  · rcases spl c hc' with z | z
    · subst z; exact e.mine (⟨a, d0⟩ : Cell) hm
    · exact e.mine c (old c z)
  · by_cases q : b = a
    · rw [q, upd_same]; simp
    · rw [upd_ne q]; exact (e.lo b hb).2
theorem Env.at (e : Env K G F H σ ρ) (hc : ρ.os = l ++ ⟨a, d0⟩ :: r) : ∃ o, H a = some o ∧ InCell K F d0 o := e.cells.at_ ⟨a, d0⟩ (by rw [hc]; simp)
end

section
variable {X : Cx} {E : XK} {e o i j value : Expr} {es : List Expr} {te ti tv to : DX} {u : DA} {x f : Str} {pos p2 apos cpos pos' tpos : Pos}
/-! ### a, b = e1, e2 -/
def dPar (i j : Nat) (u : DA) : DS := fun ρ P => u ρ ⟨fun ds ρ1 => ∃ x y, ds = [x, y] ∧ P.nx ((ρ1.set i x).set j y), P.ex⟩
theorem sx_par (i j : Nat) {x y : Str} {a b : Expr} {px py pt : Pos} {kt k2 pt2} (hc : X.calm = true) (hN : X.N.Nodup) (ha : PXA X E [a, b] u) (hw : swappedStores [.Tuple [.Name x px, .Name y py] kt pt] (.Tuple [a, b] k2 pt2) X.env = pure (some [x, y])) (hij : i ≠ j)
    (hi : X.N[i]? = some x := by rfl) (hj : X.N[j]? = some y := by rfl) (hx : X.env.scope.names.lookup x = some .local := by rfl) (hy : X.env.scope.names.lookup y = some .local := by rfl)
    (hs : swapsWithSole [.Tuple [.Name x px, .Name y py] kt pt] (.Tuple [a, b] k2 pt2) pos.line X.env = pure false := by rfl) : PXS X E (.Assign [.Tuple [.Name x px, .Name y py] kt pt] (.Tuple [a, b] k2 pt2) pos) (dPar i j u) :=
  PS.weak (ps_par hc hN hi hj hij hx hy ha hw hs) fun Dn σ H ⟨G, F, ρ, P, env, q, f⟩ => ⟨G, F, ρ, _, env, q, fun F1 H1 ds vs ρ1 l1 env1 r1 ⟨a, b, ed, q1⟩ => by
    subst ed
    obtain ⟨v, w, ev, ra, rb⟩ := reps2 r1
    exact ⟨v, w, ev, f.nx F1 H1 _ _ l1 ((env1.set i ra).set j rb) q1⟩, f.ex σ⟩
/-! ### fields -/
def fidx (ns : List Str) (f : Str) : Option Nat := ns.findIdx? (· == f)
theorem lookup_zip : ∀ {ns : List Str} {vs : List V} {f : Str} {k : Nat} {v : V}, fidx ns f = some k → vs[k]? = some v → (ns.zip vs).lookup f = some v
  | [], _, _, _, _, h, _ => by simp [fidx] at h
  | n :: ns, [], _, k, _, _, h => by simp at h
  | n :: ns, w :: vs, f, k, v, h, hv => by
    unfold fidx at h
    rw [List.findIdx?_cons] at h
    show List.lookup f ((n, w) :: ns.zip vs) = some v
    by_cases q : n = f
    · subst q
      simp only [beq_self_eq_true, if_true] at h
      cases h
      have : w = v := Option.some.inj hv
      subst this
      simp [List.lookup]
    · have q1 : (n == f) = false := by simpa using q
      rw [q1] at h
      simp only [Bool.false_eq_true, if_false] at h
      obtain ⟨j, hj, e⟩ := Option.map_eq_some_iff.mp h
      subst e
      have q2 : (f == n) = false := by simpa using Ne.symm q
      simp only [List.lookup, q2]
      exact lookup_zip (ns := ns) hj hv
theorem lookup_zip_none : ∀ {ns : List Str} {vs : List V} {f : Str}, fidx ns f = none → (ns.zip vs).lookup f = none
  | [], _, _, _ => rfl
  | n :: ns, [], _, _ => rfl
  | n :: ns, w :: vs, f, h => by
    unfold fidx at h
    rw [List.findIdx?_cons] at h
    show List.lookup f ((n, w) :: ns.zip vs) = none
    by_cases q : n = f
    · subst q
      simp at h
    · have q1 : (n == f) = false := by simpa using q
      rw [q1] at h
      simp only [Bool.false_eq_true, if_false] at h
      have q2 : (f == n) = false := by simpa using Ne.symm q
      simp only [List.lookup, q2]
      exact lookup_zip_none (ns := ns) (by unfold fidx; simpa using h)
/-- o.f -/
def dFld (C : Addr) (f : Str) (to : DX) : DX := fun ρ P => to ρ ⟨fun o ρ1 => ∃ ns ds k d, Sees ρ1 o (.obj C ns ds) ∧ fidx ns f = some k ∧ ds[k]? = some d ∧ P.ok d ρ1, P.ex⟩
theorem px_fld {C : Addr} (c : Cls X.K C) (n : NoAttr X.K C f) (h : PX X E o to) (hb : attributeBase o f X.env (eval o X.env) = eval o X.env := by rfl) : PX X E (.Attribute o f pos) (dFld C f to) :=
  px_of (pe_fld h hb) fun G F H σ ρ P Q env q k x => ⟨G, F, ρ, _, env, q, fun F1 H1 d v ρ1 l1 env1 r1 ⟨ns, ds, j, d', s, hj, hd, q1⟩ => by
    obtain ⟨a, dx, vs, ev, hl, hH, rs⟩ := env1.obj s r1
    obtain ⟨w, hw, rw'⟩ := rs.get hd
    exact ⟨a, C, dx, _, w, ev, hH, c, n, lookup_zip hj hw, k F1 H1 d' w ρ1 l1 env1 rw' q1⟩, x⟩
def putNs (ns : List Str) (f : Str) : List Str := match fidx ns f with
  | some _ => ns
  | none => ns ++ [f]
def putDs {α : Type} (ns : List Str) (f : Str) (ds : List α) (d : α) : List α := match fidx ns f with
  | some k => ds.set k d
  | none => ds ++ [d]
theorem putF_zip : ∀ {ns : List Str} {vs : List V} {f : Str} {v : V}, ns.length = vs.length → putF f v (ns.zip vs) = (putNs ns f).zip (putDs ns f vs v)
  | [], [], f, v, _ => rfl
  | n :: ns, w :: vs, f, v, h => by
    have h : ns.length = vs.length := by simpa using h
    have ih := putF_zip (ns := ns) (vs := vs) (f := f) (v := v) h
    show putF f v ((n, w) :: ns.zip vs) = _
    unfold putNs putDs fidx at *
    rw [List.findIdx?_cons]
    by_cases q : n = f
    · subst q
      simp [putF]
    · have q1 : (n == f) = false := by simpa using q
      rw [q1]
      simp only [Bool.false_eq_true, if_false]
      have e : putF f v ((n, w) :: ns.zip vs) = (n, w) :: putF f v (ns.zip vs) := if_neg q
      rw [e, ih]
      cases z : List.findIdx? (fun x => x == f) ns with
      | none => rfl
      | some k => rfl
theorem putNs_len {ns : List Str} {f : Str} {α : Type} {ds : List α} {d : α} (h : ns.length = ds.length) : (putNs ns f).length = (putDs ns f ds d).length := by
  unfold putNs putDs
  cases fidx ns f with
  | none => simp [h]
  | some k => simp [h]
theorem Reps.set {K : PySem.W.Frag} {F : Hp} {d : D} {v : V} (r : Rep K F d v) : ∀ (k : Nat) {ds : List D} {vs : List V}, Reps K F ds vs → Reps K F (ds.set k d) (vs.set k v)
  | _, [], _, h => by cases h; exact rfl
  | 0, x :: ds, _, h => by
    obtain ⟨w, ws, e, h1, h2⟩ := h
    subst e
    exact ⟨v, ws, rfl, r, h2⟩
  | k + 1, x :: ds, _, h => by
    obtain ⟨w, ws, e, h1, h2⟩ := h
    subst e
    exact ⟨w, ws.set k v, rfl, h1, Reps.set r k h2⟩
theorem reps_put {K : PySem.W.Frag} {F : Hp} {ns : List Str} {ds : List D} {vs : List V} {d : D} {v : V} (rs : Reps K F ds vs) (r : Rep K F d v) : Reps K F (putDs ns f ds d) (putDs ns f vs v) := by
  unfold putDs
  cases fidx ns f with
  | none => exact rs.app (Reps.one r)
  | some k => exact Reps.set r k rs
/-- o.f = e, o a cell -/
def dSetF (C : Addr) (f : Str) (to tv : DX) : DS := fun ρ P => tv ρ ⟨fun d ρ1 => to ρ1 ⟨fun o ρ2 => ∃ a l r ns ds, o = .raw (.ref a) ∧ ρ2.os = l ++ ⟨a, .obj C ns ds⟩ :: r ∧ ns.length < 1000 ∧
  P.nx (ρ2.os' (l ++ ⟨a, .obj C (putNs ns f) (putDs ns f ds d)⟩ :: r)), P.ex⟩, P.ex⟩
theorem sx_fld {C : Addr} (c : Cls X.K C) (n : NoAttr X.K C f) (h : PX X E o to) (hv : PX X E value tv) (hs : swapsWith value (some (.Attribute o f pos')) pos.line X.env = pure false := by rfl) : PXS X E (.Assign [.Attribute o f pos'] value pos) (dSetF C f to tv) :=
  PS.weak (ps_fld h hv hs) fun Dn σ H ⟨G, F, ρ, P, env, q, fi⟩ => ⟨G, F, ρ, _, env, q, fun F1 H1 d v ρ1 l1 env1 r1 q1 => ⟨G, F1, ρ1, _, env1, q1, fun F2 H2 d2 v2 ρ2 l2 env2 r2 ⟨a, l, r, ns, ds, eo, ec, hl, q2⟩ => by
    subst eo
    cases r2
    obtain ⟨ho, hH, i⟩ := env2.at ec
    obtain ⟨dx, vs, hn, eo, rs⟩ := i
    subst eo
    have hlen : ns.length = vs.length := hn.trans rs.length
    refine ⟨a, C, dx, _, rfl, hH, c, n, by rw [List.length_zip, ← hlen]; omega, ?_⟩
    rw [putF_zip hlen]
    exact fi.nx F2 _ σ _ (l1.trans l2) (env2.updC ec (d' := .obj C (putNs ns f) (putDs ns f ds d)) ⟨dx, putDs ns f vs v, putNs_len hn, rfl, reps_put rs (r1.mono l2)⟩) q2, (fi.ex σ).le l1⟩, fi.ex σ⟩
/-- o.f += n, o a cell, ints -/
def dAugF (C : Addr) (f : Str) (to tv : DX) : DS := fun ρ P => to ρ ⟨fun o ρ1 => ∃ a ns ds k n, o = .raw (.ref a) ∧ Sees ρ1 o (.obj C ns ds) ∧ fidx ns f = some k ∧ ds[k]? = some (.int n) ∧ tv ρ1 ⟨fun d ρ2 => ∃ m l r ns' ds', d = .int m ∧ ρ2.os = l ++ ⟨a, .obj C ns' ds'⟩ :: r ∧ ns'.length < 1000 ∧
  P.nx (ρ2.os' (l ++ ⟨a, .obj C (putNs ns' f) (putDs ns' f ds' (.int (n + m)))⟩ :: r)), P.ex⟩, P.ex⟩
theorem in_addI : InOp X .Add rAdd := in_add
theorem sx_fldaug {C : Addr} (c : Cls X.K C) (n : NoAttr X.K C f) (h : PX X E o to) (hv : PX X E value tv) : PXS X E (.AugAssign (.Attribute o f tpos) .Add value pos) (dAugF C f to tv) :=
  PS.weak (ps_fldaug h hv in_add) fun Dn σ H ⟨G, F, ρ, P, env, q, fi⟩ => ⟨G, F, ρ, _, env, q, fun F1 H1 d v ρ1 l1 env1 r1 ⟨a, ns, ds, k, z, eo, s, hk, hd, q1⟩ => by
    obtain ⟨a', dx, vs, ev, hl, hH, rs⟩ := env1.obj s r1
    subst eo
    cases r1
    cases ev
    obtain ⟨w, hw, rw'⟩ := rs.get hd
    cases rw'
    refine ⟨a, C, dx, _, .int z, rfl, hH, c, n, lookup_zip hk hw, G, F1, ρ1, _, env1, q1, fun F2 H2 d2 v2 ρ2 l2 env2 r2 ⟨m, l, r, ns', ds', ed, ec, hl', q2⟩ => ?_, (fi.ex σ).le l1⟩
    subst ed
    cases r2
    obtain ⟨ho, hH2, i⟩ := env2.at ec
    obtain ⟨dx', vs', hn, eo, rs'⟩ := i
    subst eo
    have hlen : ns'.length = vs'.length := hn.trans rs'.length
    refine ⟨z, m, rfl, rfl, dx', _, hH2, by rw [List.length_zip, ← hlen]; omega, ?_⟩
    rw [putF_zip hlen]
    exact fi.nx F2 _ σ _ (l1.trans l2) (env2.updC ec (d' := .obj C (putNs ns' f) (putDs ns' f ds' (.int (z + m)))) ⟨dx', putDs ns' f vs' (.int (z + m)), putNs_len hn, rfl, reps_put rs' rfl⟩) q2, fi.ex σ⟩

/-! ### methods, properties, new instances -/
structure KnM (P : Program) (w : World) (K : PySem.W.Frag) (mg : Str → Option Value) (base : Heap) (CX : CXT) (C : Addr) (m : Str) (k : Nat) (ps : List Str) (R : DF) : Prop where
  cl : Cls K C
  ex : ∃ f fd, Meth K C m f ∧ Binds K fd ps [] ∧ FnOk P w K mg base CX k f fd ps (Pr K R)
structure KnP (P : Program) (w : World) (K : PySem.W.Frag) (mg : Str → Option Value) (base : Heap) (CX : CXT) (C : Addr) (m : Str) (k : Nat) (ps : List Str) (R : DF) : Prop where
  cl : Cls K C
  ex : ∃ pr g fd, PropOf K C m pr g ∧ Binds K fd ps [] ∧ FnOk P w K mg base CX k g fd ps (Pr K R)
structure KnI (P : Program) (w : World) (K : PySem.W.Frag) (mg : Str → Option Value) (base : Heap) (CX : CXT) (x : Str) (C : Addr) (k : Nat) (ps : List Str) (R : DF) : Prop where
  ex : ∃ f fd, Mk K C f ∧ mg x = some (.ref C) ∧ Binds K fd ps [] ∧ FnOk P w K mg base CX k f fd ps (Pr K R)
variable {C : Addr} {CX : CXT} {m : Str} {k : Nat} {ps : List Str} {R : DF}
def dMeth (C : Addr) (m : Str) (R : DF) (to : DX) (u : DA) : DX := fun ρ P => to ρ ⟨fun o ρ1 => (∃ ns ds, Sees ρ1 o (.obj C ns ds) ∧ fidx ns m = none) ∧ u ρ1 ⟨fun ds ρ2 => R (o :: ds) [] ⟨fun d os' => P.ok d ρ2, fun C ns ds' os' => P.ex C ns ds' ρ2⟩, P.ex⟩, P.ex⟩
def dMethC (C : Addr) (m : Str) (R : DF) (to : DX) (u : DA) : DX := fun ρ P => to ρ ⟨fun o ρ1 => (∃ ns ds, Sees ρ1 o (.obj C ns ds) ∧ fidx ns m = none) ∧ u ρ1 ⟨fun ds ρ2 => ∃ os1 os2, ρ2.os.Perm (os1 ++ os2) ∧ R (o :: ds) os1 ⟨fun d os' => P.ok d (ρ2.ret os1 os' os2), fun C ns ds' os' => P.ex C ns ds' (ρ2.ret os1 os' os2)⟩, P.ex⟩, P.ex⟩
theorem lead {α : Type} {x : α} {l : List α} {P : List α → Prop} (h : P (x :: l)) : P (x :: (l ++ [])) := by rw [List.append_nil]; exact h
theorem px_meth {pl : Sem Bool} (M : KnM X.prog X.w X.K X.mg X.base CX C m k ps R) (hr : Room k X.A) (hx : Passes CX X E) (ho : PX X E o to) (ha : PXA X E (e :: es) u)
    (hst : starEach (e :: es) X.env = (false, eval e X.env) :: starEach es X.env := by rfl) (hpl : (backTo cpos (starEach es X.env)).any (·.1) = false := by rfl)
    (ht : eval (.Call (.Attribute o m apos) (e :: es) [] cpos) X.env = (do
      let ov ← eval o X.env
      standAt apos.atName
      let (f, first) ← holding [ov] (getMethod ov m pl)
      callWith cpos f first (backTo cpos (starEach (e :: es) X.env)) (backToKw cpos (keywordEach [] X.env))) := by rfl) : PX X E (.Call (.Attribute o m apos) (e :: es) [] cpos) (dMeth C m R to u) := by
  obtain ⟨f, fd, mt, b, Fk⟩ := M.ex
  exact px_of (pe_meth (pl := pl) ho M.cl mt Fk hr b .nil hx ha hst hpl ht) fun G F H σ ρ P Q env q k x => ⟨G, F, ρ, _, env, q, fun F1 H1 d v ρ1 l1 env1 r1 ⟨⟨ns, ds, s, hn⟩, q1⟩ => by
    obtain ⟨a, dx, vs, ev, hl, hH, rs⟩ := env1.obj s r1
    exact ⟨a, dx, _, ev, hH, lookup_zip_none hn, G, F1, ρ1, _, env1, q1, fun F2 H2 es ws ρ2 l2 env2 r2 q2 =>
      lead (P := fun l => Pr X.K R l H2 Q E) (pr_call env2 (Reps.cons (r1.mono l2) r2) q2 (fun F' H' d v ρ' l => k F' H' d v ρ' ((l1.trans l2).trans l)) (x.le (l1.trans l2))), x.le l1⟩, x⟩
theorem px_methC {pl : Sem Bool} (M : KnM X.prog X.w X.K X.mg X.base CX C m k ps R) (hr : Room k X.A) (hx : Passes CX X E) (ho : PX X E o to) (ha : PXA X E (e :: es) u)
    (hst : starEach (e :: es) X.env = (false, eval e X.env) :: starEach es X.env := by rfl) (hpl : (backTo cpos (starEach es X.env)).any (·.1) = false := by rfl)
    (ht : eval (.Call (.Attribute o m apos) (e :: es) [] cpos) X.env = (do
      let ov ← eval o X.env
      standAt apos.atName
      let (f, first) ← holding [ov] (getMethod ov m pl)
      callWith cpos f first (backTo cpos (starEach (e :: es) X.env)) (backToKw cpos (keywordEach [] X.env))) := by rfl) : PX X E (.Call (.Attribute o m apos) (e :: es) [] cpos) (dMethC C m R to u) := by
  obtain ⟨f, fd, mt, b, Fk⟩ := M.ex
  exact px_of (pe_meth (pl := pl) ho M.cl mt Fk hr b .nil hx ha hst hpl ht) fun G F H σ ρ P Q env q k x => ⟨G, F, ρ, _, env, q, fun F1 H1 d v ρ1 l1 env1 r1 ⟨⟨ns, ds, s, hn⟩, q1⟩ => by
    obtain ⟨a, dx, vs, ev, hl, hH, rs⟩ := env1.obj s r1
    exact ⟨a, dx, _, ev, hH, lookup_zip_none hn, G, F1, ρ1, _, env1, q1, fun F2 H2 es ws ρ2 l2 env2 r2 q2 =>
      lead (P := fun l => Pr X.K R l H2 Q E) (pr_callC env2 (Reps.cons (r1.mono l2) r2) q2 (fun F' H' d v ρ' l => k F' H' d v ρ' ((l1.trans l2).trans l)) (x.le (l1.trans l2))), x.le l1⟩, x⟩
theorem px_meth0 {pl : Sem Bool} (M : KnM X.prog X.w X.K X.mg X.base CX C m k ps R) (hr : Room k X.A) (hx : Passes CX X E) (ho : PX X E o to)
    (ht : eval (.Call (.Attribute o m apos) [] [] cpos) X.env = (do
      let ov ← eval o X.env
      standAt apos.atName
      let (f, first) ← holding [ov] (getMethod ov m pl)
      callWith cpos f first [] []) := by rfl) : PX X E (.Call (.Attribute o m apos) [] [] cpos) (dMeth C m R to dNil) := by
  obtain ⟨f, fd, mt, b, Fk⟩ := M.ex
  exact px_of (pe_meth0 (pl := pl) ho M.cl mt Fk hr b .nil hx ht) fun G F H σ ρ P Q env q k x => ⟨G, F, ρ, _, env, q, fun F1 H1 d v ρ1 l1 env1 r1 ⟨⟨ns, ds, s, hn⟩, q1⟩ => by
    obtain ⟨a, dx, vs, ev, hl, hH, rs⟩ := env1.obj s r1
    refine ⟨a, dx, _, ev, hH, lookup_zip_none hn, ?_⟩
    exact lead (P := fun l => Pr X.K R l H1 Q E) (l := []) (pr_call env1 (Reps.one r1) q1 (fun F' H' d v ρ' l => k F' H' d v ρ' (l1.trans l)) (x.le l1)), x⟩
theorem px_meth0C {pl : Sem Bool} (M : KnM X.prog X.w X.K X.mg X.base CX C m k ps R) (hr : Room k X.A) (hx : Passes CX X E) (ho : PX X E o to)
    (ht : eval (.Call (.Attribute o m apos) [] [] cpos) X.env = (do
      let ov ← eval o X.env
      standAt apos.atName
      let (f, first) ← holding [ov] (getMethod ov m pl)
      callWith cpos f first [] []) := by rfl) : PX X E (.Call (.Attribute o m apos) [] [] cpos) (dMethC C m R to dNil) := by
  obtain ⟨f, fd, mt, b, Fk⟩ := M.ex
  exact px_of (pe_meth0 (pl := pl) ho M.cl mt Fk hr b .nil hx ht) fun G F H σ ρ P Q env q k x => ⟨G, F, ρ, _, env, q, fun F1 H1 d v ρ1 l1 env1 r1 ⟨⟨ns, ds, s, hn⟩, q1⟩ => by
    obtain ⟨a, dx, vs, ev, hl, hH, rs⟩ := env1.obj s r1
    refine ⟨a, dx, _, ev, hH, lookup_zip_none hn, ?_⟩
    exact lead (P := fun l => Pr X.K R l H1 Q E) (l := []) (pr_callC env1 (Reps.one r1) q1 (fun F' H' d v ρ' l => k F' H' d v ρ' (l1.trans l)) (x.le l1)), x⟩
/-- o.f, a property -/
def dProp (C : Addr) (R : DF) (to : DX) : DX := fun ρ P => to ρ ⟨fun o ρ1 => (∃ ns ds, Sees ρ1 o (.obj C ns ds)) ∧ R [o] [] ⟨fun d os' => P.ok d ρ1, fun C ns ds' os' => P.ex C ns ds' ρ1⟩, P.ex⟩
theorem px_prop (M : KnP X.prog X.w X.K X.mg X.base CX C f k ps R) (hr : Room (k + 1) X.A) (hx : Passes CX X E) (hx' : Passes CX X.nox E) (ho : PX X E o to) (hab : attributeBase o f X.env (eval o X.env) = eval o X.env := by rfl) : PX X E (.Attribute o f pos) (dProp C R to) := by
  obtain ⟨pr, g, fd, pp, b, Fk⟩ := M.ex
  exact px_of (pe_prop ho M.cl pp Fk hr b .nil hx' hab) fun G F H σ ρ P Q env q k x => ⟨G, F, ρ, _, env, q, fun F1 H1 d v ρ1 l1 env1 r1 ⟨⟨ns, ds, s⟩, q1⟩ => by
    obtain ⟨a, dx, vs, ev, hl, hH, rs⟩ := env1.obj s r1
    subst ev
    exact ⟨a, dx, _, rfl, hH, pr_call env1 (Reps.one r1) q1 (fun F' H' d v ρ' l => k F' H' d v ρ' (l1.trans l)) (x.le l1)⟩, x⟩
/-- C(..): the new instance is data -/
def dMake (C : Addr) (R : DF) (u : DA) : DX := fun ρ P => u ρ ⟨fun ds ρ1 => ∀ p, Fresh ρ1 p → R (.raw (.ref p) :: ds) [⟨p, .obj C [] []⟩] ⟨fun d os' => d = .non ∧ ∃ ns ds' r, os' = ⟨p, .obj C ns ds'⟩ :: r ∧ P.ok (.obj C ns ds') ρ1, fun C ns ds' os' => P.ex C ns ds' ρ1⟩, P.ex⟩
/-- .. a cell -/
def dMakeC (C : Addr) (R : DF) (u : DA) : DX := fun ρ P => u ρ ⟨fun ds ρ1 => ∀ p, Fresh ρ1 p → R (.raw (.ref p) :: ds) [⟨p, .obj C [] []⟩] ⟨fun d os' => d = .non ∧ ∃ o r, os' = ⟨p, o⟩ :: r ∧ P.ok (.raw (.ref p)) (ρ1.add p o), fun C ns ds' os' => P.ex C ns ds' ρ1⟩, P.ex⟩
theorem After.first {K : PySem.W.Frag} {F H : Hp} {os : List Cell} {F' H' : Hp} {os' : List Cell} (a : After K F H os F' H' os') {c : Cell} (h : c ∈ os') : ∃ o, H' c.a = some o ∧ InCell K F' c.d o ∧ F' c.a = none := by
  obtain ⟨o, h1, h2⟩ := a.cells.at_ c h
  exact ⟨o, h1, h2, a.cells.nof c h⟩
/-- the instance's own cell at the call of __init__ -/
theorem make_env {K : PySem.W.Frag} {G : Ent} {F H : Hp} {σ : L2.St} {ρ : Rho} (env : Env K G F H σ ρ) {p dx : Addr} (hp : H p = none) (hd : H dx = none) (hne : dx ≠ p) :
    let H1 := upd (upd H dx (.own p)) p (.ins C dx [])
    (∀ a u, F a = some u → H1 a = some u) ∧ Cells K F H1 [⟨p, .obj C [] []⟩] ∧ ∀ F' H' os', After K F H1 [⟨p, .obj C [] []⟩] F' H' os' → Env K G F' H' σ ρ ∧ ∀ a, a = p → Out F' ρ a ∨ True := by
  intro H1
  have nf : ∀ a u, F a = some u → a ≠ p ∧ a ≠ dx := fun a u h => ⟨ne_of_none (env.fit a u h) hp, ne_of_none (env.fit a u h) hd⟩
  have keep : ∀ a u, H a = some u → H1 a = some u := fun a u h => by
    show upd (upd H dx (.own p)) p (.ins C dx []) a = some u
    rw [upd_ne (ne_of_none h hp), upd_ne (ne_of_none h hd)]; exact h
  refine ⟨fun a u h => keep a u (env.fit a u h), ⟨by simp [addrs], ?_, ?_⟩, fun F' H' os' a => ⟨?_, fun _ _ => .inr trivial⟩⟩
  · intro c hc
    rcases List.mem_cons.mp hc with e | e
    · subst e; exact none_sub env.fit hp
    · cases e
  · intro c hc
    rcases List.mem_cons.mp hc with e | e
    · subst e; exact ⟨_, upd_same, dx, [], rfl, rfl, rfl⟩
    · cases e
  · refine env.grow ⟨a.le, a.fit, fun b u h => a.keep b u (keep b u h) ?_, fun b h1 h2 => a.new b h1 ?_⟩
    · intro z
      have z : b = p := by simpa [addrs] using z
      rw [z, hp] at h; cases h
    · cases q : H b with
      | none => exact absurd q h2
      | some u => rw [keep b u q]; simp
theorem px_make (M : KnI X.prog X.w X.K X.mg X.base CX x C k ps R) (hr : Room (k + 1) X.A) (hx : Passes CX X E) (ha : PXA X E (e :: es) u) (hg : Gl X x := by rfl) (hdb : (x == ("__debug__" : Str)) = false := by decide)
    (he : starEach (e :: es) X.env = (false, eval e X.env) :: starEach es X.env := by rfl) (hpl : (backTo pos (starEach es X.env)).any (·.1) = false := by rfl) : PX X E (.Call (.Name x p2) (e :: es) [] pos) (dMake C R u) := by
  obtain ⟨f, fd, mk, mg, b, Fk⟩ := M.ex
  refine px_of (pe_make mk Fk hr hg mg b .nil hx ha hdb he hpl) fun G F H σ ρ P Q env q k x => ⟨G, F, ρ, _, env, q, fun F1 H1 ds vs ρ1 l1 env1 r1 q1 p dx hp hd hne => ?_, x⟩
  obtain ⟨fit, cs, aft⟩ := make_env (C := C) env1 hp hd hne
  refine lead (P := fun l => Pr X.K R l _ _ E) ⟨F1, _, _, _, fit, cs, Reps.cons (d := .raw (.ref p)) rfl r1, q1 p (env1.fresh hp), fun F' H' d v os' a rv ⟨ed, ns, ds', rr, eos, q2⟩ => ?_, fun F' H' C ns ds' vs' e os' a he hl rr q => x F' H' C ns ds' vs' e ρ1 σ (l1.trans a.le) (aft F' H' os' a).1 he hl rr q⟩
  subst ed
  have ev : v = .non := rv
  subst ev
  have env2 := (aft F' H' os' a).1
  subst eos
  obtain ⟨o, h1, ⟨dx', ws, hn, eo, rs⟩, h3⟩ := a.first List.mem_cons_self
  subst eo
  have o2 : Out F' ρ1 p := ⟨h3, env1.fresh hp, fun z => (env1.lo p z).2 hp⟩
  refine ⟨rfl, k _ H' (.obj C ns ds') _ ρ1 ((l1.trans a.le).trans (Le.new h3)) (env2.frzO o2 (env1.bnone hp) h1) ⟨p, dx', ws, rfl, hn, upd_same, rs.mono (Le.new h3)⟩ q2⟩
theorem px_makeC (M : KnI X.prog X.w X.K X.mg X.base CX x C k ps R) (hr : Room (k + 1) X.A) (hx : Passes CX X E) (ha : PXA X E (e :: es) u) (hg : Gl X x := by rfl) (hdb : (x == ("__debug__" : Str)) = false := by decide)
    (he : starEach (e :: es) X.env = (false, eval e X.env) :: starEach es X.env := by rfl) (hpl : (backTo pos (starEach es X.env)).any (·.1) = false := by rfl) : PX X E (.Call (.Name x p2) (e :: es) [] pos) (dMakeC C R u) := by
  obtain ⟨f, fd, mk, mg, b, Fk⟩ := M.ex
  refine px_of (pe_make mk Fk hr hg mg b .nil hx ha hdb he hpl) fun G F H σ ρ P Q env q k x => ⟨G, F, ρ, _, env, q, fun F1 H1 ds vs ρ1 l1 env1 r1 q1 p dx hp hd hne => ?_, x⟩
  obtain ⟨fit, cs, aft⟩ := make_env (C := C) env1 hp hd hne
  refine lead (P := fun l => Pr X.K R l _ _ E) ⟨F1, _, _, _, fit, cs, Reps.cons (d := .raw (.ref p)) rfl r1, q1 p (env1.fresh hp), fun F' H' d v os' a rv ⟨ed, o, rr, eos, q2⟩ => ?_, fun F' H' C ns ds' vs' e os' a he hl rr q => x F' H' C ns ds' vs' e ρ1 σ (l1.trans a.le) (aft F' H' os' a).1 he hl rr q⟩
  subst ed
  have ev : v = .non := rv
  subst ev
  have env2 := (aft F' H' os' a).1
  subst eos
  obtain ⟨ho, h1, i, h3⟩ := a.first List.mem_cons_self
  have o2 : Out F' ρ1 p := ⟨h3, env1.fresh hp, fun z => (env1.lo p z).2 hp⟩
  exact ⟨rfl, k _ H' (.raw (.ref p)) _ _ (l1.trans a.le) (env2.cellO o2 (env1.bnone hp) h1 i) rfl q2⟩
/-! ### the same for defs that raise nothing -/
def dMeth0 (C : Addr) (m : Str) (R : DF) (to : DX) (u : DA) : DX := fun ρ P => to ρ ⟨fun o ρ1 => (∃ ns ds, Sees ρ1 o (.obj C ns ds) ∧ fidx ns m = none) ∧ u ρ1 ⟨fun ds ρ2 => R (o :: ds) [] ⟨fun d os' => P.ok d ρ2, exN⟩, P.ex⟩, P.ex⟩
def dMethC0 (C : Addr) (m : Str) (R : DF) (to : DX) (u : DA) : DX := fun ρ P => to ρ ⟨fun o ρ1 => (∃ ns ds, Sees ρ1 o (.obj C ns ds) ∧ fidx ns m = none) ∧ u ρ1 ⟨fun ds ρ2 => ∃ os1 os2, ρ2.os.Perm (os1 ++ os2) ∧ R (o :: ds) os1 ⟨fun d os' => P.ok d (ρ2.ret os1 os' os2), exN⟩, P.ex⟩, P.ex⟩
theorem px_meth_0 {pl : Sem Bool} (M : KnM X.prog X.w X.K X.mg X.base CX0 C m k ps (NoX R)) (hr : Room k X.A) (ho : PX X E o to) (ha : PXA X E (e :: es) u)
    (hst : starEach (e :: es) X.env = (false, eval e X.env) :: starEach es X.env := by rfl) (hpl : (backTo cpos (starEach es X.env)).any (·.1) = false := by rfl)
    (ht : eval (.Call (.Attribute o m apos) (e :: es) [] cpos) X.env = (do
      let ov ← eval o X.env
      standAt apos.atName
      let (f, first) ← holding [ov] (getMethod ov m pl)
      callWith cpos f first (backTo cpos (starEach (e :: es) X.env)) (backToKw cpos (keywordEach [] X.env))) := by rfl) : PX X E (.Call (.Attribute o m apos) (e :: es) [] cpos) (dMeth0 C m R to u) := by
  obtain ⟨f, fd, mt, b, Fk⟩ := M.ex
  exact px_of (pe_meth (pl := pl) ho M.cl mt Fk hr b .nil pass0 ha hst hpl ht) fun G F H σ ρ P Q env q k x => ⟨G, F, ρ, _, env, q, fun F1 H1 d v ρ1 l1 env1 r1 ⟨⟨ns, ds, s, hn⟩, q1⟩ => by
    obtain ⟨a, dx, vs, ev, hl, hH, rs⟩ := env1.obj s r1
    exact ⟨a, dx, _, ev, hH, lookup_zip_none hn, G, F1, ρ1, _, env1, q1, fun F2 H2 es ws ρ2 l2 env2 r2 q2 =>
      lead (P := fun l => Pr X.K (NoX R) l H2 Q E0) (pr_call0 env2 (Reps.cons (r1.mono l2) r2) q2 (fun F' H' d v ρ' l => k F' H' d v ρ' ((l1.trans l2).trans l))), x.le l1⟩, x⟩
theorem px_methC_0 {pl : Sem Bool} (M : KnM X.prog X.w X.K X.mg X.base CX0 C m k ps (NoX R)) (hr : Room k X.A) (ho : PX X E o to) (ha : PXA X E (e :: es) u)
    (hst : starEach (e :: es) X.env = (false, eval e X.env) :: starEach es X.env := by rfl) (hpl : (backTo cpos (starEach es X.env)).any (·.1) = false := by rfl)
    (ht : eval (.Call (.Attribute o m apos) (e :: es) [] cpos) X.env = (do
      let ov ← eval o X.env
      standAt apos.atName
      let (f, first) ← holding [ov] (getMethod ov m pl)
      callWith cpos f first (backTo cpos (starEach (e :: es) X.env)) (backToKw cpos (keywordEach [] X.env))) := by rfl) : PX X E (.Call (.Attribute o m apos) (e :: es) [] cpos) (dMethC0 C m R to u) := by
  obtain ⟨f, fd, mt, b, Fk⟩ := M.ex
  exact px_of (pe_meth (pl := pl) ho M.cl mt Fk hr b .nil pass0 ha hst hpl ht) fun G F H σ ρ P Q env q k x => ⟨G, F, ρ, _, env, q, fun F1 H1 d v ρ1 l1 env1 r1 ⟨⟨ns, ds, s, hn⟩, q1⟩ => by
    obtain ⟨a, dx, vs, ev, hl, hH, rs⟩ := env1.obj s r1
    exact ⟨a, dx, _, ev, hH, lookup_zip_none hn, G, F1, ρ1, _, env1, q1, fun F2 H2 es ws ρ2 l2 env2 r2 q2 =>
      lead (P := fun l => Pr X.K (NoX R) l H2 Q E0) (pr_callC0 env2 (Reps.cons (r1.mono l2) r2) q2 (fun F' H' d v ρ' l => k F' H' d v ρ' ((l1.trans l2).trans l))), x.le l1⟩, x⟩
theorem px_meth0_0 {pl : Sem Bool} (M : KnM X.prog X.w X.K X.mg X.base CX0 C m k ps (NoX R)) (hr : Room k X.A) (ho : PX X E o to)
    (ht : eval (.Call (.Attribute o m apos) [] [] cpos) X.env = (do
      let ov ← eval o X.env
      standAt apos.atName
      let (f, first) ← holding [ov] (getMethod ov m pl)
      callWith cpos f first [] []) := by rfl) : PX X E (.Call (.Attribute o m apos) [] [] cpos) (dMeth0 C m R to dNil) := by
  obtain ⟨f, fd, mt, b, Fk⟩ := M.ex
  exact px_of (pe_meth0 (pl := pl) ho M.cl mt Fk hr b .nil pass0 ht) fun G F H σ ρ P Q env q k x => ⟨G, F, ρ, _, env, q, fun F1 H1 d v ρ1 l1 env1 r1 ⟨⟨ns, ds, s, hn⟩, q1⟩ => by
    obtain ⟨a, dx, vs, ev, hl, hH, rs⟩ := env1.obj s r1
    refine ⟨a, dx, _, ev, hH, lookup_zip_none hn, ?_⟩
    exact lead (P := fun l => Pr X.K (NoX R) l H1 Q E0) (l := []) (pr_call0 env1 (Reps.one r1) q1 (fun F' H' d v ρ' l => k F' H' d v ρ' (l1.trans l))), x⟩
theorem px_meth0C_0 {pl : Sem Bool} (M : KnM X.prog X.w X.K X.mg X.base CX0 C m k ps (NoX R)) (hr : Room k X.A) (ho : PX X E o to)
    (ht : eval (.Call (.Attribute o m apos) [] [] cpos) X.env = (do
      let ov ← eval o X.env
      standAt apos.atName
      let (f, first) ← holding [ov] (getMethod ov m pl)
      callWith cpos f first [] []) := by rfl) : PX X E (.Call (.Attribute o m apos) [] [] cpos) (dMethC0 C m R to dNil) := by
  obtain ⟨f, fd, mt, b, Fk⟩ := M.ex
  exact px_of (pe_meth0 (pl := pl) ho M.cl mt Fk hr b .nil pass0 ht) fun G F H σ ρ P Q env q k x => ⟨G, F, ρ, _, env, q, fun F1 H1 d v ρ1 l1 env1 r1 ⟨⟨ns, ds, s, hn⟩, q1⟩ => by
    obtain ⟨a, dx, vs, ev, hl, hH, rs⟩ := env1.obj s r1
    refine ⟨a, dx, _, ev, hH, lookup_zip_none hn, ?_⟩
    exact lead (P := fun l => Pr X.K (NoX R) l H1 Q E0) (l := []) (pr_callC0 env1 (Reps.one r1) q1 (fun F' H' d v ρ' l => k F' H' d v ρ' (l1.trans l))), x⟩
/-- o.f, a property -/
def dProp0 (C : Addr) (R : DF) (to : DX) : DX := fun ρ P => to ρ ⟨fun o ρ1 => (∃ ns ds, Sees ρ1 o (.obj C ns ds)) ∧ R [o] [] ⟨fun d os' => P.ok d ρ1, exN⟩, P.ex⟩
theorem px_prop_0 (M : KnP X.prog X.w X.K X.mg X.base CX0 C f k ps (NoX R)) (hr : Room (k + 1) X.A) (ho : PX X E o to) (hab : attributeBase o f X.env (eval o X.env) = eval o X.env := by rfl) : PX X E (.Attribute o f pos) (dProp0 C R to) := by
  obtain ⟨pr, g, fd, pp, b, Fk⟩ := M.ex
  exact px_of (pe_prop ho M.cl pp Fk hr b .nil pass0 hab) fun G F H σ ρ P Q env q k x => ⟨G, F, ρ, _, env, q, fun F1 H1 d v ρ1 l1 env1 r1 ⟨⟨ns, ds, s⟩, q1⟩ => by
    obtain ⟨a, dx, vs, ev, hl, hH, rs⟩ := env1.obj s r1
    subst ev
    exact ⟨a, dx, _, rfl, hH, pr_call0 env1 (Reps.one r1) q1 (fun F' H' d v ρ' l => k F' H' d v ρ' (l1.trans l))⟩, x⟩
/-- C(..): the new instance is data -/
def dMake0 (C : Addr) (R : DF) (u : DA) : DX := fun ρ P => u ρ ⟨fun ds ρ1 => ∀ p, Fresh ρ1 p → R (.raw (.ref p) :: ds) [⟨p, .obj C [] []⟩] ⟨fun d os' => d = .non ∧ ∃ ns ds' r, os' = ⟨p, .obj C ns ds'⟩ :: r ∧ P.ok (.obj C ns ds') ρ1, exN⟩, P.ex⟩
/-- .. a cell -/
def dMakeC0 (C : Addr) (R : DF) (u : DA) : DX := fun ρ P => u ρ ⟨fun ds ρ1 => ∀ p, Fresh ρ1 p → R (.raw (.ref p) :: ds) [⟨p, .obj C [] []⟩] ⟨fun d os' => d = .non ∧ ∃ o r, os' = ⟨p, o⟩ :: r ∧ P.ok (.raw (.ref p)) (ρ1.add p o), exN⟩, P.ex⟩
theorem px_make_0 (M : KnI X.prog X.w X.K X.mg X.base CX0 x C k ps (NoX R)) (hr : Room (k + 1) X.A) (ha : PXA X E (e :: es) u) (hg : Gl X x := by rfl) (hdb : (x == ("__debug__" : Str)) = false := by decide)
    (he : starEach (e :: es) X.env = (false, eval e X.env) :: starEach es X.env := by rfl) (hpl : (backTo pos (starEach es X.env)).any (·.1) = false := by rfl) : PX X E (.Call (.Name x p2) (e :: es) [] pos) (dMake0 C R u) := by
  obtain ⟨f, fd, mk, mg, b, Fk⟩ := M.ex
  refine px_of (pe_make mk Fk hr hg mg b .nil pass0 ha hdb he hpl) fun G F H σ ρ P Q env q k x => ⟨G, F, ρ, _, env, q, fun F1 H1 ds vs ρ1 l1 env1 r1 q1 p dx hp hd hne => ?_, x⟩
  obtain ⟨fit, cs, aft⟩ := make_env (C := C) env1 hp hd hne
  refine lead (P := fun l => Pr X.K (NoX R) l _ _ E0) ⟨F1, _, _, _, fit, cs, Reps.cons (d := .raw (.ref p)) rfl r1, ⟨q1 p (env1.fresh hp), fun _ _ _ _ z => z⟩, fun F' H' d v os' a rv ⟨ed, ns, ds', rr, eos, q2⟩ => ?_, fun F' H' C ns ds' vs' e os' a he hl rr q => q.elim⟩
  subst ed
  have ev : v = .non := rv
  subst ev
  have env2 := (aft F' H' os' a).1
  subst eos
  obtain ⟨o, h1, ⟨dx', ws, hn, eo, rs⟩, h3⟩ := a.first List.mem_cons_self
  subst eo
  have o2 : Out F' ρ1 p := ⟨h3, env1.fresh hp, fun z => (env1.lo p z).2 hp⟩
  refine ⟨rfl, k _ H' (.obj C ns ds') _ ρ1 ((l1.trans a.le).trans (Le.new h3)) (env2.frzO o2 (env1.bnone hp) h1) ⟨p, dx', ws, rfl, hn, upd_same, rs.mono (Le.new h3)⟩ q2⟩
theorem px_makeC_0 (M : KnI X.prog X.w X.K X.mg X.base CX0 x C k ps (NoX R)) (hr : Room (k + 1) X.A) (ha : PXA X E (e :: es) u) (hg : Gl X x := by rfl) (hdb : (x == ("__debug__" : Str)) = false := by decide)
    (he : starEach (e :: es) X.env = (false, eval e X.env) :: starEach es X.env := by rfl) (hpl : (backTo pos (starEach es X.env)).any (·.1) = false := by rfl) : PX X E (.Call (.Name x p2) (e :: es) [] pos) (dMakeC0 C R u) := by
  obtain ⟨f, fd, mk, mg, b, Fk⟩ := M.ex
  refine px_of (pe_make mk Fk hr hg mg b .nil pass0 ha hdb he hpl) fun G F H σ ρ P Q env q k x => ⟨G, F, ρ, _, env, q, fun F1 H1 ds vs ρ1 l1 env1 r1 q1 p dx hp hd hne => ?_, x⟩
  obtain ⟨fit, cs, aft⟩ := make_env (C := C) env1 hp hd hne
  refine lead (P := fun l => Pr X.K (NoX R) l _ _ E0) ⟨F1, _, _, _, fit, cs, Reps.cons (d := .raw (.ref p)) rfl r1, ⟨q1 p (env1.fresh hp), fun _ _ _ _ z => z⟩, fun F' H' d v os' a rv ⟨ed, o, rr, eos, q2⟩ => ?_, fun F' H' C ns ds' vs' e os' a he hl rr q => q.elim⟩
  subst ed
  have ev : v = .non := rv
  subst ev
  have env2 := (aft F' H' os' a).1
  subst eos
  obtain ⟨ho, h1, i, h3⟩ := a.first List.mem_cons_self
  have o2 : Out F' ρ1 p := ⟨h3, env1.fresh hp, fun z => (env1.lo p z).2 hp⟩
  exact ⟨rfl, k _ H' (.raw (.ref p)) _ _ (l1.trans a.le) (env2.cellO o2 (env1.bnone hp) h1 i) rfl q2⟩
end
end DL

set_option Elab.async false
set_option linter.all false
set_option maxRecDepth 100000
set_option maxHeartbeats 2000000
namespace DL
open PySem PySem.Spec PyProof.Rows L2 TL

section
variable {X : Cx} {E : XK} {e e2 o i value : Expr} {es : List Expr} {te te2 ti tv to : DX} {u : DA} {pos p2 apos cpos pos' : Pos}
/-! ### lists that are cells -/
def dAppend (to te : DX) : DX := fun ρ P => to ρ ⟨fun o ρ1 => (∃ a ds, o = .raw (.ref a) ∧ Sees ρ1 o (.lst ds)) ∧ te ρ1 ⟨fun d ρ2 => ∃ a l r ds, o = .raw (.ref a) ∧ ρ2.os = l ++ ⟨a, .lst ds⟩ :: r ∧ ds.length < 16777216 ∧ P.ok .non (ρ2.os' (l ++ ⟨a, .lst (ds ++ [d])⟩ :: r)), P.ex⟩, P.ex⟩
theorem px_append (ho : PX X E o to) (he : PX X E e te) (hbase : attributeBase o "append" X.env (eval o X.env) = eval o X.env := by rfl)
    (hfew : ((backTo cpos (starEach [e] X.env)).all (fun x => !x.1) && (backToKw cpos (keywordEach [] X.env)).all (fun x => x.1.isSome) && decide (([e] : List Expr).length + ([] : List Keyword).length + (if ([] : List Keyword).isEmpty then 0 else 1) < 30)) = true := by rfl)
    (hline : (apos.endLine == cpos.line) = true := by rfl) (hs : starEach [e] X.env = (false, eval e X.env) :: starEach [] X.env := by rfl) (hplain : (backTo cpos (starEach [] X.env)).any (·.1) = false := by rfl) :
    PX X E (.Call (.Attribute o "append" apos) [e] [] cpos) (dAppend to te) :=
  px_of (pe_bm PySem.F.plainAttrs_list PySem.F.slot_list_append PySem.F.type_list_append mt_append ho (pa_cons he pa_nil hs) hbase hfew hline hs hplain) fun G F H σ ρ P Q env q k x => ⟨G, F, ρ, _, env, q, fun F1 H1 d v ρ1 l1 env1 r1 ⟨⟨a0, ds0, eo, s⟩, q1⟩ => by
    obtain ⟨a1, vs1, ev1, hs1, _⟩ := env1.lst s r1
    subst ev1
    refine ⟨Or.inl ⟨rfl, _, hs1⟩, G, F1, ρ1, _, env1, q1, fun F2 H2 d2 v2 ρ2 l2 env2 r2 ⟨a, l, r, ds, eo2, ec, hl, q2⟩ => ?_, x.le l1⟩
    subst eo2
    cases r1
    obtain ⟨ho, hH, vs, eh, rs⟩ := env2.at ec
    subst eh
    exact ⟨_, vs, v2, rfl, rfl, hH, by rw [sizeLine_eq, ← rs.length]; exact hl, k F2 _ .non .non _ (l1.trans l2) (env2.updC ec (d' := .lst (ds ++ [d2])) ⟨vs ++ [v2], rfl, rs.app (Reps.one r2)⟩) rfl q2⟩, x⟩
def dExtend (to te : DX) : DX := fun ρ P => to ρ ⟨fun o ρ1 => (∃ a ds, o = .raw (.ref a) ∧ Sees ρ1 o (.lst ds)) ∧ te ρ1 ⟨fun d ρ2 => ∃ a l r ds xs, o = .raw (.ref a) ∧ ρ2.os = l ++ ⟨a, .lst ds⟩ :: r ∧ d = .lst xs ∧ ds.length + xs.length ≤ 16777216 ∧ P.ok .non (ρ2.os' (l ++ ⟨a, .lst (ds ++ xs)⟩ :: r)), P.ex⟩, P.ex⟩
/-- xs.pop(i) -/
def dPopAt (to te : DX) : DX := fun ρ P => to ρ ⟨fun o ρ1 => (∃ a ds, o = .raw (.ref a) ∧ Sees ρ1 o (.lst ds)) ∧ te ρ1 ⟨fun d ρ2 => ∃ a l r ds i k y, o = .raw (.ref a) ∧ ρ2.os = l ++ ⟨a, .lst ds⟩ :: r ∧ d = .int i ∧ -(2 ^ 63) ≤ i ∧ i < 2 ^ 63 ∧ seqIndex? i ds.length = some k ∧ ds[k]? = some y ∧ P.ok y (ρ2.os' (l ++ ⟨a, .lst (ds.eraseIdx k)⟩ :: r)), P.ex⟩, P.ex⟩
theorem Reps.erase {K : PySem.W.Frag} {F : Hp} : ∀ (k : Nat) {ds : List D} {vs : List V}, Reps K F ds vs → Reps K F (ds.eraseIdx k) (vs.eraseIdx k)
  | _, [], _, h => by cases h; exact rfl
  | 0, x :: ds, _, h => by
    obtain ⟨w, ws, e, h1, h2⟩ := h
    subst e
    exact h2
  | k + 1, x :: ds, _, h => by
    obtain ⟨w, ws, e, h1, h2⟩ := h
    subst e
    exact ⟨w, ws.eraseIdx k, rfl, h1, Reps.erase k h2⟩
theorem px_popAt (ho : PX X E o to) (he : PX X E e te) (hbase : attributeBase o "pop" X.env (eval o X.env) = eval o X.env := by rfl)
    (hfew : ((backTo cpos (starEach [e] X.env)).all (fun x => !x.1) && (backToKw cpos (keywordEach [] X.env)).all (fun x => x.1.isSome) && decide (([e] : List Expr).length + ([] : List Keyword).length + (if ([] : List Keyword).isEmpty then 0 else 1) < 30)) = true := by rfl)
    (hline : (apos.endLine == cpos.line) = true := by rfl) (hs : starEach [e] X.env = (false, eval e X.env) :: starEach [] X.env := by rfl) (hplain : (backTo cpos (starEach [] X.env)).any (·.1) = false := by rfl) :
    PX X E (.Call (.Attribute o "pop" apos) [e] [] cpos) (dPopAt to te) :=
  px_of (pe_bm PySem.F.plainAttrs_list PySem.F.slot_list_pop PySem.F.type_list_pop mt_popAt ho (pa_cons he pa_nil hs) hbase hfew hline hs hplain) fun G F H σ ρ P Q env q k x => ⟨G, F, ρ, _, env, q, fun F1 H1 d v ρ1 l1 env1 r1 ⟨⟨a0, ds0, eo, s⟩, q1⟩ => by
    obtain ⟨a1, vs1, ev1, hs1, _⟩ := env1.lst s r1
    subst ev1
    refine ⟨Or.inl ⟨rfl, _, hs1⟩, G, F1, ρ1, _, env1, q1, fun F2 H2 d2 v2 ρ2 l2 env2 r2 ⟨a, l, r, ds, i, j, y, eo2, ec, ed, b1, b2, hj, hy, q2⟩ => ?_, x.le l1⟩
    subst eo2 ed
    cases r1
    cases r2
    obtain ⟨ho, hH, vs, eh, rs⟩ := env2.at ec
    subst eh
    obtain ⟨w, hw, rw'⟩ := rs.get hy
    exact ⟨_, vs, i, j, w, rfl, rfl, hH, b1, b2, by rw [← rs.length]; exact hj, hw, k F2 _ y w _ (l1.trans l2) (env2.updC ec (d' := .lst (ds.eraseIdx j)) ⟨vs.eraseIdx j, rfl, Reps.erase j rs⟩) rw' q2⟩, x⟩
/-- xs[i] = v -/
def dSetIx (to ti tv : DX) : DS := fun ρ P => tv ρ ⟨fun d ρ1 => to ρ1 ⟨fun o ρ2 => ti ρ2 ⟨fun y ρ3 => ∃ a l r ds i j, o = .raw (.ref a) ∧ ρ3.os = l ++ ⟨a, .lst ds⟩ :: r ∧ y = .int i ∧ ixN ds.length i = some j ∧ P.nx (ρ3.os' (l ++ ⟨a, .lst (ds.set j d)⟩ :: r)), P.ex⟩, P.ex⟩, P.ex⟩
theorem sx_setIx (ho : PX X E o to) (hi : PX X E i ti) (hv : PX X E value tv) (h : PG X (.Subscript o i p2) (gSub (up X.K E to) (up X.K E ti) rSetL)) (hs : swapsWithSole [.Subscript o i p2] value pos.line X.env = pure false := by rfl) (hw : swappedStores [.Subscript o i p2] value X.env = pure none := by rfl) (h1 : (assignEach [.Subscript o i p2] X.env).map (·.2) = [assign (.Subscript o i p2) X.env] := by rfl) :
    PXS X E (.Assign [.Subscript o i p2] value pos) (dSetIx to ti tv) :=
  PS.weak (ps_asg hv h hs hw h1) fun Dn σ H ⟨G, F, ρ, P, env, q, fi⟩ => ⟨G, F, ρ, _, env, q, fun F1 H1 d v ρ1 l1 env1 r1 q1 => ⟨G, F1, ρ1, _, env1, q1, fun F2 H2 d2 v2 ρ2 l2 env2 r2 q2 => ⟨G, F2, ρ2, _, env2, q2, fun F3 H3 d3 v3 ρ3 l3 env3 r3 ⟨a, l, r, ds, z, j, eo, ec, ed, hj, q3⟩ => by
    subst eo ed
    cases r2
    cases r3
    obtain ⟨ho, hH, vs, eh, rs⟩ := env3.at ec
    subst eh
    exact ⟨a, vs, z, j, rfl, rfl, hH, by rw [← rs.length]; exact hj, fi.nx F3 _ σ _ ((l1.trans l2).trans l3) (env3.updC ec (d' := .lst (ds.set j d)) ⟨vs.set j v, rfl, Reps.set (r1.mono (l2.trans l3)) j rs⟩) q3⟩, (fi.ex σ).le (l1.trans l2)⟩, (fi.ex σ).le l1⟩, fi.ex σ⟩

/-! ### dicts with text keys -/
def kix (ks : List (List Nat)) (k : List Nat) : Option Nat := ks.findIdx? (· == k)
theorem keyV_inj {a b : List Nat} : keyV a = keyV b ↔ a = b := ⟨fun h => mkS_inj.mp (Sum.inr.inj h), fun h => by rw [h]⟩
theorem valV_zip : ∀ (ks : List (List Nat)) (vs : List V) (k : List Nat), ks.length = vs.length → valV ((ks.map keyV).zip vs) (keyV k) = (kix ks k).bind (vs[·]?)
  | [], [], k, _ => rfl
  | a :: ks, v :: vs, k, h => by
    have h : ks.length = vs.length := by simpa using h
    have ih := valV_zip ks vs k h
    show valV ((keyV a, v) :: (ks.map keyV).zip vs) (keyV k) = _
    unfold kix at *
    rw [List.findIdx?_cons]
    by_cases q : a = k
    · subst q
      simp [valV]
    · have q1 : (a == k) = false := by simpa using q
      have q2 : ¬ keyV a = keyV k := fun z => q (keyV_inj.mp z)
      rw [q1]
      simp only [Bool.false_eq_true, if_false]
      have e : valV ((keyV a, v) :: (ks.map keyV).zip vs) (keyV k) = valV ((ks.map keyV).zip vs) (keyV k) := by
        unfold valV
        rw [List.find?_cons]
        simp [q2]
      rw [e, ih]
      cases List.findIdx? (fun x => x == k) ks with
      | none => rfl
      | some j => rfl
def dlook (ks : List (List Nat)) (ds : List D) (k : List Nat) : Option D := (kix ks k).bind (ds[·]?)
def putK1 (ks : List (List Nat)) (k : List Nat) : List (List Nat) := match kix ks k with
  | some _ => ks
  | none => ks ++ [k]
def putK2 {α : Type} (ks : List (List Nat)) (k : List Nat) (ds : List α) (d : α) : List α := match kix ks k with
  | some j => ds.set j d
  | none => ds ++ [d]
theorem putK_zip : ∀ (ks : List (List Nat)) (vs : List V) (k : List Nat) (v : V), ks.Nodup → ks.length = vs.length → putK ((ks.map keyV).zip vs) (keyV k) v = ((putK1 ks k).map keyV).zip (putK2 ks k vs v) := by
  have key : ∀ (ks : List (List Nat)) (vs : List V) (k : List Nat) (v : V), ks.Nodup → ks.length = vs.length → ∀ j, kix ks k = some j → ((ks.map keyV).zip vs).map (fun kv => if kv.1 = keyV k then (kv.1, v) else kv) = (ks.map keyV).zip (vs.set j v) := by
    intro ks
    induction ks with
    | nil => intro vs k v _ _ j h; simp [kix] at h
    | cons a ks ih =>
      intro vs k v nd hl j h
      cases vs with
      | nil => simp at hl
      | cons w vs =>
        obtain ⟨na, nd⟩ := List.nodup_cons.mp nd
        have hl : ks.length = vs.length := by simpa using hl
        unfold kix at h
        rw [List.findIdx?_cons] at h
        by_cases q : a = k
        · subst q
          simp only [beq_self_eq_true, if_true] at h
          cases h
          simp only [List.map_cons, List.zip_cons_cons, List.set_cons_zero, if_true]
          congr 1
          have : ∀ kv ∈ (ks.map keyV).zip vs, (if kv.1 = keyV a then (kv.1, v) else kv) = kv := fun kv hkv => by
            have hm := (List.of_mem_zip (a := kv.1) (b := kv.2) hkv).1
            obtain ⟨x, hx, ex⟩ := List.mem_map.mp hm
            rw [if_neg]
            intro z
            rw [← ex] at z
            exact na (keyV_inj.mp z ▸ hx)
          calc _ = ((ks.map keyV).zip vs).map _root_.id := List.map_congr_left this
            _ = _ := by simp
        · have q1 : (a == k) = false := by simpa using q
          have q2 : ¬ keyV a = keyV k := fun z => q (keyV_inj.mp z)
          rw [q1] at h
          simp only [Bool.false_eq_true, if_false] at h
          obtain ⟨j', hj, e⟩ := Option.map_eq_some_iff.mp h
          subst e
          simp only [List.map_cons, List.zip_cons_cons, List.set_cons_succ, if_neg q2]
          congr 1
          exact ih vs k v nd hl j' hj
  intro ks vs k v nd hl
  have hv := valV_zip ks vs k hl
  unfold putK1 putK2
  cases h : kix ks k with
  | some j =>
    rw [h] at hv
    have hj : j < vs.length := by
      unfold kix at h
      obtain ⟨h1, _⟩ := List.findIdx?_eq_some_iff_getElem.mp h
      omega
    have hs : (((ks.map keyV).zip vs).any fun kv => decide (kv.1 = keyV k)) = true := by
      rw [valV_any, hv]
      simp [hj]
    unfold putK
    rw [if_pos hs]
    exact key ks vs k v nd hl j h
  | none =>
    rw [h] at hv
    rw [putK_new v hv]
    show _ = ((ks ++ [k]).map keyV).zip (vs ++ [v])
    rw [List.map_append, List.zip_append (by simpa using hl)]
    rfl
/-- {} as a cell -/
def dDictC : DX := fun ρ P => ∀ p, Fresh ρ p → P.ok (.raw (.ref p)) (ρ.add p (.dct [] []))
theorem px_dictC : PX X E (.Dict [] [] pos) dDictC :=
  px_of pe_dnewK fun G F H σ ρ P Q env q k x => fun p hp => k F _ (.raw (.ref p)) _ _ (Le.refl F) (env.addC (d := .dct [] []) hp ⟨[], rfl, rfl, rfl⟩) rfl (q p (env.fresh hp))
def dDict0 : DX := fun ρ P => P.ok (.dct [] []) ρ
theorem px_dict0 : PX X E (.Dict [] [] pos) dDict0 :=
  px_of pe_dnewK fun G F H σ ρ P Q env q k x => fun p hp => k _ _ (.dct [] []) _ _ (Le.new (none_sub env.fit hp)) (env.grow (Grow.alloc env.fit hp)) ⟨p, [], rfl, rfl, .inl upd_same, rfl⟩ q
theorem dget_ok {K : PySem.W.Frag} {F H : Hp} {a : Addr} {ks : List (List Nat)} {ds : List D} {vs : List V} {k : List Nat} (hn : ks.length = ds.length) (h : Rd H a (.dK ((ks.map keyV).zip vs))) (rs : Reps K F ds vs) :
    DGet H a (.str (mkS k)) ((kix ks k).bind (vs[·]?)) := .inl ⟨_, keyV k, h, rfl, (valV_zip ks vs k (hn.trans rs.length)).symm⟩
/-- d[k] -/
def dGet (to ti : DX) : DX := fun ρ P => to ρ ⟨fun o ρ1 => ti ρ1 ⟨fun y ρ2 => ∃ ks ds k d, Sees ρ2 o (.dct ks ds) ∧ y = .str k ∧ dlook ks ds k = some d ∧ P.ok d ρ2, P.ex⟩, P.ex⟩
theorem px_dget (hu : X.A.units + 1 < cLine) (ho : PX X E o to) (hi : PX X E i ti) (hs : NoSl i := by intro _ _; rfl) : PX X E (.Subscript o i pos) (dGet to ti) :=
  px_of (pe_dget hu ho hi hs) fun G F H σ ρ P Q env q k x => ⟨G, F, ρ, _, env, q, fun F1 H1 d v ρ1 l1 env1 r1 q1 => ⟨G, F1, ρ1, _, env1, q1, fun F2 H2 d2 v2 ρ2 l2 env2 r2 ⟨ks, ds, key, d', s, ey, hd, q2⟩ => by
    subst ey
    cases r2
    obtain ⟨a, vs, ev, hn, hR, rs⟩ := env2.dct s (r1.mono l2)
    unfold dlook at hd
    obtain ⟨j, hj, hd⟩ := Option.bind_eq_some_iff.mp hd
    obtain ⟨w, hw, rw'⟩ := rs.get hd
    refine ⟨a, w, ev, ?_, k F2 H2 d' w ρ2 (l1.trans l2) env2 rw' q2⟩
    have g := dget_ok (k := key) hn hR rs
    rw [hj] at g
    have e : (Option.some j).bind (vs[·]?) = some w := hw
    rw [e] at g
    exact g, x.le l1⟩, x⟩
/-- k in d, k not in d -/
def dIn (neg : Bool) (ti to : DX) : DX := fun ρ P => ti ρ ⟨fun y ρ1 => to ρ1 ⟨fun o ρ2 => ∃ ks ds k, Sees ρ2 o (.dct ks ds) ∧ y = .str k ∧ P.ok (.bl (if neg then !decide (k ∈ ks) else decide (k ∈ ks))) ρ2, P.ex⟩, P.ex⟩
theorem kix_mem {ks : List (List Nat)} {k : List Nat} : (kix ks k).isSome = decide (k ∈ ks) := by
  unfold kix
  rw [List.findIdx?_isSome, Bool.eq_iff_iff]
  simp only [List.any_eq_true, decide_eq_true_eq, beq_iff_eq]
  exact ⟨fun ⟨x, h, e⟩ => e ▸ h, fun h => ⟨k, h, rfl⟩⟩
theorem bind_some {ks : List (List Nat)} {k : List Nat} {vs : List V} (hn : ks.length = vs.length) : ((kix ks k).bind (vs[·]?)).isSome = decide (k ∈ ks) := by
  rw [← kix_mem]
  cases h : kix ks k with
  | none => rfl
  | some j =>
    have hj : j < vs.length := by
      unfold kix at h
      obtain ⟨h1, _⟩ := List.findIdx?_eq_some_iff_getElem.mp h
      omega
    simp [hj]
theorem pc_in (hu : X.A.units + 1 < cLine) (hi : PX X E i ti) (ho : PX X E o to) (hm : behindInMarks .In o = false := by rfl) : PX X E (.Compare i [.In] [o] pos) (dIn false ti to) :=
  px_of (pe_cmp (pc_din hu hi ho) hm) fun G F H σ ρ P Q env q k x => ⟨G, F, ρ, _, env, q, fun F1 H1 d v ρ1 l1 env1 r1 q1 => ⟨G, F1, ρ1, _, env1, q1, fun F2 H2 d2 v2 ρ2 l2 env2 r2 ⟨ks, ds, key, s, ey, q2⟩ => by
    subst ey
    have r1 := r1.mono l2
    cases r1
    obtain ⟨a, vs, ev, hn, hR, rs⟩ := env2.dct s r2
    refine ⟨a, _, ev, dget_ok (k := key) hn hR rs, ?_⟩
    rw [bind_some (hn.trans rs.length)]
    exact k F2 H2 (.bl _) _ ρ2 (l1.trans l2) env2 rfl q2, x.le l1⟩, x⟩
theorem pc_notin (hu : X.A.units + 1 < cLine) (hi : PX X E i ti) (ho : PX X E o to) (hm : behindInMarks .NotIn o = false := by rfl) : PX X E (.Compare i [.NotIn] [o] pos) (dIn true ti to) :=
  px_of (pe_cmp (pc_dnotin hu hi ho) hm) fun G F H σ ρ P Q env q k x => ⟨G, F, ρ, _, env, q, fun F1 H1 d v ρ1 l1 env1 r1 q1 => ⟨G, F1, ρ1, _, env1, q1, fun F2 H2 d2 v2 ρ2 l2 env2 r2 ⟨ks, ds, key, s, ey, q2⟩ => by
    subst ey
    have r1 := r1.mono l2
    cases r1
    obtain ⟨a, vs, ev, hn, hR, rs⟩ := env2.dct s r2
    refine ⟨a, _, ev, dget_ok (k := key) hn hR rs, ?_⟩
    rw [bind_some (hn.trans rs.length)]
    exact k F2 H2 (.bl _) _ ρ2 (l1.trans l2) env2 rfl q2, x.le l1⟩, x⟩
/-- d.get(k, x) -/
def dGet2 (to ti tx : DX) : DX := fun ρ P => to ρ ⟨fun o ρ1 => (∃ ks ds, Sees ρ1 o (.dct ks ds)) ∧ ti ρ1 ⟨fun y ρ2 => tx ρ2 ⟨fun z ρ3 => ∃ ks ds k, Sees ρ3 o (.dct ks ds) ∧ y = .str k ∧ P.ok ((dlook ks ds k).getD z) ρ3, P.ex⟩, P.ex⟩, P.ex⟩
theorem px_dget2 (hu : X.A.units + 1 < cLine) (ho : PX X E o to) (he : PX X E e te) (hf : PX X E e2 te2) (m : M2 X o "get" apos e e2 cpos := by exact ⟨rfl, rfl, rfl, rfl⟩) : PX X E (.Call (.Attribute o "get" apos) [e, e2] [] cpos) (dGet2 to te te2) :=
  px_of (pe_dget2 hu ho he hf m) fun G F H σ ρ P Q env q k x => ⟨G, F, ρ, _, env, q, fun F1 H1 d v ρ1 l1 env1 r1 ⟨⟨ks0, ds0, s0⟩, q1⟩ => by
    obtain ⟨a0, vs0, ev0, hn0, hR0, rs0⟩ := env1.dct s0 r1
    refine ⟨a0, ev0, .inl ⟨_, hR0⟩, G, F1, ρ1, _, env1, q1, fun F2 H2 d2 v2 ρ2 l2 env2 r2 q2 => ⟨G, F2, ρ2, _, env2, q2, fun F3 H3 d3 v3 ρ3 l3 env3 r3 ⟨ks, ds, key, s, ey, q3⟩ => ?_, x.le (l1.trans l2)⟩, x.le l1⟩
    subst ey
    have r2 := r2.mono l3
    cases r2
    obtain ⟨a, vs, ev, hn, hR, rs⟩ := env3.dct s (r1.mono (l2.trans l3))
    rw [ev0] at ev
    cases ev
    refine ⟨_, dget_ok (k := key) hn hR rs, ?_⟩
    unfold dlook at q3
    cases hj : kix ks key with
    | none =>
      rw [hj] at q3
      exact k F3 H3 d3 v3 ρ3 ((l1.trans l2).trans l3) env3 r3 q3
    | some j =>
      rw [hj] at q3
      have q3 : P.ok ((ds[j]?).getD d3) ρ3 := q3
      show Q ((vs[j]?).getD v3) H3
      cases hd : ds[j]? with
      | none =>
        have hv : vs[j]? = none := by
          rw [List.getElem?_eq_none_iff] at hd ⊢
          rw [← rs.length]; exact hd
        rw [hd] at q3
        rw [hv]
        exact k F3 H3 d3 v3 ρ3 ((l1.trans l2).trans l3) env3 r3 q3
      | some d' =>
        obtain ⟨w, hw, rw'⟩ := rs.get hd
        rw [hd] at q3
        rw [hw]
        exact k F3 H3 d' w ρ3 ((l1.trans l2).trans l3) env3 rw' q3, x⟩
/-- d[k] = v -/
def dPut (to ti tv : DX) : DS := fun ρ P => tv ρ ⟨fun d ρ1 => to ρ1 ⟨fun o ρ2 => ti ρ2 ⟨fun y ρ3 => ∃ a l r ks ds k, o = .raw (.ref a) ∧ ρ3.os = l ++ ⟨a, .dct ks ds⟩ :: r ∧ y = .str k ∧ ks.Nodup ∧ ks.length < 16777216 ∧ P.nx (ρ3.os' (l ++ ⟨a, .dct (putK1 ks k) (putK2 ks k ds d)⟩ :: r)), P.ex⟩, P.ex⟩, P.ex⟩
theorem putK_len {α : Type} {ks : List (List Nat)} {k : List Nat} {ds : List α} {d : α} (h : ks.length = ds.length) : (putK1 ks k).length = (putK2 ks k ds d).length := by
  unfold putK1 putK2
  cases kix ks k with
  | none => simp [h]
  | some j => simp [h]
theorem reps_putK {K : PySem.W.Frag} {F : Hp} {ks : List (List Nat)} {k : List Nat} {ds : List D} {vs : List V} {d : D} {v : V} (rs : Reps K F ds vs) (r : Rep K F d v) : Reps K F (putK2 ks k ds d) (putK2 ks k vs v) := by
  unfold putK2
  cases kix ks k with
  | none => exact rs.app (Reps.one r)
  | some j => exact Reps.set r j rs
theorem sx_dput (hu : X.A.units + 1 < cLine) (ho : PX X E o to) (hi : PX X E i ti) (hv : PX X E value tv) (hs : swapsWith value (some (.Subscript o i pos')) pos.line X.env = pure false := by rfl) : PXS X E (.Assign [.Subscript o i pos'] value pos) (dPut to ti tv) :=
  PS.weak (ps_dput hu ho hi hv hs) fun Dn σ H ⟨G, F, ρ, P, env, q, fi⟩ => ⟨G, F, ρ, _, env, q, fun F1 H1 d v ρ1 l1 env1 r1 q1 => ⟨G, F1, ρ1, _, env1, q1, fun F2 H2 d2 v2 ρ2 l2 env2 r2 q2 => ⟨G, F2, ρ2, _, env2, q2, fun F3 H3 d3 v3 ρ3 l3 env3 r3 ⟨a, l, r, ks, ds, key, eo, ec, ey, nd, hl, q3⟩ => by
    subst eo ey
    cases r2
    cases r3
    obtain ⟨ho, hH, vs, hn, eh, rs⟩ := env3.at ec
    subst eh
    have hlen := hn.trans rs.length
    refine ⟨a, _, rfl, .inl ⟨_, keyV key, hH, rfl, by rw [List.length_zip, List.length_map, ← hlen, Nat.min_self, sizeLine_eq]; exact hl, rfl⟩, ?_⟩
    rw [putK_zip ks vs key v nd hlen]
    exact fi.nx F3 _ σ _ ((l1.trans l2).trans l3) (env3.updC ec (d' := .dct (putK1 ks key) (putK2 ks key ds d)) ⟨putK2 ks key vs v, putK_len hn, rfl, reps_putK rs (r1.mono (l2.trans l3))⟩) q3, (fi.ex σ).le (l1.trans l2)⟩, (fi.ex σ).le l1⟩, fi.ex σ⟩
end
end DL

set_option Elab.async false
set_option linter.all false
set_option maxRecDepth 100000
set_option maxHeartbeats 2000000

namespace HT
open PySem PySem.Spec PyProof.Rows L2
section
variable {prog : Program} {w : World} {A : Around} {E : Value → Shared → Prop} {s : Shared}
/-! ### t[::-1] of a tuple -/
theorem adjust_rev (n : Nat) : Builtin.Slice.sliceAdjust none none (-1) (n : Int) = ((n : Int) - 1, -1) := by
  unfold Builtin.Slice.sliceAdjust
  simp
theorem places_rev (n : Nat) : Builtin.Slice.slicePlaces ((n : Int) - 1) (-1) (-1) = n := by
  unfold Builtin.Slice.slicePlaces
  by_cases h : 0 < n
  · have h1 : ¬ ((-1 : Int) > 0) := by omega
    have h2 : ((n : Int) - 1 > -1) := by omega
    simp only [h1, h2, if_true, if_false]
    first | omega | (simp; omega) | simp
  · have e : n = 0 := by omega
    subst e
    rfl
theorem sliceApplied_rev {sl : Addr} {vl vu vs : Value} {n : Nat} {Q : Int × Int × Nat → Shared → Prop} (hs : s.heap.IsSliceOf sl vl vu vs) (pl : IsPart vl none) (pu : IsPart vu none) (ps : IsPart vs (some (-1)))
    (h : Q ((n : Int) - 1, -1, n) s) : wpAny (model prog w) A (Builtin.Slice.sliceApplied (.ref sl) (pure (n : Int))) Q E s := by
  obtain ⟨os, hos, hcs, hds⟩ := id hs
  unfold Builtin.Slice.sliceApplied Builtin.Slice.sliceFields
  refine wpAny_bind (wpAny_bind (wpAny_field hos hds (x := vl) rfl (wpAny_bind (wpAny_field hos hds (x := vu) rfl (wpAny_bind (wpAny_field hos hds (x := vs) rfl (wpAny_pure ?_)))))))
  refine wpAny_bind (slicePart_ ps ?_)
  show wpAny _ _ (if ((-1 : Int) == 0) = true then _ else _) _ _ s
  rw [if_neg (by decide)]
  refine wpAny_bind (slicePart_ pl (wpAny_bind (slicePart_ pu (wpAny_bind (wpAny_pure ?_)))))
  show wpAny _ _ (match Builtin.Slice.sliceAdjust none none (-1) (n : Int) with | (lo, hi) => pure (lo, (-1 : Int), Builtin.Slice.slicePlaces lo hi (-1))) _ _ s
  rw [adjust_rev n]
  show wpAny _ _ (pure ((n : Int) - 1, (-1 : Int), Builtin.Slice.slicePlaces ((n : Int) - 1) (-1) (-1))) _ _ s
  rw [places_rev]
  exact wpAny_pure h
theorem filterMap_same {α β : Type} {f g : α → Option β} : ∀ {l : List α}, (∀ x ∈ l, f x = g x) → l.filterMap f = l.filterMap g
  | [], _ => rfl
  | a :: l, h => by
    have h1 := h a List.mem_cons_self
    have h2 := filterMap_same (l := l) fun x hx => h x (List.mem_cons_of_mem _ hx)
    rw [List.filterMap_cons, List.filterMap_cons, h1, h2]
theorem pick_rev (xs : Array Value) : ((List.range xs.size).filterMap fun (m : Nat) => xs[(((xs.size : Int) - 1) + (m : Int) * (-1)).toNat]?).toArray = xs.toList.reverse.toArray := by
  congr 1
  have key : ∀ (l : List Value), (List.range l.length).filterMap (fun (m : Nat) => l[(((l.length : Int) - 1) + (m : Int) * (-1)).toNat]?) = l.reverse := by
    intro l
    apply List.ext_getElem?
    intro i
    have e : (List.range l.length).filterMap (fun (m : Nat) => l[(((l.length : Int) - 1) + (m : Int) * (-1)).toNat]?) = (List.range l.length).map (fun m => l.reverse.getD m .none) := by
      rw [← List.filterMap_eq_map]
      apply filterMap_same
      intro m hm
      have hm := List.mem_range.mp hm
      have e1 : (((l.length : Int) - 1) + (m : Int) * (-1)).toNat = l.length - 1 - m := by omega
      rw [e1]
      show _ = some (l.reverse.getD m .none)
      rw [List.getD_eq_getElem?_getD, List.getElem?_reverse hm, List.getElem?_eq_getElem (by omega)]
      rfl
    rw [e]
    by_cases hi : i < l.length
    · rw [List.getElem?_map, List.getElem?_range hi]
      show some (l.reverse.getD i .none) = _
      rw [List.getD_eq_getElem?_getD, List.getElem?_eq_getElem (by simpa using hi)]
      rfl
    · rw [List.getElem?_eq_none (by simpa using hi), List.getElem?_eq_none (by simpa using hi)]
  have := key xs.toList
  simpa using this
theorem getItem_tuple_rev {t sl : Addr} {items : Array Value} {vl vu vs : Value} {Q : Value → Shared → Prop} (ht : IsTup s.heap t items) (hs : s.heap.IsSliceOf sl vl vu vs) (pl : IsPart vl none) (pu : IsPart vu none) (ps : IsPart vs (some (-1)))
    (h : Q (.ref s.heap.objs.size) { s with heap := s.heap.push { cls := .type "tuple", data := .seq items.toList.reverse.toArray } })
    (hsz : items.size ≤ sizeLine) : wpAny (model prog w) A (getItem (.ref t) (.ref sl)) Q E s := by
  have htake : sizeOk (.seq items.toList.reverse.toArray) := by
    show items.toList.reverse.toArray.size ≤ sizeLine
    rw [List.size_toArray, List.length_reverse, Array.length_toList]
    omega
  obtain ⟨os, hos, hcs, hds⟩ := id hs
  have hTs : s.TypeIs (.ref sl) "slice" := ⟨os, hos, hcs⟩
  unfold getItem
  try with_reducible refine wpAny_holding ?_
  first | refine wpAny_bind (wpAny_pure ?_) | skip
  refine wpAny_bind (wpAny_sequenceKey ht.typeIs (by decide) ?_)
  refine wpAny_bind (wpAny_callSpecial?_slot (name := Str.ofString "__getitem__") ht.typeIs PyProof.Rows.slot_tuple_getitem
    (wpAny_call_entry PyProof.Rows.slot_tuple_getitem ht.typeIs entry_tuple_getitem ?_ (args_tuple_getitem _ _)))
  show wpAny _ _ (Builtin.Tuple.tupleItemsOf (.ref t) >>= _) _ _ s
  refine wpAny_bind (tupleItemsOf_ ht ?_)
  refine wpAny_bind (wpAny_typeOf hTs ?_)
  rw [if_pos (by decide)]
  refine wpAny_bind (sliceApplied_rev hs pl pu ps ?_)
  have hno : ¬ ((((items.size : Int) - 1) == 0 && (-1 : Int) == 1 && items.size == items.size) = true) := by
    intro q
    rw [Bool.and_eq_true, Bool.and_eq_true] at q
    exact absurd q.1.2 (by decide)
  show wpAny _ _ (if (((items.size : Int) - 1) == 0 && (-1 : Int) == 1 && items.size == items.size) = true then _ else _) _ _ s
  rw [if_neg hno, pick_rev]
  first
    | exact wpAny_bind (m := Builtin.Tuple.tupleExact _) (wpAny_newObj_type (wpAny_pure ⟨_, rfl, wpAny_pure h⟩) htake)
    | exact wpAny_bind (m := Builtin.Tuple.tupleExact _) (wpAny_newObj_type (wpAny_bind (wpAny_pure (wpAny_pure ⟨_, rfl, wpAny_pure h⟩))) htake)
    | exact wpAny_bind (wpAny_bind (m := Builtin.Tuple.tupleExact _) (wpAny_newObj_type (wpAny_pure (wpAny_pure ⟨_, rfl, wpAny_pure h⟩)) htake))
    | exact wpAny_bind (wpAny_bind (m := Builtin.Tuple.tupleExact _) (wpAny_newObj_type (wpAny_pure ⟨_, rfl, wpAny_pure h⟩) htake))
end
end HT

namespace L2
open PySem PySem.Spec PyProof.Rows
section
variable {X : Cx}
def tRevT (K : PySem.W.Frag) (te : TE) : TE := fun σ H Q => te σ H fun x H1 => ∃ a xs, x = .ref a ∧ SqT K H1 a xs ∧ ∀ p, H1 p = none → Q (.ref p) (upd H1 p (.tup xs.reverse))
theorem pe_revT {e : Expr} {te : TE} {k : Nat} {p1 p2 p3 pos : Pos} (he : PE X e te) : PE X (.Subscript e (.Slice none none (some (.UnaryOp .USub (.Constant (.int 1) k p1) p2)) p3) pos) (tRevT X.K te) := by
  refine ⟨fun pins s σ H Q I h => ?_⟩
  refine Subscript_ (thn (he.run pins s σ H _ I h) fun v s1 ⟨x, H1, I1, r1, q1⟩ => ?_)
  obtain ⟨a, xs, ex, hx, q⟩ := q1
  subst ex
  cases r1
  have hst : PO X (some (.UnaryOp .USub (.Constant (.int 1) k p1) p2)) (tPart (tUn (rU fun i => .int (-i)) (tC (.int 1)))) := po_some (pe_un un_neg pe_int)
  refine wpAny_Slice (thn (po_none.run pins s1 σ H1 (fun o H2 => o = none ∧ H2 = H1) I1 ⟨rfl, rfl⟩) fun vl s2 ⟨l, H2, I2, pl, el, e2⟩ => ?_)
  subst el e2
  refine thn (po_none.run pins s2 σ H2 (fun o H3 => o = none ∧ H3 = H2) I2 ⟨rfl, rfl⟩) fun vu s3 ⟨u, H3, I3, pu, eu, e3⟩ => ?_
  subst eu e3
  refine thn (hst.run pins s3 σ H3 (fun o H4 => o = some (-1) ∧ H4 = H3) I3 ⟨1, rfl, -1, rfl, rfl, rfl⟩) fun vs s4 ⟨o, H4, I4, ps, eo, e4⟩ => ?_
  subst eo e4
  have I5 : Inv X pins σ H4 { s4 with heap := s4.heap.push { cls := .type "slice", data := .fields #[vl, vu, vs] } } := I4.kept (t' := s4.toks) fun b ob q => Heap.get?_push_of_some _ q
  obtain ⟨its, r, ht, hz⟩ := I5.tuple hx
  have hlen := r.length
  show wpAny (model X.prog X.w) X.A (subscriptTail e (.Slice none none (some (.UnaryOp .USub (.Constant (.int 1) k p1) p2)) p3) (.ref a) (.ref s4.heap.objs.size)) (EP X pins σ Q) X.xe { s4 with heap := s4.heap.push { cls := .type "slice", data := .fields #[vl, vu, vs] } }
  refine tail_any (ops := [.ref a, .ref s4.heap.objs.size]) ht.typeIs (PyProof.Rows.slot_tuple_getitem.lookup) ?_ (by with_unfolding_all rfl)
  refine HT.getItem_tuple_rev ht (Heap.IsSliceOf.new _ vl vu vs) pl pu ps ?_ (by rw [List.size_toArray]; omega)
  refine ⟨.ref _, _, I5.laid (t' := s4.toks) (o := .tup xs.reverse) (fun b ob q => Heap.get?_push_of_some _ q) (Nat.le_refl _) ?_, rfl, q _ (I5.hok.fresh (Nat.le_refl _))⟩
  exact ⟨by rw [List.length_reverse]; exact hz, _, r.reverse, IsTup.new _ _⟩
end
end L2

set_option Elab.async false
set_option linter.all false
set_option maxRecDepth 100000
set_option maxHeartbeats 2000000
namespace DL
open PySem PySem.Spec PyProof.Rows L2 TL

/-! ### methods of texts -/
def LiftM (K : PySem.W.Frag) (ro : V → List V → Hp → VK → Prop) (rd : Rho → D → List D → (D → Prop) → Prop) : Prop := ∀ G F H σ ρ d v ds vs (P : D → Prop) (Q : VK), Env K G F H σ ρ → Rep K F d v → Reps K F ds vs → rd ρ d ds P →
  (∀ F' H' d v, Grow F H F' H' → Rep K F' d v → P d → Q v H') → ro v vs H Q
section
variable {X : Cx} {E : XK} {e e2 o : Expr} {es : List Expr} {te te2 to : DX} {u : DA} {pos p2 apos cpos : Pos} {id : String} {name : Str} {ro : V → List V → Hp → VK → Prop} {rd : Rho → D → List D → (D → Prop) → Prop}
def dM0 (rd : Rho → D → List D → (D → Prop) → Prop) (to : DX) : DX := fun ρ P => to ρ ⟨fun o ρ1 => (∃ s, o = .str s) ∧ rd ρ1 o [] fun z => P.ok z ρ1, P.ex⟩
def dM1 (rd : Rho → D → List D → (D → Prop) → Prop) (to te : DX) : DX := fun ρ P => to ρ ⟨fun o ρ1 => (∃ s, o = .str s) ∧ te ρ1 ⟨fun y ρ2 => rd ρ2 o [y] fun z => P.ok z ρ2, P.ex⟩, P.ex⟩
def dM2 (rd : Rho → D → List D → (D → Prop) → Prop) (to : DX) (u : DA) : DX := fun ρ P => to ρ ⟨fun o ρ1 => (∃ s, o = .str s) ∧ u ρ1 ⟨fun ys ρ2 => rd ρ2 o ys fun z => P.ok z ρ2, P.ex⟩, P.ex⟩
theorem px_m0 (slot : Slot "str" name id) (ty : typeOf (.builtin id) = pure (.type "method_descriptor")) (rule : MtR X id ro) (l : LiftM X.K ro rd) (ho : PX X E o to)
    (hbase : attributeBase o name X.env (eval o X.env) = eval o X.env := by rfl) (hline : (apos.endLine == pos.line) = true := by rfl) : PX X E (.Call (.Attribute o name apos) [] [] pos) (dM0 rd to) :=
  px_of (pe_m0 slot ty rule ho hbase hline) fun G F H σ ρ P Q env q k x => ⟨G, F, ρ, _, env, q, fun F1 H1 d v ρ1 l1 env1 r1 ⟨⟨s, ed⟩, q1⟩ => by
    subst ed
    refine ⟨⟨mkS s, r1⟩, l G F1 H1 σ ρ1 _ v [] [] _ Q env1 r1 rfl q1 fun F2 H2 d2 v2 g r p => k F2 H2 d2 v2 ρ1 (l1.trans g.le) (env1.grow g) r p⟩, x⟩
theorem px_m1 (slot : Slot "str" name id) (ty : typeOf (.builtin id) = pure (.type "method_descriptor")) (rule : MtR X id ro) (l : LiftM X.K ro rd) (ho : PX X E o to) (he : PX X E e te)
    (hs : starEach [e] X.env = [(false, eval e X.env)] := by rfl) (hbase : attributeBase o name X.env (eval o X.env) = eval o X.env := by rfl) (hline : (apos.endLine == pos.line) = true := by rfl) : PX X E (.Call (.Attribute o name apos) [e] [] pos) (dM1 rd to te) :=
  px_of (pe_m1 slot ty rule ho he hs hbase hline) fun G F H σ ρ P Q env q k x => ⟨G, F, ρ, _, env, q, fun F1 H1 d v ρ1 l1 env1 r1 ⟨⟨s, ed⟩, q1⟩ => by
    subst ed
    refine ⟨⟨mkS s, r1⟩, G, F1, ρ1, _, env1, q1, fun F2 H2 d2 v2 ρ2 l2 env2 r2 q2 => ?_, x.le l1⟩
    exact l G F2 H2 σ ρ2 _ v [d2] [v2] _ Q env2 (r1.mono l2) (Reps.one r2) q2 fun F3 H3 d3 v3 g r p => k F3 H3 d3 v3 ρ2 ((l1.trans l2).trans g.le) (env2.grow g) r p, x⟩
/-- a method of texts with several arguments -/
theorem px_m2 (slot : Slot "str" name id) (hty : typeOf (.builtin id) = pure (.type "method_descriptor")) (hm : MtR X id ro) (l : LiftM X.K ro rd) (ho : PX X E o to) (ha : PXA X E (e :: es) u)
    (hbase : attributeBase o name X.env (eval o X.env) = eval o X.env := by rfl)
    (hfew : ((backTo cpos (starEach (e :: es) X.env)).all (fun x => !x.1) && (backToKw cpos (keywordEach [] X.env)).all (fun x => x.1.isSome)
      && decide ((e :: es).length + ([] : List Keyword).length + (if ([] : List Keyword).isEmpty then 0 else 1) < 30)) = true := by rfl)
    (hline : (apos.endLine == cpos.line) = true := by rfl) (hs : starEach (e :: es) X.env = (false, eval e X.env) :: starEach es X.env := by rfl) (hplain : (backTo cpos (starEach es X.env)).any (·.1) = false := by rfl) :
    PX X E (.Call (.Attribute o name apos) (e :: es) [] cpos) (dM2 rd to u) :=
  px_of (pe_bm PySem.F.plainAttrs_str slot hty hm ho ha hbase hfew hline hs hplain) fun G F H σ ρ P Q env q k x => ⟨G, F, ρ, _, env, q, fun F1 H1 d v ρ1 l1 env1 r1 ⟨⟨s, ed⟩, q1⟩ => by
    subst ed
    cases r1
    refine ⟨rfl, G, F1, ρ1, _, env1, q1, fun F2 H2 ds vs ρ2 l2 env2 r2 q2 => ?_, x.le l1⟩
    exact l G F2 H2 σ ρ2 (.str s) _ ds vs _ Q env2 rfl r2 q2 fun F3 H3 d3 v3 g r p => k F3 H3 d3 v3 ρ2 ((l1.trans l2).trans g.le) (env2.grow g) r p, x⟩
end
section
variable {K : PySem.W.Frag}
abbrev DRM := Rho → D → List D → (D → Prop) → Prop
theorem map_mkS_len (l : List (List Nat)) : (l.map fun s => (mkS s)).map (·.length) = l.map List.length := by
  rw [List.map_map]
  exact List.map_congr_left fun s _ => mkS_len s
/-- sep.join(xs) -/
def rdJoin : DRM := fun ρ o ys P => ∃ sep l y, o = .str sep ∧ ys = [y] ∧ (Sees ρ y (.lst (strsD l)) ∨ y = .tup (strsD l)) ∧ (l.map List.length).sum + l.length * sep.length ≤ 16777216 ∧ P (.str (joinL sep l))
theorem join_mkS (sep : List Nat) (l : List (List Nat)) : Txt.join (mkS sep) (l.map mkS) = mkS (joinL sep l) := by
  rw [join_eq]
  refine ext_tl ?_
  rw [tl_join]
  congr 1
  rw [List.map_map]
  calc l.map (tl ∘ mkS) = l.map _root_.id := List.map_congr_left fun s _ => rfl
    _ = l := by simp
theorem l_join : LiftM K (fun x xs H Q => ∃ a p, ∃ ys : List Str, x = .str a ∧ xs = [.ref p] ∧ (SqL K H p (ys.map V.str) ∨ SqT K H p (ys.map V.str)) ∧ (ys.map (·.length)).sum + ys.length * a.length ≤ 16777216 ∧ Q (.str (Txt.join a ys)) H) rdJoin :=
  fun G F H σ ρ d v ds vs P Q env r1 r2 ⟨sep, l, y, e1, e2, e3, b, p⟩ k => by
    subst e1 e2
    cases r1
    obtain ⟨w, ew, rw'⟩ := reps1 r2
    subst ew
    have fin : ∀ a, (SqL K H a ((l.map mkS).map V.str) ∨ SqT K H a ((l.map mkS).map V.str)) → w = .ref a → ∃ a p, ∃ ys : List Str, (V.str (mkS sep)) = .str a ∧ [w] = [.ref p] ∧ (SqL K H p (ys.map V.str) ∨ SqT K H p (ys.map V.str)) ∧ (ys.map (·.length)).sum + ys.length * a.length ≤ 16777216 ∧ Q (.str (Txt.join a ys)) H := fun a h ea => by
      subst ea
      refine ⟨mkS sep, a, l.map mkS, rfl, rfl, h, ?_, ?_⟩
      · rw [map_mkS_len, List.length_map, mkS_len]; exact b
      · rw [join_mkS]; exact k F H (.str _) _ (Grow.refl env.fit) rfl p
    rcases e3 with e3 | e3
    · obtain ⟨a, us, ev, h, rs⟩ := env.lst e3 rw'
      have es := reps_strs rs
      subst es
      exact fin a (.inl (by rw [List.map_map]; exact h)) ev
    · subst e3
      obtain ⟨a, us, ev, h, rs⟩ := env.tup rw'
      have es := reps_strs rs
      subst es
      exact fin a (.inr (by rw [List.map_map]; exact h)) ev
/-- s.split(sep) -/
def rdSplit : DRM := fun ρ o ys P => ∃ s sep, o = .str s ∧ ys = [.str sep] ∧ sep ≠ [] ∧ sep.all (· < 256) = true ∧ s.length + 2 ≤ 16777216 ∧ P (.lst (strsD (spl sep 0 [] s)))
theorem kind_mkS {s sep : List Nat} (h : sep.all (· < 256) = true) : ¬ Builtin.Str.strKind (mkS s) < Builtin.Str.strKind (mkS sep) := kind_ok (by simpa using h)
theorem split_mkS {s sep : List Nat} (h : sep ≠ []) (h2 : sep.all (· < 256) = true) : (Txt.split (mkS s) (mkS sep)).map tl = spl sep 0 [] s := split_spl (mkS s) (mkS sep) h (kind_mkS h2)
theorem strs_of_tl {F : Hp} {ys : List Str} : Reps K F (strsD (ys.map tl)) (ys.map V.str) := by
  have e : ys.map V.str = (ys.map tl).map fun s => V.str (mkS s) := by
    rw [List.map_map]
    exact List.map_congr_left fun y _ => congrArg V.str (mk_tl y).symm
  rw [e]
  exact strs_reps _
theorem l_split : LiftM K (fun x xs H Q => ∃ a b, x = .str a ∧ xs = [.str b] ∧ (b.length == 0) = false ∧ a.length + 2 ≤ sizeLine ∧ rNewStrs (Txt.split a b) H Q) rdSplit :=
  fun G F H σ ρ d v ds vs P Q env r1 r2 ⟨s, sep, e1, e2, h1, h2, b, p⟩ k => by
    subst e1 e2
    cases r1
    obtain ⟨w, ew, rw'⟩ := reps1 r2
    subst ew
    cases rw'
    refine ⟨mkS s, mkS sep, rfl, rfl, ?_, by rw [mkS_len, sizeLine_eq]; exact b, fun q hq => ?_⟩
    · rw [mkS_len]
      cases sep with
      | nil => exact absurd rfl h1
      | cons a r => rfl
    · refine k _ _ (.lst (strsD (spl sep 0 [] s))) _ (Grow.alloc env.fit hq) (rep_newL (none_sub env.fit hq) ?_) p
      rw [← split_mkS h1 h2]
      exact strs_of_tl
/-- s.partition(sep) -/
def partL (sep s : List Nat) : List (List Nat) := match par sep [] s with
  | some (a, b) => [a, sep, b]
  | none => [s, [], []]
def rdPart : DRM := fun ρ o ys P => ∃ s sep, o = .str s ∧ ys = [.str sep] ∧ sep ≠ [] ∧ s.length ≤ 16777216 ∧ P (.tup (strsD (partL sep s)))
theorem l_part : LiftM K (fun x xs H Q => ∃ a b, x = .str a ∧ xs = [.str b] ∧ (b.length == 0) = false ∧ a.length ≤ sizeLine ∧
      ∀ p, H p = none → Q (.ref p) (upd H p (.tup [.str (Txt.partition a b).1, .str (Txt.partition a b).2.1, .str (Txt.partition a b).2.2]))) rdPart :=
  fun G F H σ ρ d v ds vs P Q env r1 r2 ⟨s, sep, e1, e2, h1, b, p⟩ k => by
    subst e1 e2
    cases r1
    obtain ⟨w, ew, rw'⟩ := reps1 r2
    subst ew
    cases rw'
    refine ⟨mkS s, mkS sep, rfl, rfl, ?_, by rw [mkS_len, sizeLine_eq]; exact b, fun q hq => ?_⟩
    · rw [mkS_len]
      cases sep with
      | nil => exact absurd rfl h1
      | cons a r => rfl
    · refine k _ _ (.tup (strsD (partL sep s))) _ (Grow.alloc env.fit hq) (rep_newT (none_sub env.fit hq) ?_) p
      rw [partition_par (mkS s) (mkS sep) h1]
      unfold partL
      show Reps K F (strsD (match par sep [] s with | some (a, b) => [a, sep, b] | none => [s, [], []])) _
      have e : par (tl (mkS sep)) [] (tl (mkS s)) = par sep [] s := rfl
      rw [e]
      cases par sep [] s with
      | none => exact strs_reps [s, [], []]
      | some ab => exact strs_reps [ab.1, sep, ab.2]
/-- s.lower() -/
def lowerL (s : List Nat) : List Nat := tl (Txt.lower (mkS s))
def rdLower : DRM := fun ρ o ys P => ∃ s, o = .str s ∧ ys = [] ∧ s.length ≤ 5592405 ∧ P (.str (lowerL s))
theorem l_lower : LiftM K (fun x xs H Q => ∃ a, x = .str a ∧ xs = [] ∧ a.length ≤ 5592405 ∧ Q (.str (Txt.lower a)) H) rdLower :=
  fun G F H σ ρ d v ds vs P Q env r1 r2 ⟨s, e1, e2, b, p⟩ k => by
    subst e1 e2
    cases r1
    cases r2
    refine ⟨mkS s, rfl, rfl, by rw [mkS_len]; exact b, k F H (.str (lowerL s)) _ (Grow.refl env.fit) ?_ p⟩
    exact congrArg V.str (mk_tl _).symm
/-- s.startswith(t) -/
def rdStarts : DRM := fun ρ o ys P => ∃ s t, o = .str s ∧ ys = [.str t] ∧ P (.bl (pre t s))
theorem starts_mkS (s t : List Nat) : Txt.startswith (mkS s) (mkS t) = pre t s := by
  unfold Txt.startswith pre
  rw [StrLaws.subAt_eq, mkS_len, mkS_len]
  show (decide (0 + t.length ≤ s.length) && (List.take t.length (List.drop 0 s) == t)) = (List.take t.length s == t)
  rw [List.drop_zero, Nat.zero_add]
  by_cases h : t.length ≤ s.length
  · simp [h]
  · have : (List.take t.length s == t) = false := by
      rw [beq_eq_false_iff_ne]
      intro e
      have := congrArg List.length e
      rw [List.length_take] at this
      omega
    rw [this]
    simp
theorem l_starts : LiftM K (fun x xs H Q => ∃ a b, x = .str a ∧ xs = [.str b] ∧ Q (.bl (Txt.startswith a b)) H) rdStarts :=
  fun G F H σ ρ d v ds vs P Q env r1 r2 ⟨s, t, e1, e2, p⟩ k => by
    subst e1 e2
    cases r1
    obtain ⟨w, ew, rw'⟩ := reps1 r2
    subst ew
    cases rw'
    refine ⟨mkS s, mkS t, rfl, rfl, ?_⟩
    rw [starts_mkS]
    exact k F H (.bl _) _ (Grow.refl env.fit) rfl p
/-- s.find(c, i), one sign, 0 ≤ i -/
def findL (s : List Nat) (c i : Nat) : Int := match (s.drop i).findIdx? (· == c) with
  | some j => ((i + j : Nat) : Int)
  | none => -1
def rdFind : DRM := fun ρ o ys P => ∃ s c i, o = .str s ∧ ys = [.str [c], .int ((i : Nat) : Int)] ∧ P (.int (findL s c i))
theorem occ_from (x y : Str) (lo : Nat) : (Builtin.Str.occurrences x y lo x.length 1 = [] ∧ ∀ i, lo ≤ i → ¬ StrLaws.At x y x.length i) ∨ ∃ i r, Builtin.Str.occurrences x y lo x.length 1 = i :: r ∧ lo ≤ i ∧ StrLaws.At x y x.length i ∧ ∀ k, lo ≤ k → k < i → ¬ StrLaws.At x y x.length k := by
  rw [StrLaws.occ_eq]
  have mem : ∀ i, i ∈ List.range' lo (x.length + 1 - lo) ↔ lo ≤ i ∧ i < lo + (x.length + 1 - lo) := fun i => List.mem_range'_1
  rcases StrLaws.occ_first x y x.length 1 (Nat.le_refl 1) (List.range' lo (x.length + 1 - lo)) lo (fun i hi => ((mem i).mp hi).1) with ⟨h0, hn⟩ | ⟨pre, a, post, e, h0, ha, hn⟩
  · refine .inl ⟨by rw [h0], fun i h1 hi => ?_⟩
    exact hn i ((mem i).mpr ⟨h1, by have := hi.1; omega⟩) hi
  · refine .inr ⟨a, ((forIn (List.range' lo (x.length + 1 - lo)) ((#[] : Array Nat), lo) (StrLaws.occBody x y x.length 1)).run.fst.toList).tail, ?_, ?_, ha, fun k h1 hk => hn k ?_⟩
    · generalize (forIn (List.range' lo (x.length + 1 - lo)) ((#[] : Array Nat), lo) (StrLaws.occBody x y x.length 1)).run.fst = arr at h0
      have h1 : arr.toList[0]? = some a := by simpa using h0
      cases hL : arr.toList with
      | nil => rw [hL] at h1; cases h1
      | cons b t => rw [hL] at h1; simp at h1; rw [h1]; rfl
    · exact ((mem a).mp (by rw [e]; simp)).1
    · have hs : List.Pairwise (· < ·) (pre ++ a :: post) := by rw [← e]; exact List.pairwise_lt_range'
      have hk2 : k ∈ pre ++ a :: post := by
        rw [← e]
        have := ((mem a).mp (by rw [e]; simp)).2
        exact (mem k).mpr ⟨h1, by omega⟩
      rcases List.mem_append.mp hk2 with h | h
      · exact h
      · rcases List.mem_cons.mp h with h | h
        · omega
        · have := (List.pairwise_cons.mp (List.pairwise_append.mp hs).2.1).1 k h
          omega
theorem find_mkS (s : List Nat) (c i : Nat) : Txt.find3 (mkS s) (mkS [c]) ((i : Nat) : Int) = findL s c i := by
  have at1 : ∀ k, StrLaws.At (mkS s) (mkS [c]) (mkS s).length k ↔ s[k]? = some c := fun k => StrLaws.subAt_one (mkS s) c k
  have lo : fromIndex (mkS s).length ((i : Nat) : Int) = i := by
    unfold fromIndex
    have : ¬ ((i : Nat) : Int) < 0 := by omega
    rw [if_neg this]
    omega
  unfold Txt.find3 findL
  rw [lo]
  rcases occ_from (mkS s) (mkS [c]) i with ⟨h0, hn⟩ | ⟨k, r, h0, h1, h2, h3⟩
  · rw [h0]
    have e : (s.drop i).findIdx? (· == c) = none := by
      rw [List.findIdx?_eq_none_iff]
      intro x hx
      rw [beq_eq_false_iff_ne]
      intro z
      subst z
      obtain ⟨j, hj⟩ := List.getElem?_of_mem hx
      rw [List.getElem?_drop] at hj
      exact hn (i + j) (by omega) ((at1 _).mpr hj)
    rw [e]
  · rw [h0]
    have h2' := (at1 k).mp h2
    have e : (s.drop i).findIdx? (· == c) = some (k - i) := by
      rw [List.findIdx?_eq_some_iff_getElem]
      have hk : k < s.length := (List.getElem?_eq_some_iff.mp h2').1
      refine ⟨by rw [List.length_drop]; omega, ?_, fun j hj => ?_⟩
      · rw [List.getElem_drop, beq_iff_eq]
        have := (List.getElem?_eq_some_iff.mp h2').2
        have e2 : i + (k - i) = k := by omega
        simp only [e2]
        exact this
      · intro z
        rw [List.getElem_drop, beq_iff_eq] at z
        refine h3 (i + j) (by omega) (by omega) ((at1 _).mpr ?_)
        rw [List.getElem?_eq_some_iff]
        exact ⟨by omega, z⟩
    rw [e]
    show ((k : Nat) : Int) = ((i + (k - i) : Nat) : Int)
    congr 1
    omega
theorem l_find : LiftM K (fun x xs H Q => ∃ (a b : Str) (i : Int), x = .str a ∧ xs = [.str b, .int i] ∧ Q (.int (Txt.find3 a b i)) H) rdFind :=
  fun G F H σ ρ d v ds vs P Q env r1 r2 ⟨s, c, i, e1, e2, p⟩ k => by
    subst e1 e2
    cases r1
    obtain ⟨w, w2, ew, ra, rb⟩ := reps2 r2
    subst ew
    cases ra
    cases rb
    refine ⟨mkS s, mkS [c], i, rfl, rfl, ?_⟩
    rw [find_mkS]
    exact k F H (.int _) _ (Grow.refl env.fit) rfl p
end

/-! ### slices -/
section
variable {X : Cx} {E : XK} {e : Expr} {lo hi : Option Expr} {te : DX} {pos p2 : Pos}
abbrev DO := Rho → Po (Option Int) → Prop
def upO (K : PySem.W.Frag) (E : XK) (t : DO) : TO := fun σ H Q => ∃ G F ρ P, Env K G F H σ ρ ∧ t ρ P ∧ (∀ F' H' o ρ', Le F F' → Env K G F' H' σ ρ' → P.ok o ρ' → Q o H') ∧ ExW K E G F σ P.ex
def PXO (X : Cx) (E : XK) (e : Option Expr) (t : DO) : Prop := PO X e (upO X.K E t)
theorem PO.weak {X : Cx} {e : Option Expr} {t t' : TO} (h : PO X e t) (w : ∀ σ H Q, t' σ H Q → t σ H Q) : PO X e t' := ⟨fun pins s σ H Q I q => h.run pins s σ H Q I (w σ H Q q)⟩
def dNoPart : DO := fun ρ P => P.ok none ρ
def dPart (te : DX) : DO := fun ρ P => te ρ ⟨fun d ρ1 => ∃ i, d = .int i ∧ P.ok (some i) ρ1, P.ex⟩
theorem pxo_none : PXO X E none dNoPart := PO.weak po_none fun σ H Q ⟨G, F, ρ, P, env, q, k, x⟩ => k F H none ρ (Le.refl F) env q
theorem pxo_some (h : PX X E e te) : PXO X E (some e) (dPart te) := PO.weak (po_some h) fun σ H Q ⟨G, F, ρ, P, env, q, k, x⟩ => ⟨G, F, ρ, _, env, q, fun F1 H1 d v ρ1 l1 env1 r1 ⟨i, ed, q1⟩ => by
  subst ed
  cases r1
  exact ⟨i, rfl, k F1 H1 _ ρ1 l1 env1 q1⟩, x⟩
def LiftSl (K : PySem.W.Frag) (ro : V → Option Int → Option Int → Hp → VK → Prop) (rd : Rho → D → Option Int → Option Int → (D → Prop) → Prop) : Prop := ∀ G F H σ ρ d v l h (P : D → Prop) (Q : VK), Env K G F H σ ρ → Rep K F d v → rd ρ d l h P →
  (∀ F' H' d v, Grow F H F' H' → Rep K F' d v → P d → Q v H') → ro v l h H Q
def dSl (rd : Rho → D → Option Int → Option Int → (D → Prop) → Prop) (te : DX) (tl th : DO) : DX := fun ρ P => te ρ ⟨fun d ρ1 => tl ρ1 ⟨fun l ρ2 => th ρ2 ⟨fun h ρ3 => rd ρ3 d l h fun z => P.ok z ρ3, P.ex⟩, P.ex⟩, P.ex⟩
theorem px_sl {ro : V → Option Int → Option Int → Hp → VK → Prop} {rd : Rho → D → Option Int → Option Int → (D → Prop) → Prop} {tl th : DO} (hr : SlR X ro) (l : LiftSl X.K ro rd) (he : PX X E e te) (hl : PXO X E lo tl) (hu : PXO X E hi th) : PX X E (.Subscript e (.Slice lo hi none p2) pos) (dSl rd te tl th) :=
  px_of (pe_slice hr he hl hu) fun G F H σ ρ P Q env q k x => ⟨G, F, ρ, _, env, q, fun F1 H1 d v ρ1 l1 env1 r1 q1 => ⟨G, F1, ρ1, _, env1, q1, fun F2 H2 o ρ2 l2 env2 q2 => ⟨G, F2, ρ2, _, env2, q2, fun F3 H3 o3 ρ3 l3 env3 q3 =>
    l G F3 H3 σ ρ3 d v o o3 _ Q env3 (r1.mono (l2.trans l3)) q3 fun F4 H4 d4 v4 g r p => k F4 H4 d4 v4 ρ3 (((l1.trans l2).trans l3).trans g.le) (env3.grow g) r p, x.le (l1.trans l2)⟩, x.le l1⟩, x⟩
def cutL {α : Type} (xs : List α) (lo hi : Option Int) : List α := (xs.drop (HT.sIx xs.length 0 lo)).take (HT.sIx xs.length xs.length hi - HT.sIx xs.length 0 lo)
def rdSlS : Rho → D → Option Int → Option Int → (D → Prop) → Prop := fun _ d l h P => ∃ s, d = .str s ∧ s.length ≤ 16777216 ∧ P (.str (cutL s l h))
theorem l_slS {K : PySem.W.Frag} : LiftSl K rSlS rdSlS := fun G F H σ ρ d v l h P Q env r ⟨s, e, b, p⟩ k => by
  subst e
  cases r
  refine ⟨mkS s, rfl, by rw [mkS_len, sizeLine_eq]; exact b, k F H (.str (cutL s l h)) _ (Grow.refl env.fit) ?_ p⟩
  show V.str _ = V.str _
  congr 1
def rdSlT : Rho → D → Option Int → Option Int → (D → Prop) → Prop := fun _ d l h P => ∃ ds, d = .tup ds ∧ P (.tup (cutL ds l h))
theorem l_slT {K : PySem.W.Frag} : LiftSl K (rSlA K) rdSlT := fun G F H σ ρ d v l h P Q env r ⟨ds, e, p⟩ k => by
  subst e
  obtain ⟨a, vs, ev, hs, rs⟩ := env.tup r
  have hn := rs.length
  subst ev
  refine ⟨a, vs, rfl, hs, fun w => ?_, fun w q hq => ?_⟩
  · have e : cutL ds l h = ds := by
      unfold cutL
      rw [hn, w.1, w.2, List.drop_zero, Nat.sub_zero, ← hn, List.take_length]
    rw [e] at p
    exact k F H (.tup ds) _ (Grow.refl env.fit) r p
  · refine k _ _ (.tup (cutL ds l h)) _ (Grow.alloc env.fit hq) (rep_newT (none_sub env.fit hq) ?_) p
    unfold cutL cutV
    rw [hn]
    exact Reps.take _ (Reps.drop _ rs)
def rdSlL : Rho → D → Option Int → Option Int → (D → Prop) → Prop := fun ρ d l h P => ∃ ds, Sees ρ d (.lst ds) ∧ P (.lst (cutL ds l h))
theorem l_slL {K : PySem.W.Frag} : LiftSl K (rSlL K) rdSlL := fun G F H σ ρ d v l h P Q env r ⟨ds, e, p⟩ k => by
  obtain ⟨a, vs, ev, hs, rs⟩ := env.lst e r
  have hn := rs.length
  subst ev
  refine ⟨a, vs, rfl, hs, fun q hq => ?_⟩
  refine k _ _ (.lst (cutL ds l h)) _ (Grow.alloc env.fit hq) (rep_newL (none_sub env.fit hq) ?_) p
  unfold cutL cutV
  rw [hn]
  exact Reps.take _ (Reps.drop _ rs)
/-- t[::-1] -/
def dRevT (te : DX) : DX := fun ρ P => te ρ ⟨fun d ρ1 => ∃ ds, d = .tup ds ∧ P.ok (.tup ds.reverse) ρ1, P.ex⟩
theorem Reps.rev {K : PySem.W.Frag} {F : Hp} : ∀ {ds : List D} {vs : List V}, Reps K F ds vs → Reps K F ds.reverse vs.reverse
  | [], _, h => by cases h; exact rfl
  | d :: r, vs, h => by
    obtain ⟨v, w, e, h1, h2⟩ := h
    subst e
    rw [List.reverse_cons, List.reverse_cons]
    exact (Reps.rev h2).app (Reps.one h1)
theorem px_revT {k : Nat} {q1 q2 q3 : Pos} (he : PX X E e te) : PX X E (.Subscript e (.Slice none none (some (.UnaryOp .USub (.Constant (.int 1) k q1) q2)) q3) pos) (dRevT te) :=
  px_of (pe_revT he) fun G F H σ ρ P Q env q k x => ⟨G, F, ρ, _, env, q, fun F1 H1 d v ρ1 l1 env1 r1 ⟨ds, ed, q1⟩ => by
    subst ed
    obtain ⟨a, vs, ev, hs, rs⟩ := env1.tup r1
    exact ⟨a, vs, ev, hs, fun p hp => k _ _ (.tup ds.reverse) _ ρ1 (l1.trans (Le.new (none_sub env1.fit hp))) (env1.grow (Grow.alloc env1.fit hp)) (rep_newT (none_sub env1.fit hp) rs.rev) q1⟩, x⟩
end
end DL

set_option Elab.async false
set_option linter.all false
set_option maxRecDepth 100000
set_option maxHeartbeats 2000000
namespace DL
open PySem PySem.Spec PyProof.Rows L2 TL

/-! ### readings that give one answer -/
def EvD (t : DX) (ρ : Rho) (d : D) : Prop := ∀ P : Po D, P.ok d ρ → t ρ P
def EvT (t : DT) (ρ : Rho) (b : Bool) : Prop := ∀ P : Po Bool, P.ok b ρ → t ρ P
def EvA (t : Rho → Po (List D) → Prop) (ρ : Rho) (ds : List D) : Prop := ∀ P : Po (List D), P.ok ds ρ → t ρ P
def EvO (t : DO) (ρ : Rho) (o : Option Int) : Prop := ∀ P : Po (Option Int), P.ok o ρ → t ρ P
def EvG (g : DG) (d : D) (ρ ρ' : Rho) : Prop := ∀ P : Rho → Prop, P ρ' → g d ρ P
def EvGs (g : DGs) (ds : List D) (ρ ρ' : Rho) : Prop := ∀ P : Rho → Prop, P ρ' → g ds ρ P
def V2 (rd : DR2) (ρ : Rho) (x y z : D) : Prop := ∀ P : D → Prop, P z → rd ρ x y P
def Vs (rd : DRs) (ρ : Rho) (ds : List D) (z : D) : Prop := ∀ P : D → Prop, P z → rd ρ ds P
def Vm (rd : DRM) (ρ : Rho) (o : D) (ys : List D) (z : D) : Prop := ∀ P : D → Prop, P z → rd ρ o ys P
def Vsl (rd : Rho → D → Option Int → Option Int → (D → Prop) → Prop) (ρ : Rho) (o : D) (l h : Option Int) (z : D) : Prop := ∀ P : D → Prop, P z → rd ρ o l h P
section
variable {ρ ρ' : Rho} {ta tb tc to ti te : DX} {ua ub : DT} {u : DA} {x y z w d : D} {b b1 b2 : Bool} {ds : List D} {rd r r' : DR2}
theorem ev_var {i : Nat} (h : ρ.sl[i]? = some (some d) := by rfl) : EvD (dVar i) ρ d := fun P p => ⟨d, h, p⟩
theorem ev_c : EvD (dC d) ρ d := fun P p => p
theorem ev_op (h1 : EvD ta ρ x) (h2 : EvD tb ρ y) (h : V2 rd ρ x y z) : EvD (dOp rd ta tb) ρ z := fun P p => h1 _ (h2 _ (h _ p))
theorem ev_test (h : EvD ta ρ (.bl b)) : EvT (dTest ta) ρ b := fun P p => h _ ⟨b, rfl, p⟩
theorem ev_and (h1 : EvT ua ρ b1) (h2 : b1 = true → EvT ub ρ b2) : EvT (dAnd ua ub) ρ (b1 && b2) := fun P p => h1 _ (by
  cases b1 with
  | true => (try dsimp only); refine iteT ?_; exact h2 rfl P p
  | false => (try dsimp only); exact iteF p)
theorem ev_or (h1 : EvT ua ρ b1) (h2 : b1 = false → EvT ub ρ b2) : EvT (dOr ua ub) ρ (b1 || b2) := fun P p => h1 _ (by
  cases b1 with
  | true => (try dsimp only); refine iteT ?_; exact p
  | false => (try dsimp only); refine iteF ?_; exact h2 rfl P p)
theorem ev_not (h1 : EvT ua ρ b) : EvT (dNot ua) ρ (!b) := fun P p => h1 _ p
theorem ev_andV (h1 : EvD ta ρ (.bl b1)) (h2 : b1 = true → EvD tb ρ (.bl b2)) : EvD (dAndV ta tb) ρ (.bl (b1 && b2)) := fun P p => h1 _ ⟨b1, rfl, by
  cases b1 with
  | true => (try dsimp only); refine iteT ?_; exact h2 rfl P p
  | false => (try dsimp only); exact iteF p⟩
theorem ev_orV (h1 : EvD ta ρ (.bl b1)) (h2 : b1 = false → EvD tb ρ (.bl b2)) : EvD (dOrV ta tb) ρ (.bl (b1 || b2)) := fun P p => h1 _ ⟨b1, rfl, by
  cases b1 with
  | true => (try dsimp only); refine iteT ?_; exact p
  | false => (try dsimp only); exact iteF (h2 rfl P p)⟩
theorem ev_notV (h1 : EvD ta ρ (.bl b)) : EvD (dNotV ta) ρ (.bl (!b)) := fun P p => h1 _ ⟨b, rfl, p⟩
theorem ev_if (h : EvT ua ρ b) (h1 : b = true → EvD ta ρ z) (h2 : b = false → EvD tb ρ z) : EvD (dIf ua ta tb) ρ z := fun P p => h _ (by
  cases b with
  | true => (try dsimp only); refine iteT ?_; exact h1 rfl P p
  | false => (try dsimp only); refine iteF ?_; exact h2 rfl P p)
theorem ev_ifG {x y : D} (h : EvT ua ρ b) (h1 : b = true → EvD ta ρ x) (h2 : b = false → EvD tb ρ y) : EvD (dIf ua ta tb) ρ (if b = true then x else y) := ev_if h (fun e => by subst e; exact h1 rfl) (fun e => by subst e; exact h2 rfl)
theorem ev_ifS {s t : List Nat} (h : EvT ua ρ b) (h1 : b = true → EvD ta ρ (.str s)) (h2 : b = false → EvD tb ρ (.str t)) : EvD (dIf ua ta tb) ρ (.str (if b = true then s else t)) :=
  ev_if h (fun e => by subst e; exact h1 rfl) (fun e => by subst e; exact h2 rfl)
theorem ev_ifI {s t : Int} (h : EvT ua ρ b) (h1 : b = true → EvD ta ρ (.int s)) (h2 : b = false → EvD tb ρ (.int t)) : EvD (dIf ua ta tb) ρ (.int (if b = true then s else t)) :=
  ev_if h (fun e => by subst e; exact h1 rfl) (fun e => by subst e; exact h2 rfl)
theorem ev_chain (h1 : EvD ta ρ x) (h2 : EvD tb ρ y) (v1 : V2 r ρ x y (.bl b1)) (h3 : b1 = true → EvD tc ρ w) (v2 : b1 = true → V2 r' ρ y w (.bl b2)) : EvD (dChain r r' ta tb tc) ρ (.bl (b1 && b2)) :=
  fun P p => h1 _ (h2 _ (v1 _ ⟨b1, rfl, by
    cases b1 with
    | true => (try dsimp only); refine iteT ?_; exact h3 rfl _ (v2 rfl _ p)
    | false => (try dsimp only); exact iteF p⟩))
theorem ev_nil : EvA dNil ρ [] := fun P p => p
theorem ev_cons (h : EvD ta ρ x) (h2 : EvA u ρ ds) : EvA (dCons ta u) ρ (x :: ds) := fun P p => h _ (h2 _ p)
theorem ev_tup (h : EvA u ρ ds) (hl : ds.length ≤ 16777216 := by decide) : EvD (dTup u) ρ (.tup ds) := fun P p => h _ ⟨hl, p⟩
theorem ev_lst (h : EvA u ρ ds) (hl : ds.length ≤ 16777216 := by decide) : EvD (dLst u) ρ (.lst ds) := fun P p => h _ ⟨hl, p⟩
theorem ev_cb {rd : DRs} (h : EvA u ρ ds) (v : Vs rd ρ ds z) : EvD (dCB rd u) ρ z := fun P p => h _ (v _ p)
theorem ev_m0 {rd : DRM} {s : List Nat} (h : EvD to ρ (.str s)) (v : Vm rd ρ (.str s) [] z) : EvD (dM0 rd to) ρ z := fun P p => h _ ⟨⟨s, rfl⟩, v _ p⟩
theorem ev_m1 {rd : DRM} {s : List Nat} (h : EvD to ρ (.str s)) (h2 : EvD te ρ y) (v : Vm rd ρ (.str s) [y] z) : EvD (dM1 rd to te) ρ z := fun P p => h _ ⟨⟨s, rfl⟩, h2 _ (v _ p)⟩
theorem ev_m2 {rd : DRM} {s : List Nat} (h : EvD to ρ (.str s)) (h2 : EvA u ρ ds) (v : Vm rd ρ (.str s) ds z) : EvD (dM2 rd to u) ρ z := fun P p => h _ ⟨⟨s, rfl⟩, h2 _ (v _ p)⟩
theorem ev_sl {rd : Rho → D → Option Int → Option Int → (D → Prop) → Prop} {tl th : DO} {l h : Option Int} (h1 : EvD te ρ x) (h2 : EvO tl ρ l) (h3 : EvO th ρ h) (v : Vsl rd ρ x l h z) : EvD (dSl rd te tl th) ρ z := fun P p => h1 _ (h2 _ (h3 _ (v _ p)))
theorem ev_noPart : EvO dNoPart ρ none := fun P p => p
theorem ev_part {i : Int} (h : EvD te ρ (.int i)) : EvO (dPart te) ρ (some i) := fun P p => h _ ⟨i, rfl, p⟩
theorem ev_revT (h : EvD te ρ (.tup ds)) : EvD (dRevT te) ρ (.tup ds.reverse) := fun P p => h _ ⟨ds, rfl, p⟩
theorem ev_yes : EvT dYes ρ true := fun P p => p
/-! values of the operators -/
theorem v_I0 {f : Int → Int → D} {i j : Int} : V2 (rI20 f) ρ (.int i) (.int j) (f i j) := fun P p => ⟨i, j, rfl, rfl, p⟩
theorem v_I {C : Int → Int → Prop} {f : Int → Int → D} {i j : Int} (c : C i j) : V2 (rI2 C f) ρ (.int i) (.int j) (f i j) := fun P p => ⟨i, j, rfl, rfl, c, p⟩
theorem v_addS {s t : List Nat} (h : s.length + t.length ≤ 16777216) : V2 rdAddS ρ (.str s) (.str t) (.str (s ++ t)) := fun P p => ⟨s, t, rfl, rfl, h, p⟩
theorem v_eq (h : seq x y = some b := by rfl) : V2 rdEq ρ x y (.bl b) := fun P p => ⟨b, h, p⟩
theorem v_ne (h : seq x y = some b := by rfl) : V2 rdNe ρ x y (.bl (!b)) := fun P p => ⟨b, h, p⟩
theorem v_eqS {s t : List Nat} : V2 rdEq ρ (.str s) (.str t) (.bl (decide (s = t))) := v_eq rfl
theorem v_eqI {s t : Int} : V2 rdEq ρ (.int s) (.int t) (.bl (decide (s = t))) := v_eq rfl
theorem v_eqB {s t : Bool} : V2 rdEq ρ (.bl s) (.bl t) (.bl (decide (s = t))) := v_eq rfl
theorem v_neS {s t : List Nat} : V2 rdNe ρ (.str s) (.str t) (.bl (!decide (s = t))) := v_ne rfl
theorem v_neI {s t : Int} : V2 rdNe ρ (.int s) (.int t) (.bl (!decide (s = t))) := v_ne rfl
theorem v_inS {c : Nat} {s : List Nat} : V2 rdInS ρ (.str [c]) (.str s) (.bl (decide (c ∈ s))) := fun P p => ⟨c, s, rfl, rfl, p⟩
theorem v_notInS {c : Nat} {s : List Nat} : V2 rdNotInS ρ (.str [c]) (.str s) (.bl (!decide (c ∈ s))) := fun P p => ⟨c, s, rfl, rfl, p⟩
theorem v_isN (h : isNon x = some b := by rfl) : V2 rdIsN ρ x .non (.bl b) := fun P p => ⟨b, rfl, h, p⟩
theorem v_notN (h : isNon x = some b := by rfl) : V2 rdNotN ρ x .non (.bl (!b)) := fun P p => ⟨b, rfl, h, p⟩
theorem v_isN0 : V2 rdIsN ρ .non .non (.bl true) := v_isN rfl
theorem v_isNS {s : List Nat} : V2 rdIsN ρ (.str s) .non (.bl false) := v_isN rfl
theorem v_isNT : V2 rdIsN ρ (.tup ds) .non (.bl false) := v_isN rfl
theorem v_notN0 : V2 rdNotN ρ .non .non (.bl false) := v_notN (b := true) rfl
theorem v_notNS {s : List Nat} : V2 rdNotN ρ (.str s) .non (.bl true) := v_notN (b := false) rfl
theorem v_notNT : V2 rdNotN ρ (.tup ds) .non (.bl true) := v_notN (b := false) rfl
theorem v_eqD {p q : PyData} (h1 : toPy x = some p) (h2 : toPy y = some q) (s1 : SeqAt.shaped p = true) (s2 : SeqAt.shaped q = true) : V2 rdEqD ρ x y (.bl (PyData.eqv p q)) := fun P h => ⟨p, q, h1, h2, s1, s2, h⟩
theorem v_neD {p q : PyData} (h1 : toPy x = some p) (h2 : toPy y = some q) (s1 : SeqAt.shaped p = true) (s2 : SeqAt.shaped q = true) : V2 rdNeD ρ x y (.bl (!PyData.eqv p q)) := fun P h => ⟨p, q, h1, h2, s1, s2, h⟩
theorem v_inL {neg : Bool} {s : List Nat} {l : List (List Nat)} (h : Sees ρ y (.lst (strsD l)) ∨ y = .tup (strsD l) := by exact Or.inl (Or.inl rfl)) : V2 (rdInL neg) ρ (.str s) y (.bl (if neg then !decide (s ∈ l) else decide (s ∈ l))) := fun P p => ⟨s, l, rfl, h, p⟩
theorem v_len {n : Nat} (h : lenD ρ x n) : Vs rdLen ρ [x] (.int n) := fun P p => ⟨x, n, rfl, h, p⟩
theorem v_lenS {s : List Nat} (h : s.length ≤ 16777216) : Vs rdLen ρ [.str s] (.int (s.length : Int)) := v_len (.inl ⟨s, rfl, h, rfl⟩)
theorem v_lenL : Vs rdLen ρ [.lst ds] (.int (ds.length : Int)) := v_len (.inr (.inl ⟨ds, .inl rfl, rfl⟩))
theorem v_lenT : Vs rdLen ρ [.tup ds] (.int (ds.length : Int)) := v_len (.inr (.inr ⟨ds, rfl, rfl⟩))
theorem v_lenC (h : Sees ρ x (.lst ds)) : Vs rdLen ρ [x] (.int (ds.length : Int)) := v_len (.inr (.inl ⟨ds, h, rfl⟩))
theorem v_all {l : List Bool} : Vs rdAll ρ [.lst (bls l)] (.bl (l.all id)) := fun P p => ⟨_, l, rfl, rfl, p⟩
theorem v_any {l : List Bool} : Vs rdAny ρ [.lst (bls l)] (.bl (l.any id)) := fun P p => ⟨_, l, rfl, rfl, p⟩
theorem v_isB {K : PySem.W.Frag} {T n : String} (h1 : tyV K ρ x (.type n)) (h2 : kitB n T = some b) : Vs (rdIsB K T) ρ [x, .raw (.ty T)] (.bl b) := fun P p => ⟨x, n, b, rfl, h1, h2, p⟩
theorem v_isStr {K : PySem.W.Frag} {s : List Nat} : Vs (rdIsB K "str") ρ [.str s, .raw (.ty "str")] (.bl true) := v_isB (n := "str") rfl (by decide +kernel)
theorem v_isTup {K : PySem.W.Frag} : Vs (rdIsB K "tuple") ρ [.tup ds, .raw (.ty "tuple")] (.bl true) := v_isB (n := "tuple") rfl (by decide +kernel)
theorem v_isDct {K : PySem.W.Frag} {ks : List (List Nat)} : Vs (rdIsB K "dict") ρ [.dct ks ds, .raw (.ty "dict")] (.bl true) := v_isB (n := "dict") rfl (by decide +kernel)
theorem v_strNot {K : PySem.W.Frag} {s : List Nat} : Vs (rdIsB K "dict") ρ [.str s, .raw (.ty "dict")] (.bl false) := v_isB (n := "str") rfl (by decide +kernel)
theorem v_isO {K : PySem.W.Frag} {C : Addr} {t : Value} (h1 : tyV K ρ x t) (h2 : PySem.W.kitOne K t (.ref C) = some b) : Vs (rdIsO K) ρ [x, .raw (.ref C)] (.bl b) := fun P p => ⟨x, C, t, b, rfl, h1, h2, p⟩
theorem v_isOself {K : PySem.W.Frag} {C : Addr} {ns : List Str} (i : InsK K C) : Vs (rdIsO K) ρ [.obj C ns ds, .raw (.ref C)] (.bl true) := v_isO (t := .ref C) ⟨rfl, i⟩ (by unfold PySem.W.kitOne; simp)
theorem v_int1 {i : Int} : Vs rdInt1 ρ [.int i] (.int i) := fun P p => .inl ⟨i, rfl, p⟩
theorem v_intb : Vs rdInt1 ρ [.bl b] (.int (if b then 1 else 0)) := fun P p => .inr ⟨b, rfl, p⟩
theorem v_max2 {i j : Int} : Vs rdMax2 ρ [.int i, .int j] (.int (if j > i then j else i)) := fun P p => ⟨i, j, rfl, p⟩
theorem v_min2 {i j : Int} : Vs rdMin2 ρ [.int i, .int j] (.int (if j < i then j else i)) := fun P p => ⟨i, j, rfl, p⟩
theorem v_tupOf (h : Sees ρ x (.lst ds) ∨ x = .tup ds := by exact Or.inl (Or.inl rfl)) : Vs rdTupOf ρ [x] (.tup ds) := fun P p => ⟨x, ds, rfl, h, p⟩
theorem v_lstOf (h : Sees ρ x (.lst ds) ∨ x = .tup ds := by exact Or.inl (Or.inl rfl)) : Vs rdLstOf ρ [x] (.lst ds) := fun P p => ⟨x, ds, rfl, h, p⟩
theorem v_ixL {i : Int} (s : Sees ρ x (.lst ds)) (h : atI ds i = some d) : V2 rdIxL ρ x (.int i) d := fun P p => ⟨ds, i, d, s, rfl, h, p⟩
theorem v_ixT {i : Int} (h : atI ds i = some d) : V2 rdIxT ρ (.tup ds) (.int i) d := fun P p => ⟨ds, i, d, rfl, rfl, h, p⟩
theorem v_ixS {s : List Nat} {i : Int} {c : Nat} (l : s.length ≤ 16777216) (h : atI s i = some c) : V2 rdIxS ρ (.str s) (.int i) (.str [c]) := fun P p => ⟨s, i, c, rfl, rfl, l, h, p⟩
theorem v_join {sep : List Nat} {l : List (List Nat)} (hb : (l.map List.length).sum + l.length * sep.length ≤ 16777216) (h : Sees ρ y (.lst (strsD l)) ∨ y = .tup (strsD l) := by exact Or.inl (Or.inl rfl)) : Vm rdJoin ρ (.str sep) [y] (.str (joinL sep l)) := fun P p => ⟨sep, l, y, rfl, rfl, h, hb, p⟩
theorem v_split {s sep : List Nat} (h1 : sep ≠ []) (h2 : sep.all (· < 256) = true) (h3 : s.length + 2 ≤ 16777216) : Vm rdSplit ρ (.str s) [.str sep] (.lst (strsD (spl sep 0 [] s))) := fun P p => ⟨s, sep, rfl, rfl, h1, h2, h3, p⟩
theorem v_part {s sep : List Nat} (h1 : sep ≠ []) (h3 : s.length ≤ 16777216) : Vm rdPart ρ (.str s) [.str sep] (.tup (strsD (partL sep s))) := fun P p => ⟨s, sep, rfl, rfl, h1, h3, p⟩
theorem v_lower {s : List Nat} (h3 : s.length ≤ 5592405) : Vm rdLower ρ (.str s) [] (.str (lowerL s)) := fun P p => ⟨s, rfl, rfl, h3, p⟩
theorem v_starts {s t : List Nat} : Vm rdStarts ρ (.str s) [.str t] (.bl (pre t s)) := fun P p => ⟨s, t, rfl, rfl, p⟩
theorem v_find {s : List Nat} {c i : Nat} : Vm rdFind ρ (.str s) [.str [c], .int ((i : Nat) : Int)] (.int (findL s c i)) := fun P p => ⟨s, c, i, rfl, rfl, p⟩
theorem v_slS {s : List Nat} {l h : Option Int} (hs : s.length ≤ 16777216) : Vsl rdSlS ρ (.str s) l h (.str (cutL s l h)) := fun P p => ⟨s, rfl, hs, p⟩
theorem v_slT {l h : Option Int} : Vsl rdSlT ρ (.tup ds) l h (.tup (cutL ds l h)) := fun P p => ⟨ds, rfl, p⟩
theorem v_slL {l h : Option Int} (s : Sees ρ x (.lst ds)) : Vsl rdSlL ρ x l h (.lst (cutL ds l h)) := fun P p => ⟨ds, s, p⟩
/-! walks -/
theorem ei_list (h : EvD te ρ (.lst ds)) : EvA (dSeqI te) ρ ds := fun P p => h _ ⟨ds, rfl, p⟩
theorem ei_tup (h : EvD te ρ (.tup ds)) : EvA (dTupI te) ρ ds := fun P p => h _ ⟨ds, rfl, p⟩
theorem ei_str {s : List Nat} (h : EvD te ρ (.str s)) : EvA (dStrI te) ρ (signs s) := fun P p => h _ ⟨s, rfl, p⟩
theorem ei_range1 {j : Int} (h : EvA u ρ [.int j]) (h1 : -(2 ^ 62) ≤ j) (h2 : j < 2 ^ 62) : EvA (dRng1 u) ρ (intsD 0 j.toNat) := fun P p => h _ ⟨j, rfl, h1, h2, p⟩
theorem eg_name {i : Nat} : EvG (dgName i) d ρ (ρ.set i d) := fun P p => p
theorem eg_nil : EvGs dgNil [] ρ ρ := fun P p => ⟨rfl, p⟩
theorem eg_cons {g : DG} {gs : DGs} {ρ1 ρ2 : Rho} (h : EvG g x ρ ρ1) (h2 : EvGs gs ds ρ1 ρ2) : EvGs (dgCons g gs) (x :: ds) ρ ρ2 := fun P p => ⟨x, ds, rfl, h _ (h2 _ p)⟩
theorem eg_tup {gs : DGs} {n : Nat} (h : EvGs gs ds ρ ρ') (hn : ds.length = n := by rfl) : EvG (dgTup n gs) (.tup ds) ρ ρ' := fun P p => ⟨ds, rfl, hn, h _ p⟩
/-- a comprehension -/
theorem ev_lc {α : Type} {wi : DI} {gd : DG} {l : List α} {enc g : α → D} {f : α → Bool} (hi : EvA wi ρ ds) (e : ds = l.map enc) (hl : l.length ≤ 16777216)
    (turn : ∀ x ∈ l, ∃ ρ', EvG gd (enc x) ρ ρ' ∧ ρ'.os = ρ.os ∧ ρ'.lo = ρ.lo ∧ EvT ua ρ' (f x) ∧ (f x = true → EvD te ρ' (g x))) : EvD (dLc wi gd ua te) ρ (.lst ((l.filter f).map g)) := fun P p => hi _ (by
  subst e
  have bk : ∀ {ρ' : Rho}, ρ'.os = ρ.os → ρ'.lo = ρ.lo → ρ'.back ρ = ρ := fun {ρ'} h1 h2 => by
    cases ρ'; cases ρ
    dsimp only at h1 h2
    subst h1 h2
    rfl
  refine ⟨fun j acc ρ2 => ρ2 = ρ ∧ acc = ((l.take j).filter f).map g, ⟨rfl, by simp⟩, ?_, ?_⟩
  · rintro j acc d ρ2 hd _ ⟨rfl, rfl⟩
    rw [List.getElem?_map] at hd
    cases hx : l[j]? with
    | none => rw [hx] at hd; cases hd
    | some x =>
      rw [hx] at hd
      cases hd
      have hj : j < l.length := (List.getElem?_eq_some_iff.mp hx).1
      obtain ⟨ρ', h1, h2, h3, h4, h5⟩ := turn x (List.mem_of_getElem? hx)
      refine ⟨?_, h1 _ (h4 _ ?_)⟩
      · have := List.length_filter_le f (l.take j)
        rw [List.length_map]
        rw [List.length_take] at this
        omega
      · have tk : l.take (j + 1) = l.take j ++ [x] := by
          rw [List.take_add_one, hx]
          rfl
        cases q : f x with
        | true =>
          (try dsimp only); refine iteT ?_; refine h5 q _ ⟨bk h2 h3, ?_⟩
          rw [tk]
          simp [q]
        | false =>
          (try dsimp only); refine iteF ?_; refine ⟨bk h2 h3, ?_⟩
          rw [tk]
          simp [q]
  · rintro acc ρ2 _ ⟨rfl, rfl⟩
    have z : (l.map enc).length = l.length := by simp
    rw [z, List.take_length]
    exact p)
/-- .. without a test -/
theorem ev_lc' {α : Type} {wi : DI} {gd : DG} {l : List α} {enc g : α → D} (hi : EvA wi ρ ds) (e : ds = l.map enc) (hl : l.length ≤ 16777216)
    (turn : ∀ x ∈ l, ∃ ρ', EvG gd (enc x) ρ ρ' ∧ ρ'.os = ρ.os ∧ ρ'.lo = ρ.lo ∧ EvD te ρ' (g x)) : EvD (dLc wi gd dYes te) ρ (.lst (l.map g)) := by
  have h := ev_lc (ua := dYes) (f := fun _ => true) hi e hl fun x hx => by
    obtain ⟨ρ', h1, h2, h3, h4⟩ := turn x hx
    exact ⟨ρ', h1, h2, h3, ev_yes, fun _ => h4⟩
  have z : l.filter (fun _ => true) = l := by simp
  rw [z] at h
  exact h
/-! statements -/
variable {t v : DS} {P : PoS} {g : DG}
theorem s_ret (h : EvD te ρ d) (p : P.rt d ρ) : dRet te ρ P := h _ p
theorem s_set (h : EvD te ρ d) (p : EvG g d ρ ρ') (q : P.nx ρ') : dSet te g ρ P := h _ (p _ q)
theorem q_set (h : EvD te ρ d) (p : EvG g d ρ ρ') (q : v ρ' P) : dSeq (dSet te g) v ρ P := h _ (p _ q)
theorem s_if (h : EvT ua ρ b) (h1 : b = true → t ρ P) (h2 : b = false → v ρ P) : dIfS ua t v ρ P := h _ (by
  cases b with
  | true => (try dsimp only); refine iteT ?_; exact h1 rfl
  | false => (try dsimp only); refine iteF ?_; exact h2 rfl)
theorem q_if {k : DS} (h : EvT ua ρ b) (h1 : b = true → t ρ { P with nx := fun ρ1 => k ρ1 P }) (h2 : b = false → v ρ { P with nx := fun ρ1 => k ρ1 P }) : dSeq (dIfS ua t v) k ρ P := s_if h h1 h2
theorem q_next (h : v ρ P) : dSeq dNext v ρ P := h
theorem q_seq (h : t ρ { P with nx := fun ρ1 => v ρ1 P }) : dSeq t v ρ P := h
theorem s_next (h : P.nx ρ) : dNext ρ P := h
theorem s_for {wi : DI} {tb : DS} (h : EvA wi ρ ds) (W : Nat → Rho → Prop) (w0 : W 0 ρ) (turn : ∀ i d ρ2, ds[i]? = some d → W i ρ2 → g d ρ2 fun ρ3 => tb ρ3 { nx := W (i + 1), ct := W (i + 1), bk := P.nx, rt := P.rt, ex := P.ex })
    (fin : ∀ ρ2, W ds.length ρ2 → P.nx ρ2) : dFor wi g tb ρ P := h _ ⟨W, w0, turn, fin⟩
theorem s_while {tb : DS} (W : Nat → Rho → Prop) (m : Nat) (w0 : W m ρ) (turn : ∀ m ρ, W m ρ → ∃ b, EvT ua ρ b ∧ (b = true → tb ρ { nx := fun ρ2 => ∃ m', m' < m ∧ W m' ρ2, ct := fun ρ2 => ∃ m', m' < m ∧ W m' ρ2, bk := P.nx, rt := P.rt, ex := P.ex }) ∧ (b = false → P.nx ρ)) : dWhile ua tb ρ P :=
  ⟨W, ⟨m, w0⟩, fun m ρ w => by
    obtain ⟨b, h1, h2, h3⟩ := turn m ρ w
    refine h1 _ ?_
    cases b with
    | true => (try dsimp only); refine iteT ?_; exact h2 rfl
    | false => (try dsimp only); exact iteF (h3 rfl)⟩
/-! defs that compute -/
def Fn {α : Type} (enc : α → List D) (pr : α → Prop) (out : α → D) : DF := fun ds os P => ∃ x, ds = enc x ∧ pr x ∧ P.ok (out x) os
theorem ev_fn {α : Type} {enc : α → List D} {pr : α → Prop} {out : α → D} (a : α) (h : EvA u ρ (enc a)) (p : pr a) : EvD (dCall0 (Fn enc pr out) u) ρ (out a) := fun P q => h _ ⟨a, rfl, p, q⟩
end
/-! ### names of the machine's -/
theorem px_ty {X : Cx} {E : XK} {x : Str} {T : String} {pos : Pos} (hm : X.mg x = none) (hv : bootBuiltins x = some (.type T)) (hg : Gl X x := by rfl) (hn : x ≠ "__name__" := by decide) (hd : (x == ("__debug__" : Str)) = false := by decide) : PX X E (.Name x pos) (dC (.raw (.ty T))) :=
  px_c (pe_bltn hg hm hv (show RelV (.ty T) _ from rfl) hn hd) fun _ => rfl
theorem px_gintE {X : Cx} {E : XK} {x : Str} {i : Int} {pos : Pos} (hm : ∃ t, X.mg x = some (.int i t)) (hg : Gl X x := by rfl) (hd : (x == ("__debug__" : Str)) = false := by decide) : PX X E (.Name x pos) (dC (.int i)) := by
  obtain ⟨t, hm⟩ := hm
  exact px_gint hm hg hd
theorem px_gstrE {X : Cx} {E : XK} {x z : Str} {pos : Pos} (hm : ∃ t, X.mg x = some (.str z t)) (hg : Gl X x := by rfl) (hd : (x == ("__debug__" : Str)) = false := by decide) : PX X E (.Name x pos) (dC (.str (tl z))) := by
  obtain ⟨t, hm⟩ := hm
  exact px_gstr (s := tl z) (t := t) (hm.trans (congrArg (fun y => some (Value.str y t)) (mk_tl z).symm)) hg hd
end DL

set_option Elab.async false
set_option linter.all false
set_option maxRecDepth 100000
set_option maxHeartbeats 2000000
namespace DL
open PySem PySem.Spec PyProof PyProof.Rows L2 TL

/-! ### enumerate(text) -/
def Ites (z : Str) : It :=
  ⟨fun i H => i < z.cps.size, fun i H v H' => ∃ T c, v = .ref T ∧ H T = none ∧ H' = upd H T (.tup [.int (i : Nat), .str ⟨#[c]⟩]) ∧ z.cps[i]? = some c, fun i H => z.cps.size ≤ i⟩
theorem draws_str {P : Program} {w : World} {A : Around} (hh : A.handled = none) (it : Addr) (x : Str) (t : Tok) :
    Draws P w A it [it] x.cps.size (fun i v => ∃ c u, x.cps[i]? = some c ∧ v = .str ⟨#[c]⟩ u) (fun i h => h.IsStrIter it (strIterType x) x t i) := by
  by_cases a : x.cps.all (· < 128) = true
  · have e : strIterType x = "str_ascii_iterator" := by unfold strIterType; rw [if_pos a]
    rw [e]; exact Draws.strAscii hh it x t
  · have e : strIterType x = "str_iterator" := by unfold strIterType; rw [if_neg a]
    rw [e]; exact Draws.strWide hh it x t
theorem turn_enumS {P : Program} {w : World} {K : PySem.W.Frag} {elts : List Expr} {kk : Nat} {tpos : Pos} (z : Str) (t : Tok) (e it : Addr) :
    Turn P w K (.Tuple elts kk tpos) (Ites z) [e, it] e (fun i h => (∃ old, IsEnum h e it ((i : Nat) : Int) old) ∧ h.IsStrIter it (strIterType z) z t i ∧ e ≠ it ∧ i ≤ z.cps.size) where
  mem := by simp
  obj := fun i h st b hb => by
    obtain ⟨⟨old, he⟩, ⟨o, ho, hc, hd⟩, _⟩ := st
    rcases (by simpa using hb : b = e ∨ b = it) with q | q
    · rw [q]; exact ⟨_, he, fun v z => nomatch z⟩
    · rw [q]; exact ⟨o, ho, fun v z => by rw [hd] at z; cases z⟩
  keep := fun i h h' st k => by
    obtain ⟨⟨old, he⟩, ⟨o, ho, r⟩, hne, hle⟩ := st
    exact ⟨⟨old, k e (by simp) _ he⟩, ⟨o, k it (by simp) o ho, r⟩, hne, hle⟩
  item := by
    intro X hP hw hK hc i pins s σ H E I hf st hg
    subst hP hw hK
    obtain ⟨⟨old, he⟩, hit, hne, _⟩ := st
    have hg : i < z.cps.size := hg
    have hel : e < s.heap.objs.size := Heap.lt_size he
    have hil : it < s.heap.objs.size := by obtain ⟨_, q, _⟩ := hit; exact Heap.lt_size q
    refine wpAny_pyNext_enum_itemD (draws_str (P := X.prog) (w := X.w) (A := X.A.in1) (I.ok.hd hc) it z t) he hit hg hne (by simpa using hne) fun x h' tk px ho hit' hT hsz hk => ?_
    obtain ⟨c, u, hx, ex⟩ := px
    subst ex
    refine ⟨_, rfl, wpAny_letOwnedTupleGo_enum (s := { s with heap := h', toks := tk + 1 }) ho fun h'' he' sb => ?_⟩
    have hT2 := (sb.2 _ (Nat.ne_of_gt hel)).trans hT
    have new : ObjOk X.prog X.w (upd H s.heap.objs.size (.tup [.int (i : Nat), .str ⟨#[c]⟩])) h'' s.heap.objs.size (.tup [.int (i : Nat), .str ⟨#[c]⟩]) :=
      ⟨by show 2 ≤ sizeLine; decide, _, .cons ⟨_, rfl⟩ (.cons ⟨_, rfl⟩ .nil), ⟨_, hT2, rfl, _, rfl⟩⟩
    have I1 := I.turnedNew (ch := [e, it]) (h' := h'') (t' := tk + 1) (fun b ob hb q => (sb.2 b (fun y => hb (by simp [y]))).trans (hk b ob (fun y => hb (by simp [y])) (fun y => hb (by simp [y])) q)) hf (Nat.le_refl _) new
    refine ⟨.ref s.heap.objs.size, _, I1, rfl, ⟨_, c, rfl, I.hok.fresh (Nat.le_refl _), rfl, hx⟩, ⟨⟨.str ⟨#[c]⟩ u, ?_⟩, ?_, hne, hg⟩, fun b hb => ?_⟩
    · have e1 : ((i + 1 : Nat) : Int) = (i : Int) + 1 := by omega
      rw [e1]; exact he'
    · obtain ⟨o, q, r⟩ := hit'
      exact ⟨o, (sb.2 it (Ne.symm hne)).trans q, r⟩
    · have hb' : b < s.heap.objs.size := by
        rcases (by simpa using hb : b = e ∨ b = it) with q | q
        · rw [q]; exact hel
        · rw [q]; exact hil
      rw [upd_ne (Nat.ne_of_lt hb')]
      exact (hf b hb).1
  done := by
    intro X hP hw hK hc i pins s σ H E I hf st hg
    subst hP hw hK
    obtain ⟨⟨old, he⟩, hit, hne, hle⟩ := st
    have hg : z.cps.size ≤ i := hg
    obtain rfl : i = z.cps.size := Nat.le_antisymm hle hg
    obtain ⟨f0, f1, f2, f3, f4, f5⟩ := hf it (by simp)
    exact wpAny_pyNext_enum_endD (draws_str (P := X.prog) (w := X.w) (A := X.A.in1) (I.ok.hd hc) it z t) he hit fun h' eb => ⟨rfl, I.turned (t' := s.toks) (fun b o hb q => eb b o hb q) f0 f1 f3 f4 f5⟩
  self := fun A i s Q E st h => let ⟨⟨_, he⟩, _⟩ := st; wpAny_pyIter_enum he h
def iEnumS (ta : TA) : TI := fun σ H R => ta σ H fun vs H1 => ∃ z, vs = [.str z] ∧ R (Ites z) H1
theorem pi_enumS {X : Cx} {e : Expr} {ta : TA} {p pos tpos : Pos} {elts : List Expr} {kk : Nat} (hg : Gl X "enumerate") (hm : X.mg "enumerate" = none) (ha : PA X [e] ta) (hs : starEach [e] X.env = [(false, eval e X.env)] := by rfl) :
    PI X (.Tuple elts kk tpos) (.Call (.Name "enumerate" p) [e] [] pos) (iEnumS ta) := by
  refine ⟨fun pins s σ H R I h => ?_⟩
  refine Call_ (ld_blt I hg hm boot_enumerate (PyProof.Rows.callWith_type1 (thn (ha.run pos pins s σ H _ I h) fun us s1 ⟨vs, H1, I1, r1, z, ez, q⟩ => ?_) hs rfl))
  subst ez
  cases r1 with
  | cons r rr =>
    cases rr
    obtain ⟨t, rfl⟩ := r
    refine call_enumerate_str fun h' he hit hsz hk => wpAny_pyIter_enum he ?_
    have I2 : Inv X pins σ H1 { s1 with heap := h' } := I1.kept (t' := s1.toks) hk
    refine ⟨s1.heap.objs.size + 1, [s1.heap.objs.size + 1, s1.heap.objs.size], _, _, H1, rfl, I2, turn_enumS z t (s1.heap.objs.size + 1) s1.heap.objs.size, ⟨⟨.none, he⟩, hit, Nat.succ_ne_self _, Nat.zero_le _⟩, fun b hb => ?_, q⟩
    have hle : s1.heap.objs.size ≤ b := by
      rcases (by simpa using hb : b = s1.heap.objs.size + 1 ∨ b = s1.heap.objs.size) with y | y
      · rw [y]; exact Nat.le_add_right _ _
      · rw [y]; exact Nat.le_refl _
    exact I1.fpOk hle (I1.hok.fresh hle)
/-- the turns' pairs -/
def enumD (s : List Nat) : List D := s.mapIdx fun (i : Nat) c => D.tup [.int (i : Int), .str [c]]
def dEnumS (u : DA) : DI := fun ρ P => u ρ ⟨fun ds ρ1 => ∃ s, ds = [.str s] ∧ P.ok (enumD s) ρ1, P.ex⟩
theorem walkD_enumS {K : PySem.W.Frag} {F : Hp} {s : List Nat} : WalkD K (Ites (mkS s)) F (enumD s) := by
  have n : (enumD s).length = s.length := by simp [enumD]
  refine ⟨fun i H F' hi l f => ?_, fun H F' l f => ?_, fun i H x H' F' hi l f y => ?_⟩
  · show i < (mkS s).cps.size
    simp only [List.size_toArray]
    omega
  · show (mkS s).cps.size ≤ _
    simp only [List.size_toArray]
    omega
  · obtain ⟨T, c, ex, hT, eH, hc⟩ := y
    have hc : s[i]? = some c := by simpa using hc
    refine ⟨.tup [.int (i : Int), .str [c]], ?_, .inr ⟨T, _, _, hT, eH, ex, rfl, ?_⟩⟩
    · unfold enumD
      rw [List.getElem?_mapIdx, hc]
      rfl
    · exact Reps.cons (d := .int i) rfl (Reps.one (d := .str [c]) rfl)
section
variable {X : Cx} {E : XK} {ρ : Rho}
theorem ix_enumS {e : Expr} {u : DA} {p pos tpos : Pos} {elts : List Expr} {kk : Nat} (hm : X.mg "enumerate" = none) (ha : PXA X E [e] u) (hg : Gl X "enumerate" := by rfl) (hs : starEach [e] X.env = [(false, eval e X.env)] := by rfl) :
    PXI X E (.Tuple elts kk tpos) (.Call (.Name "enumerate" p) [e] [] pos) (dEnumS u) :=
  PI.weak (pi_enumS hg hm ha hs) fun σ H Q ⟨G, F, ρ, P, env, q, k, x⟩ => ⟨G, F, ρ, _, env, q, fun F1 H1 ds vs ρ1 l1 env1 r1 ⟨s, ed, q1⟩ => by
    subst ed
    obtain ⟨v, ev, r⟩ := reps1 r1
    cases r
    exact ⟨mkS s, ev, k F1 H1 _ ρ1 _ l1 env1 walkD_enumS q1⟩, x⟩
theorem ei_enumS {u : DA} {s : List Nat} (h : EvA u ρ [.str s]) : EvA (dEnumS u) ρ (enumD s) := fun P p => h _ ⟨s, rfl, p⟩

end
end DL

set_option Elab.async false
set_option linter.all false
set_option maxRecDepth 100000
set_option maxHeartbeats 2000000
namespace DL
open PySem PySem.Spec PyProof PyProof.Rows L2 TL

section
variable {X : Cx} {E : XK} {ρ : Rho} {K : PySem.W.Frag}
/-! ### list + list -/
def rCatR : R2 := fun x y H Q => ∃ l b xs zs, x = .ref l ∧ y = .ref b ∧ Rd H l (.lst xs) ∧ Rd H b (.lst zs) ∧ xs.length + zs.length ≤ sizeLine ∧ ∀ p, H p = none → Q (.ref p) (upd H p (.lst (xs ++ zs)))
theorem op_catL : OpR X (binaryOp .Add) rCatR := by
  intro pins s σ H x y v u Q I rx ry h
  obtain ⟨l, b, xs, zs, rfl, rfl, hH, hB, hz, q⟩ := h
  cases rx
  cases ry
  obtain ⟨z, its, n, r, e⟩ := hH.ok I.hok
  obtain ⟨z2, its2, n2, r2, e2⟩ := hB.ok I.hok
  have hl := r.length
  have hl2 := r2.length
  refine PySem.P.add_list e e2 ?_ (by rw [List.size_toArray, List.size_toArray]; omega)
  have ea : its.toArray ++ its2.toArray = (its ++ its2).toArray := by simp
  rw [ea]
  exact ⟨.ref _, _, I.lnew (t' := s.toks) (r.append r2) (by rw [List.length_append]; omega), rfl, q _ I.fresh⟩
def rdCatL : DR2 := fun ρ x y P => ∃ xs ys, Sees ρ x (.lst xs) ∧ Sees ρ y (.lst ys) ∧ xs.length + ys.length ≤ 16777216 ∧ P (.lst (xs ++ ys))
theorem l_catL : Lift2 K rCatR rdCatL := fun G F H σ ρ d1 d2 v1 v2 P Q env r1 r2 ⟨xs, ys, s1, s2, hz, p⟩ k => by
  obtain ⟨a, vs, ev, h1, rs⟩ := env.lstR s1 r1
  obtain ⟨b, ws, ew, h2, rs2⟩ := env.lstR s2 r2
  refine ⟨a, b, vs, ws, ev, ew, h1, h2, by rw [← rs.length, ← rs2.length, sizeLine_eq]; exact hz, fun a0 hp => ?_⟩
  have g := Grow.alloc (o := .lst (vs ++ ws)) env.fit hp
  exact k _ _ (.lst (xs ++ ys)) _ g (rep_newL (none_sub env.fit hp) (rs.app rs2)) p
theorem v_catL {x y : D} {xs ys : List D} (s1 : Sees ρ x (.lst xs)) (s2 : Sees ρ y (.lst ys)) (h : xs.length + ys.length ≤ 16777216) : V2 rdCatL ρ x y (.lst (xs ++ ys)) := fun P p => ⟨xs, ys, s1, s2, h, p⟩

/-! ### text * int -/
theorem rep_foldl (s : Array Nat) : ∀ (n : Nat) (a : Array Nat), ((List.replicate n s).foldl (· ++ ·) a).toList = a.toList ++ (List.replicate n s.toList).flatten
  | 0, a => by simp
  | n + 1, a => by
    rw [List.replicate_succ, List.foldl_cons, rep_foldl s n (a ++ s), List.replicate_succ, List.flatten_cons]
    simp
def rRepS : R2 := fun x y H Q => ∃ (s : List Nat) (n : Nat), x = .str (mkS s) ∧ y = .int (n : Int) ∧ s.length * n ≤ 16777216 ∧ n ≤ 16777216 ∧ Q (.str (mkS (List.replicate n s).flatten)) H
theorem op_repS : OpR X (binaryOp .Mult) rRepS := by
  intro pins s σ H x y v u Q I rx ry h
  obtain ⟨c, n, rfl, rfl, hz, hn, q⟩ := h
  obtain ⟨t, rfl⟩ := rx
  obtain ⟨t2, rfl⟩ := ry
  have hlen : (mkS c).length = c.length := mkS_len c
  refine PySem.P.mul_str (n := (n : Int)) ?_ ?_ ?_ ?_
  · have h1 : ¬ ((n : Int) < -(2 ^ 63 : Int)) := by omega
    have h2 : ¬ ((n : Int) ≥ 2 ^ 63) := by omega
    rw [decide_eq_false h1, decide_eq_false h2]; rfl
  · intro h1 _ h3
    have : (2 ^ 63 - 1) / (n : Int) ≥ 16777216 * 1000 := by
      apply (Int.le_ediv_iff_mul_le (by omega)).mpr
      omega
    rw [hlen] at h3
    have : c.length ≤ 16777216 := by
      have : c.length * 1 ≤ c.length * n := Nat.mul_le_mul_left _ (by omega)
      omega
    omega
  · intro _ _
    rw [hlen]
    unfold Builtin.Str.tooLong
    have e := sizeLine_eq
    simp
    omega
  · have fin : ∀ (z : Str) (t : Tok) (s' : Shared), z = mkS (List.replicate n c).flatten → Inv X pins σ H s' → ∃ w H', Inv X pins σ H' s' ∧ RelV w (.str z t) ∧ Q w H' := fun z t s' e I' => ⟨.str z, H, I', ⟨t, rfl⟩, by rw [e]; exact q⟩
    by_cases h0 : (n : Int) < 1
    · rw [if_pos h0]
      have hn0 : n = 0 := by omega
      subst hn0
      refine ⟨by decide, ?_⟩
      obtain ⟨w, H', h1, h2, h3⟩ := fin Str.empty s.toks { s with toks := s.toks + 1 } rfl (I.tok _)
      exact ⟨w, H', h1, h2, h3⟩
    · rw [if_neg h0]
      by_cases h1 : ((n : Int) == 1 || (mkS c).length == 0) = true
      · rw [if_pos h1]
        have e : mkS c = mkS (List.replicate n c).flatten := by
          rw [hlen] at h1
          rcases (by simpa using h1 : (n : Int) = 1 ∨ c = []) with z | z
          · have : n = 1 := by omega
            subst this
            simp
          · subst z
            simp
        obtain ⟨w, H', h1, h2, h3⟩ := fin _ t s e I
        exact ⟨w, H', h1, h2, h3⟩
      · rw [if_neg h1]
        have e : (⟨(List.replicate (n : Int).toNat (mkS c).cps).foldl (· ++ ·) #[]⟩ : Str) = mkS (List.replicate n c).flatten := by
          apply ext_tl
          show ((List.replicate (n : Int).toNat (mkS c).cps).foldl (· ++ ·) #[]).toList = _
          rw [rep_foldl]
          simp
        rw [e]
        refine ⟨?_, ?_⟩
        · rw [mkS_len, sizeLine_eq]
          have : ((List.replicate n c).flatten).length = n * c.length := by simp
          rw [this, Nat.mul_comm]
          exact hz
        · obtain ⟨w, H', h1, h2, h3⟩ := fin _ s.toks { s with toks := s.toks + 1 } rfl (I.tok _)
          exact ⟨w, H', h1, h2, h3⟩
def rdRepS : DR2 := fun _ x y P => ∃ s n, x = .str s ∧ y = .int ((n : Nat) : Int) ∧ s.length * n ≤ 16777216 ∧ n ≤ 16777216 ∧ P (.str (List.replicate n s).flatten)
theorem l_repS : Lift2 K rRepS rdRepS := l2_of fun G F H σ ρ d1 d2 v1 v2 P Q env r1 r2 ⟨s, n, e1, e2, h1, h2, p⟩ k => by
  subst e1 e2
  cases r1
  cases r2
  exact ⟨s, n, rfl, rfl, h1, h2, k (.str _) _ rfl p⟩
theorem v_repS {s : List Nat} {n : Nat} {i : Int} (e : i = (n : Int)) (h1 : s.length * n ≤ 16777216) (h2 : n ≤ 16777216) : V2 rdRepS ρ (.str s) (.int i) (.str (List.replicate n s).flatten) := fun P p => by subst e; exact ⟨s, n, rfl, rfl, h1, h2, p⟩

/-! ### integers of any size -/
abbrev rdDivW : DR2 := rI2 CDivW fun i j => .int (i / j)
theorem l_fdivW : Lift2 K (rI CDivW fun i j => .int (i / j)) rdDivW := l_I fun _ _ _ => rfl

/-! ### sorted, list of a dict -/
theorem keys_zip : ∀ {ks : List (List Nat)} {vs : List V}, ks.length = vs.length → ((ks.map keyV).zip vs).map (·.1) = (ks.map mkS).map Sum.inr
  | [], [], _ => rfl
  | k :: ks, v :: vs, h => by
    have h : ks.length = vs.length := by simpa using h
    rw [List.map_cons, List.zip_cons_cons, List.map_cons, keys_zip h]
    rfl
def rdSortD : DRs := fun ρ ds P => ∃ d ks xs, ds = [d] ∧ Sees ρ d (.dct ks xs) ∧ ks.length < 64 ∧ ∀ l : List (List Nat), l.Perm ks → sortedS (l.map mkS) = true → P (.lst (strsD l))
theorem perm_mkS {ys : List Str} {l : List (List Nat)} (h : ys.Perm (l.map mkS)) : ∃ m : List (List Nat), ys = m.map mkS ∧ m.Perm l := by
  refine ⟨ys.map tl, ?_, ?_⟩
  · rw [List.map_map]
    conv => lhs; rw [← List.map_id ys]
    exact List.map_congr_left fun z _ => (mk_tl z).symm
  · have := h.map tl
    rw [List.map_map] at this
    have e : (l.map (tl ∘ mkS)) = l := by
      conv => rhs; rw [← List.map_id l]
      exact List.map_congr_left fun z _ => rfl
    rw [e] at this
    exact this
theorem l_sortD : LiftC K (fun xs H Q => ∃ (a : Addr) (kvs : List (Key × V)) (ks : List Str), xs = [.ref a] ∧ Rd H a (.dK kvs) ∧ kvs.map (·.1) = ks.map Sum.inr ∧ ks.length < 64 ∧
    ∀ ys p, ys.Perm ks → sortedS ys = true → H p = none → Q (.ref p) (upd H p (.lst (ys.map V.str)))) rdSortD := fun G F H σ ρ ds vs P Q env r ⟨d, ks, xs, e, s, h64, p⟩ k => by
  subst e
  obtain ⟨v, ev, r0⟩ := reps1 r
  subst ev
  obtain ⟨a, ws, ea, hn, hd, rs⟩ := env.dct s r0
  subst ea
  refine ⟨a, _, ks.map mkS, rfl, hd, keys_zip (hn.trans rs.length), by rw [List.length_map]; exact h64, fun ys q hp hs hq => ?_⟩
  obtain ⟨m, e, hm⟩ := perm_mkS hp
  subst e
  have g := Grow.alloc (o := .lst ((m.map mkS).map V.str)) env.fit hq
  refine k _ _ (.lst (strsD m)) _ g (rep_newL (none_sub env.fit hq) ?_) (p m hm hs)
  have := strs_reps (K := K) (F := F) m
  rw [List.map_map]
  exact this
def rdSortS : DRs := fun ρ ds P => ∃ d l, ds = [d] ∧ Sees ρ d (.lst (strsD l)) ∧ l.length < 64 ∧ ∀ m : List (List Nat), m.Perm l → sortedS (m.map mkS) = true → P (.lst (strsD m))
theorem l_sortS : LiftC K (rSortedS K) rdSortS := fun G F H σ ρ ds vs P Q env r ⟨d, l, e, s, h64, p⟩ k => by
  subst e
  obtain ⟨v, ev, r0⟩ := reps1 r
  subst ev
  obtain ⟨a, ws, ea, hd, rs⟩ := env.lst s r0
  subst ea
  have ew := reps_strs rs
  subst ew
  refine ⟨a, l.map mkS, rfl, by rw [List.map_map]; exact hd, by rw [List.length_map]; exact h64, fun ys q hp hs hq => ?_⟩
  obtain ⟨m, e, hm⟩ := perm_mkS hp
  subst e
  have g := Grow.alloc (o := .lst ((m.map mkS).map V.str)) env.fit hq
  refine k _ _ (.lst (strsD m)) _ g (rep_newL (none_sub env.fit hq) ?_) (p m hm hs)
  have := strs_reps (K := K) (F := F) m
  rw [List.map_map]
  exact this
/-- pairs of texts: in some order -/
def pairsD (l : List (List Nat × List Nat)) : List D := l.map fun p => D.tup [.str p.1, .str p.2]
def encP (p : List Nat × List Nat) : PyData := .tuple [.str (mkS p.1), .str (mkS p.2)]
def rSortedP2 (K : PySem.W.Frag) : List V → Hp → VK → Prop := fun vs H Q => ∃ (a : Addr) (xs : List V) (ds : List D) (l : List (List Nat × List Nat)) (F : Hp), vs = [.ref a] ∧ Rd H a (.lst xs) ∧ (∀ a u, F a = some u → H a = some u) ∧ Reps K F (pairsD l) xs ∧
  ∀ (ys : List V) (p : Addr), Reps K F (pairsD (l.mergeSort (PySem.W.dataLe false encP))) ys → H p = none → Q (.ref p) (upd H p (.lst ys))
theorem cr_sortedP2 (hu : X.A.units + 64 < cLine) : CallR X (.builtin "sorted") (rSortedP2 X.K) := by
  intro pins s σ H vs us Q I r h
  obtain ⟨a, xs, ds, l, F, rfl, hs, fit, rs, q⟩ := h
  obtain ⟨z, its, n, rv, e⟩ := hs.ok I.hok
  rw [Vals.ref1 r]
  have rd : ∀ {l : List (List Nat × List Nat)} {xs : List V} {its : List Value}, Reps X.K F (pairsD l) xs → Vals xs its → PySem.W.EachIs (fun u b => ∃ v, RelV v u ∧ Rep X.K F (.tup [.str b.1, .str b.2]) v) its l := by
    intro l
    induction l with
    | nil => intro xs its h r; cases h; cases r; exact .nil
    | cons b l ih =>
      intro xs its h r
      obtain ⟨v, w, e, r1, r2⟩ := h
      subst e
      cases r with
      | cons r3 r4 => exact .cons ⟨v, r3, r1⟩ (ih r2 r4)
  have back : ∀ {l : List (List Nat × List Nat)} {its : List Value}, PySem.W.EachIs (fun u b => ∃ v, RelV v u ∧ Rep X.K F (.tup [.str b.1, .str b.2]) v) its l → ∃ xs, Vals xs its ∧ Reps X.K F (pairsD l) xs := by
    intro l its h
    induction h with
    | nil => exact ⟨[], .nil, rfl⟩
    | cons h1 _ ih =>
      obtain ⟨v, r1, r2⟩ := h1
      obtain ⟨xs, r3, r4⟩ := ih
      exact ⟨v :: xs, .cons r1 r3, v, xs, rfl, r2, r4⟩
  have E1 := rd rs rv
  have hlen : l.length = xs.length := by rw [← rs.length]; simp [pairsD]
  have E2 : PySem.W.EachIs (fun u b => ∃ as, Reads s.heap u (encP b) as) its l := E1.mono fun u b ⟨v, r1, r2⟩ => Dp.reads I (encP b) v u (dp_of fit (show toPy (.tup [.str b.1, .str b.2]) = some (encP b) from rfl) r2) r1
  have U : ∀ b, b ∈ l → X.A.units + 2 + (encP b).depth < cLine := fun b _ => by
    have : (encP b).depth ≤ 10 := by
      show (PyData.tuple [PyData.str (mkS b.1), PyData.str (mkS b.2)]).depth ≤ 10
      simp [PyData.depth, PyData.depthAll]
    omega
  refine PySem.W.sorted_data (enc := encP) ⟨_, e, rfl, _, rfl⟩ E1 E2 (PySem.W.AllAlike.of fun _ _ => rfl) (PySem.W.Sortable.tuples fun b => ⟨_, _, rfl⟩) (by rw [hlen]; exact z) U fun out ho eo => ?_
  obtain ⟨ys, r1, r2⟩ := back eo
  obtain ⟨ep, he'⟩ := PyProof.Rows.sortedAll_at s.heap its (List.toArray out)
  have hl2 : ys.length ≤ sizeLine := by
    have h1 := r1.length
    rw [h1, ho, hlen]; exact z
  exact ⟨.ref _, upd H (s.heap.objs.size + 1) (.lst ys), I.laid (t' := s.toks) (fun _ _ => PyProof.Rows.sortedAll_old) (Nat.le_succ _) ⟨hl2, out, ep, r1, he'⟩, rfl, q ys _ r2 (I.hok.fresh (Nat.le_succ _))⟩
def rdSortP : DRs := fun ρ ds P => ∃ d l, ds = [d] ∧ Sees ρ d (.lst (pairsD l)) ∧ P (.lst (pairsD (l.mergeSort (PySem.W.dataLe false encP))))
theorem l_sortP : LiftC K (rSortedP2 K) rdSortP := fun G F H σ ρ ds vs P Q env r ⟨d, l, e, s, p⟩ k => by
  subst e
  obtain ⟨v, ev, r0⟩ := reps1 r
  subst ev
  obtain ⟨a, ws, ea, hd, rs⟩ := env.lstR s r0
  subst ea
  refine ⟨a, ws, pairsD l, l, F, rfl, hd, env.fit, rs, fun ys q hr hq => ?_⟩
  have g := Grow.alloc (o := .lst ys) env.fit hq
  exact k _ _ _ _ g (rep_newL (none_sub env.fit hq) hr) p
theorem v_sortP {x : D} {l : List (List Nat × List Nat)} (s : Sees ρ x (.lst (pairsD l))) : Vs rdSortP ρ [x] (.lst (pairsD (l.mergeSort (PySem.W.dataLe false encP)))) := fun P p => ⟨x, l, rfl, s, p⟩
def rdLstD : DRs := fun ρ ds P => ∃ d ks xs, ds = [d] ∧ Sees ρ d (.dct ks xs) ∧ P (.lst (strsD ks))
theorem zip_keys : ∀ {ks : List (List Nat)} {vs : List V}, ks.length = vs.length → (((ks.map keyV).zip vs).map fun kv => kV kv.1) = ks.map fun s => V.str (mkS s)
  | [], [], _ => rfl
  | k :: ks, v :: vs, h => by
    have h : ks.length = vs.length := by simpa using h
    rw [List.map_cons, List.zip_cons_cons, List.map_cons, zip_keys h]
    rfl
theorem l_lstD : LiftC K (fun xs H Q => ∃ (a : Addr) (kvs : List (Key × V)), xs = [.ref a] ∧ Rd H a (.dK kvs) ∧ ∀ p, H p = none → Q (.ref p) (upd H p (.lst (kvs.map fun kv => kV kv.1)))) rdLstD := fun G F H σ ρ ds vs P Q env r ⟨d, ks, xs, e, s, p⟩ k => by
  subst e
  obtain ⟨v, ev, r0⟩ := reps1 r
  subst ev
  obtain ⟨a, ws, ea, hn, hd, rs⟩ := env.dct s r0
  subst ea
  refine ⟨a, _, rfl, hd, fun q hq => ?_⟩
  rw [zip_keys (hn.trans rs.length)]
  have g := Grow.alloc (o := .lst (ks.map fun s => V.str (mkS s))) env.fit hq
  exact k _ _ (.lst (strsD ks)) _ g (rep_newL (none_sub env.fit hq) (strs_reps ks)) p
theorem v_lstD {x : D} {ks : List (List Nat)} {xs : List D} (s : Sees ρ x (.dct ks xs)) : Vs rdLstD ρ [x] (.lst (strsD ks)) := fun P p => ⟨x, ks, xs, rfl, s, p⟩

/-! ### (*xs, v) -/
def dStar (t : DX) (u : DA) : DA := fun ρ P => t ρ ⟨fun x ρ1 => ∃ xs, (Sees ρ1 x (.lst xs) ∨ x = .tup xs) ∧ u ρ1 ⟨fun ys ρ2 => P.ok (xs ++ ys) ρ2, P.ex⟩, P.ex⟩
theorem pxa_star {e : Expr} {es : List Expr} {t : DX} {u : DA} {p : Pos} (h : PX X E e t) (hr : PXA X E es u) (hs : starEach (.Starred e p :: es) X.env = (true, eval e X.env) :: starEach es X.env := by rfl) : PXA X E (.Starred e p :: es) (dStar t u) :=
  PA.weak (StX.pa_star h hr hs) fun σ H Q ⟨G, F, ρ, P, env, q, k, x⟩ => ⟨G, F, ρ, _, env, q, fun F1 H1 d1 v1 ρ1 l1 env1 r1 ⟨xs, h, q1⟩ => by
    rcases h with h | h
    · obtain ⟨a, ws, ea, hd, rs⟩ := env1.lst h r1
      exact ⟨a, ws, ea, .inr hd, G, F1, ρ1, _, env1, q1, fun F2 H2 ds vs ρ2 l2 env2 r2 q2 => k F2 H2 _ _ ρ2 (l1.trans l2) env2 ((rs.mono l2).app r2) q2, x.le l1⟩
    · subst h
      obtain ⟨a, ws, ea, hd, rs⟩ := env1.tup r1
      exact ⟨a, ws, ea, .inl hd, G, F1, ρ1, _, env1, q1, fun F2 H2 ds vs ρ2 l2 env2 r2 q2 => k F2 H2 _ _ ρ2 (l1.trans l2) env2 ((rs.mono l2).app r2) q2, x.le l1⟩, x⟩
theorem ev_star {t : DX} {u : DA} {x : D} {xs ys : List D} (h1 : EvD t ρ x) (h : Sees ρ x (.lst xs) ∨ x = .tup xs) (h2 : EvA u ρ ys) : EvA (dStar t u) ρ (xs ++ ys) := fun P p => h1 _ ⟨xs, h, h2 _ p⟩
end
end DL

set_option Elab.async false
set_option linter.all false
set_option maxRecDepth 100000
set_option maxHeartbeats 2000000
namespace DL
open PySem PySem.Spec PyProof PyProof.Rows L2 TL

/-! ### a dict is locked while it is walked -/
def Rho.nolo (ρ : Rho) : Rho := { ρ with lo := fun _ => False }
/-- ρ' is ρ with some dict told to be locked -/
def Relk (K : PySem.W.Frag) (ρ ρ' : Rho) : Prop := ∀ G F H σ, Env K G F H σ ρ → ∃ a kvs, Rd F a (.dK kvs) ∧ ∀ od G' F' H', Env K G' F' H' σ ρ.nolo → Le F F' → F' a = some (.frz od (.dK kvs)) → (∀ c ∈ ρ.os, H' c.a = H c.a) → Env K G' F' H' σ ρ'
def Cell.unl (c : Cell) : Cell := ⟨c.a, unL c.d⟩
def unlRho (ρ0 ρ : Rho) : Rho := ⟨ρ.sl.map (Option.map unL), ρ.os.map Cell.unl, ρ0.lo⟩
section
variable {K : PySem.W.Frag} {G : Ent} {F H : Hp} {σ σ' : L2.St} {ρ ρ' : Rho}
theorem Env.nolo (e : Env K G F H σ ρ) : Env K G F H σ ρ.nolo := ⟨e.fit, e.ext, e.keep, e.new, e.there, e.slots, e.len, e.cells, e.mine, fun _ h => h.elim⟩
theorem addrs_unl (os : List Cell) : addrs (os.map Cell.unl) = addrs os := by
  unfold addrs
  rw [List.map_map]
  rfl
theorem Env.unlSame (e0 : Env K G F H σ' ρ) {F2 H2 : Hp} (e : Env K G F2 H2 σ ρ') (l : ∀ a, ρ.lo a → H2 a ≠ none) : Env K G F2 H2 σ (unlRho ρ ρ') := by
  have r0 : Le0 F2 F2 := ⟨fun _ _ _ h => h, fun _ _ _ _ h => h⟩
  refine ⟨e.fit, e.ext, e.keep, e.new, e.there, fun i d h => ?_, by show (ρ'.sl.map _).length = _; rw [List.length_map]; exact e.len, ⟨?_, ?_, ?_⟩, ?_, fun a h => ⟨(e0.lo a h).1, l a h⟩⟩
  · have h : (ρ'.sl.map (Option.map unL))[i]? = some (some d) := h
    rw [List.getElem?_map] at h
    cases z : ρ'.sl[i]? with
    | none => rw [z] at h; cases h
    | some x =>
      cases x with
      | none => rw [z] at h; cases h
      | some x =>
        rw [z] at h
        cases h
        obtain ⟨v, h1, r⟩ := e.slots i x z
        exact ⟨v, h1, r.unl r0⟩
  · show (addrs (ρ'.os.map Cell.unl)).Nodup
    rw [addrs_unl]; exact e.cells.nd
  · intro c hc
    obtain ⟨c0, h0, rfl⟩ := List.mem_map.mp hc
    exact e.cells.nof c0 h0
  · intro c hc
    obtain ⟨c0, h0, rfl⟩ := List.mem_map.mp hc
    obtain ⟨o, h1, i⟩ := e.cells.at_ c0 h0
    exact ⟨o, h1, i.unl r0⟩
  · intro c hc
    obtain ⟨c0, h0, rfl⟩ := List.mem_map.mp hc
    exact e.mine c0 h0
theorem Env.fresh0 (e : Env K G F H σ ρ) : Env K (entOf F H ρ.os) F H σ ρ.nolo :=
  ⟨e.fit, Le.refl _, fun _ _ h _ => h, fun _ h _ => h, fun _ h => h, e.slots, e.len, e.cells, fun c hc => .inl (mem_addrs.mpr ⟨c, hc, rfl⟩), fun _ h => h.elim⟩
theorem Env.back0 {F2 H2 : Hp} (e : Env K G F H σ' ρ) (e2 : Env K (entOf F H ρ.os) F2 H2 σ ρ') : Env K G F2 H2 σ ρ' ∨ True := .inr trivial
theorem Env.backU {F2 H2 : Hp} (e : Env K G F H σ' ρ) (e2 : Env K (entOf F H ρ.os) F2 H2 σ ρ') : Le F F2 ∧ Env K G F2 H2 σ (unlRho ρ ρ') := by
  have l : Le F F2 := e2.ext
  refine ⟨l, ?_⟩
  have e3 : Env K G F2 H2 σ { ρ' with lo := ρ.lo } := by
    refine ⟨e2.fit, e.ext.trans l, fun b u q m => ?_, fun b q1 q2 => e2.new b (e.new b q1 q2) (e.there b q2), fun b q => e2.there b (e.there b q), e2.slots, e2.len, e2.cells, fun c hc => ?_, fun b q => ⟨(e.lo b q).1, e2.there b (e.lo b q).2⟩⟩
    · refine e2.keep b u (e.keep b u q m) fun y => ?_
      obtain ⟨c, hc, ec⟩ := mem_addrs.mp y
      rcases e.mine c hc with w | w
      · exact m (ec ▸ w)
      · rw [ec, q] at w; cases w
    · rcases e2.mine c hc with w | w
      · obtain ⟨c1, h1, ec⟩ := mem_addrs.mp w
        rw [← ec]; exact e.mine c1 h1
      · exact .inr (e.bnone w)
  have z := e.unlSame e3 fun b hb => (e3.lo b hb).2
  exact z
section
variable {a : Addr} {kvs : List (Key × V)} {od : Obj}
theorem lock_le (h : F a = some (.dK kvs)) : Le F (upd F a (.frz od (.dK kvs))) := by
  refine ⟨⟨fun b u p r => ?_, fun b C dx fs e => ?_⟩, fun b o u e => ?_⟩
  · by_cases q : b = a
    · subst q
      rcases r with r | ⟨o, r⟩
      · rw [h] at r; cases r
        exact .inr ⟨od, upd_same⟩
      · rw [h] at r; cases r
    · rcases r with r | ⟨o, r⟩
      · exact .inl (by rw [upd_ne q]; exact r)
      · exact .inr ⟨o, by rw [upd_ne q]; exact r⟩
  · rw [upd_ne (fun q => by rw [q, h] at e; cases e)]; exact e
  · rw [upd_ne (fun q => by rw [q, h] at e; cases e)]; exact e
theorem Env.lockIn (e : Env K G F H σ ρ) (h : F a = some (.dK kvs)) : Env K (entOf (upd F a (.frz od (.dK kvs))) (upd H a (.frz od (.dK kvs))) ρ.os) (upd F a (.frz od (.dK kvs))) (upd H a (.frz od (.dK kvs))) σ ρ.nolo := by
  have l := lock_le (od := od) h
  have na : ∀ c ∈ ρ.os, c.a ≠ a := fun c hc z => by
    have := e.cells.nof c hc
    rw [z, h] at this; cases this
  refine ⟨fun b u q => ?_, Le.refl _, fun _ _ h _ => h, fun _ h _ => h, fun _ h => h, fun i d q => ?_, e.len, ⟨e.cells.nd, fun c hc => ?_, fun c hc => ?_⟩, fun c hc => .inl (mem_addrs.mpr ⟨c, hc, rfl⟩), fun _ h => h.elim⟩
  · by_cases z : b = a
    · subst z; rw [upd_same] at q ⊢; exact q
    · rw [upd_ne z] at q ⊢; exact e.fit b u q
  · obtain ⟨v, h1, r⟩ := e.slots i d q
    exact ⟨v, h1, r.mono l⟩
  · rw [upd_ne (na c hc)]; exact e.cells.nof c hc
  · obtain ⟨o, h1, i⟩ := e.cells.at_ c hc
    exact ⟨o, by rw [upd_ne (na c hc)]; exact h1, i.mono l⟩
theorem Env.lockOut {F2 H2 : Hp} (e : Env K G F H σ' ρ) (h : F a = some (.dK kvs)) (e2 : Env K (entOf (upd F a (.frz od (.dK kvs))) (upd H a (.frz od (.dK kvs))) ρ.os) F2 H2 σ ρ') :
    H2 a = some (.frz od (.dK kvs)) ∧ Le F (upd F2 a (.dK kvs)) ∧ Le0 F2 (upd F2 a (.dK kvs)) ∧ Env K G (upd F2 a (.dK kvs)) (upd H2 a (.dK kvs)) σ (unlRho ρ ρ') := by
  have l1 := lock_le (od := od) h
  have l2 : Le (upd F a (.frz od (.dK kvs))) F2 := e2.ext
  have f2 : F2 a = some (.frz od (.dK kvs)) := l2.lk _ _ _ upd_same
  have h2 : H2 a = some (.frz od (.dK kvs)) := e2.fit _ _ f2
  have ha : H a = some (.dK kvs) := e.fit _ _ h
  have l0 : Le0 F2 (upd F2 a (.dK kvs)) := by
    refine ⟨fun b u p r => ?_, fun b C dx fs q => ?_⟩
    · by_cases z : b = a
      · subst z
        rcases r with r | ⟨o, r⟩
        · rw [f2] at r; cases r; exact p.elim
        · rw [f2] at r; cases r; exact .inl upd_same
      · rcases r with r | ⟨o, r⟩
        · exact .inl (by rw [upd_ne z]; exact r)
        · exact .inr ⟨o, by rw [upd_ne z]; exact r⟩
    · rw [upd_ne (fun z => by rw [z, f2] at q; cases q)]; exact q
  have l3 : Le F (upd F2 a (.dK kvs)) := by
    refine ⟨(l1.l0.trans l2.l0).trans l0, fun b o u q => ?_⟩
    have z : b ≠ a := fun z => by rw [z, h] at q; cases q
    rw [upd_ne z]
    exact l2.lk _ _ _ (l1.lk _ _ _ q)
  have nc : ∀ c ∈ ρ'.os, c.a ≠ a := fun c hc z => by
    have := e2.cells.nof c hc
    rw [z, f2] at this; cases this
  have e3 : ∀ b, H b ≠ none → H2 b ≠ none := fun b q => e2.there b (by
    show upd H a _ b ≠ none
    by_cases z : b = a
    · subst z; rw [upd_same]; simp
    · rw [upd_ne z]; exact q)
  refine ⟨h2, l3, l0, ⟨fun b u q => ?_, e.ext.trans l3, fun b u q m => ?_, fun b q1 q2 => ?_, fun b q => ?_, fun i d q => ?_, by show (ρ'.sl.map _).length = _; rw [List.length_map]; exact e2.len, ⟨?_, ?_, ?_⟩, ?_, fun b q => ⟨(e.lo b q).1, ?_⟩⟩⟩
  · by_cases z : b = a
    · subst z; rw [upd_same] at q ⊢; exact q
    · rw [upd_ne z] at q ⊢; exact e2.fit b u q
  · have hb := e.keep b u q m
    by_cases z : b = a
    · subst z
      rw [upd_same, ← ha, hb]
    · rw [upd_ne z]
      refine e2.keep b u (by show upd H a _ b = some u; rw [upd_ne z]; exact hb) fun y => ?_
      obtain ⟨c, hc, ec⟩ := mem_addrs.mp y
      rcases e.mine c hc with w | w
      · exact m (ec ▸ w)
      · rw [ec, q] at w; cases w
  · have fb := e.new b q1 q2
    have z : b ≠ a := fun z => by rw [z, h] at fb; cases fb
    rw [upd_ne z]
    exact e2.new b (by show upd F a _ b = none; rw [upd_ne z]; exact fb) (by show upd H a _ b ≠ none; rw [upd_ne z]; exact e.there b q2)
  · by_cases z : b = a
    · subst z; rw [upd_same]; simp
    · rw [upd_ne z]; exact e3 b (e.there b q)
  · have q : (ρ'.sl.map (Option.map unL))[i]? = some (some d) := q
    rw [List.getElem?_map] at q
    cases z : ρ'.sl[i]? with
    | none => rw [z] at q; cases q
    | some x =>
      cases x with
      | none => rw [z] at q; cases q
      | some x =>
        rw [z] at q
        cases q
        obtain ⟨v, h1, r⟩ := e2.slots i x z
        exact ⟨v, h1, r.unl l0⟩
  · show (addrs (ρ'.os.map Cell.unl)).Nodup
    rw [addrs_unl]; exact e2.cells.nd
  · intro c hc
    obtain ⟨c0, h0, rfl⟩ := List.mem_map.mp hc
    show upd F2 a _ c0.a = none
    rw [upd_ne (nc c0 h0)]; exact e2.cells.nof c0 h0
  · intro c hc
    obtain ⟨c0, h0, rfl⟩ := List.mem_map.mp hc
    obtain ⟨o, h1, i⟩ := e2.cells.at_ c0 h0
    exact ⟨o, by show upd H2 a _ c0.a = _; rw [upd_ne (nc c0 h0)]; exact h1, i.unl l0⟩
  · intro c hc
    obtain ⟨c0, h0, rfl⟩ := List.mem_map.mp hc
    rcases e2.mine c0 h0 with w | w
    · obtain ⟨c1, h1, ec⟩ := mem_addrs.mp w
      show G.M c0.a ∨ G.B c0.a = none
      rw [← ec]; exact e.mine c1 h1
    · refine .inr ?_
      have w : upd H a (.frz od (.dK kvs)) c0.a = none := w
      rw [upd_ne (nc c0 h0)] at w
      exact e.bnone w
  · by_cases z : b = a
    · subst z; rw [upd_same]; simp
    · rw [upd_ne z]; exact e3 b (e.lo b q).2
end
end
section
variable {X : Cx} {E : XK} {e : Expr} {st : Stmt} {t : DX} {u : DS} {ρ : Rho}
def dLock (K : PySem.W.Frag) (t : DX) : DX := fun ρ P => ∃ ρ', Relk K ρ ρ' ∧ t ρ' ⟨fun d ρ2 => P.ok (unL d) (unlRho ρ ρ2), exF⟩
theorem px_lock (h : PX X E e t) : PX X E e (dLock X.K t) := by
  refine ⟨fun pins s σ H Q I ⟨G, F, ρ, P, env, ⟨ρ', rel, q⟩, k, x⟩ => ?_⟩
  obtain ⟨a, kvs, rd, rel⟩ := rel G F H σ env
  rcases rd with rd | ⟨o, rd⟩
  · refine (pe_lock h).run pins s σ H Q I ⟨a, .dK kvs, env.fit _ _ rd, trivial, fun od => ?_⟩
    refine ⟨_, _, ρ', _, rel od _ _ _ (env.lockIn rd) (lock_le rd) upd_same (fun c hc => upd_ne fun z => by have := env.cells.nof c hc; rw [z, rd] at this; cases this), q, fun F' H' d v ρ2 l env2 r p => ?_, exw0⟩
    obtain ⟨h1, h2, h3, h4⟩ := env.lockOut rd env2
    exact ⟨h1, k _ _ (unL d) v _ h2 h4 (r.unl h3) p⟩
  · refine h.run pins s σ H Q I ⟨_, F, ρ', _, rel o _ F H env.fresh0 (Le.refl F) rd (fun _ _ => rfl), q, fun F' H' d v ρ2 l env2 r p => ?_, exw0⟩
    have r0 : Le0 F' F' := ⟨fun _ _ _ h => h, fun _ _ _ _ h => h⟩
    obtain ⟨h1, h2⟩ := env.backU env2
    exact k F' H' (unL d) v _ h1 h2 (r.unl r0) p
def dLockS (K : PySem.W.Frag) (u : DS) : DS := fun ρ P => ∃ ρ', Relk K ρ ρ' ∧ u ρ' { nx := fun ρ2 => P.nx (unlRho ρ ρ2), rt := fun d ρ2 => P.rt (unL d) (unlRho ρ ρ2), bk := fun ρ2 => P.bk (unlRho ρ ρ2), ct := fun ρ2 => P.ct (unlRho ρ ρ2) }
theorem sx_lock (h : PXS X E st u) : PXS X E st (dLockS X.K u) := by
  refine ⟨fun pins s σ H Dn I ⟨G, F, ρ, P, env, ⟨ρ', rel, q⟩, f⟩ => ?_⟩
  obtain ⟨a, kvs, rd, rel⟩ := rel G F H σ env
  rcases rd with rd | ⟨o, rd⟩
  · refine (ps_lock h).run pins s σ H Dn I ⟨a, .dK kvs, env.fit _ _ rd, trivial, fun od => ?_⟩
    refine ⟨_, _, ρ', _, rel od _ _ _ (env.lockIn rd) (lock_le rd) upd_same (fun c hc => upd_ne fun z => by have := env.cells.nof c hc; rw [z, rd] at this; cases this), q, ⟨fun F' H' σ' ρ2 l env2 p => ?_, fun F' H' σ' d v ρ2 l env2 r p => ?_, fun F' H' σ' ρ2 l env2 p => ?_, fun F' H' σ' ρ2 l env2 p => ?_, fun _ => exw0⟩⟩
    · obtain ⟨h1, h2, h3, h4⟩ := env.lockOut rd env2
      exact ⟨h1, f.nx _ _ σ' _ h2 h4 p⟩
    · obtain ⟨h1, h2, h3, h4⟩ := env.lockOut rd env2
      exact ⟨h1, f.rt _ _ σ' (unL d) v _ h2 h4 (r.unl h3) p⟩
    · obtain ⟨h1, h2, h3, h4⟩ := env.lockOut rd env2
      exact ⟨h1, f.bk _ _ σ' _ h2 h4 p⟩
    · obtain ⟨h1, h2, h3, h4⟩ := env.lockOut rd env2
      exact ⟨h1, f.ct _ _ σ' _ h2 h4 p⟩
  · refine h.run pins s σ H Dn I ⟨_, F, ρ', _, rel o _ F H env.fresh0 (Le.refl F) rd (fun _ _ => rfl), q, ⟨fun F' H' σ' ρ2 l env2 p => ?_, fun F' H' σ' d v ρ2 l env2 r p => ?_, fun F' H' σ' ρ2 l env2 p => ?_, fun F' H' σ' ρ2 l env2 p => ?_, fun _ => exw0⟩⟩
    · obtain ⟨h1, h2⟩ := env.backU env2
      exact f.nx _ _ σ' _ h1 h2 p
    · obtain ⟨h1, h2⟩ := env.backU env2
      exact f.rt _ _ σ' (unL d) v _ h1 h2 (r.unl ⟨fun _ _ _ h => h, fun _ _ _ _ h => h⟩) p
    · obtain ⟨h1, h2⟩ := env.backU env2
      exact f.bk _ _ σ' _ h1 h2 p
    · obtain ⟨h1, h2⟩ := env.backU env2
      exact f.ct _ _ σ' _ h1 h2 p

/-! ### the walks of a locked dict -/
variable {tg : Expr} {te : DX}
def dKeysI (te : DX) : DI := fun ρ P => te ρ ⟨fun d ρ1 => ∃ ks ds, d = .ldct ks ds ∧ P.ok (strsD ks) ρ1, P.ex⟩
theorem zip_get {ks : List (List Nat)} {vs : List V} {i : Nat} {k : Key} {v : V} (h : ((ks.map keyV).zip vs)[i]? = some (k, v)) : ∃ z, ks[i]? = some z ∧ k = keyV z ∧ vs[i]? = some v := by
  rw [List.getElem?_zip_eq_some] at h
  obtain ⟨h1, h2⟩ := h
  rw [List.getElem?_map] at h1
  cases e : ks[i]? with
  | none => rw [e] at h1; cases h1
  | some z => rw [e] at h1; cases h1; exact ⟨z, rfl, rfl, h2⟩
theorem walkD_keys {K : PySem.W.Frag} {F : Hp} {a : Addr} {o : Obj} {ks : List (List Nat)} {vs : List V} (h : F a = some (.frz o (.dK ((ks.map keyV).zip vs)))) (n : ks.length = vs.length) : WalkD K (Itk a o ((ks.map keyV).zip vs)) F (strsD ks) := by
  have hn : (strsD ks).length = ks.length := by simp [strsD]
  have hz : ((ks.map keyV).zip vs).length = ks.length := by rw [List.length_zip, List.length_map]; omega
  refine ⟨fun i H F' hi l f => ⟨f _ _ (l.lk _ _ _ h), by omega⟩, fun H F' l f => ⟨f _ _ (l.lk _ _ _ h), by omega⟩, fun i H x H' F' hi l f y => ?_⟩
  obtain ⟨e, k, v, hk, ex⟩ := y
  obtain ⟨z, hz, ek, _⟩ := zip_get hk
  subst ek ex
  refine ⟨.str z, ?_, .inl ⟨e, rfl⟩⟩
  unfold strsD
  rw [List.getElem?_map, hz]
  rfl
theorem ix_keys (h : PX X E e te) : PXI X E tg e (dKeysI te) :=
  PI.weak (pi_keys h) fun σ H Q ⟨G, F, ρ, P, env, q, k, x⟩ => ⟨G, F, ρ, _, env, q, fun F1 H1 d v ρ1 l1 env1 r1 ⟨ks, ds, ed, q1⟩ => by
    subst ed
    obtain ⟨a, vs, ev, n, ⟨o, hf⟩, rs⟩ := r1
    exact ⟨a, o, ev, .inl ⟨_, env1.fit _ _ hf, k F1 H1 _ ρ1 _ l1 env1 (walkD_keys hf (n.trans rs.length)) q1⟩⟩, x⟩
def itemsD (ks : List (List Nat)) (ds : List D) : List D := (ks.zip ds).map fun p => D.tup [.str p.1, p.2]
def dItemsI (te : DX) : DI := fun ρ P => te ρ ⟨fun d ρ1 => ∃ ks ds, d = .ldct ks ds ∧ P.ok (itemsD ks ds) ρ1, P.ex⟩
theorem walkD_items {K : PySem.W.Frag} {F : Hp} {a : Addr} {o : Obj} {ks : List (List Nat)} {ds : List D} {vs : List V} (h : F a = some (.frz o (.dK ((ks.map keyV).zip vs)))) (n : ks.length = ds.length) (r : Reps K F ds vs) : WalkD K (Iti a o ((ks.map keyV).zip vs)) F (itemsD ks ds) := by
  have n2 := r.length
  have hn : (itemsD ks ds).length = ks.length := by simp [itemsD]; omega
  have hz : ((ks.map keyV).zip vs).length = ks.length := by rw [List.length_zip, List.length_map]; omega
  refine ⟨fun i H F' hi l f => ⟨f _ _ (l.lk _ _ _ h), by omega⟩, fun H F' l f => ⟨f _ _ (l.lk _ _ _ h), by omega⟩, fun i H x H' F' hi l f y => ?_⟩
  obtain ⟨T, k, v, hk, ex, hT, eH⟩ := y
  obtain ⟨z, hz, ek, hv⟩ := zip_get hk
  subst ek
  obtain ⟨d, hd, rd⟩ := (r.mono l).get' hv
  refine ⟨.tup [.str z, d], ?_, .inr ⟨T, _, _, hT, eH, ex, rfl, ?_⟩⟩
  · unfold itemsD
    rw [List.getElem?_map, (List.getElem?_zip_eq_some (z := (z, d))).mpr ⟨hz, hd⟩]
    rfl
  · exact Reps.cons (d := .str z) rfl (Reps.one rd)
theorem ix_items {elts : List Expr} {kk : Nat} {tpos apos cpos : Pos} (h : PX X E e te) (hbase : attributeBase e "items" X.env (eval e X.env) = eval e X.env := by rfl) (hline : (apos.endLine == cpos.line) = true := by rfl) : PXI X E (.Tuple elts kk tpos) (.Call (.Attribute e "items" apos) [] [] cpos) (dItemsI te) :=
  PI.weak (pi_items h hbase hline) fun σ H Q ⟨G, F, ρ, P, env, q, k, x⟩ => ⟨G, F, ρ, _, env, q, fun F1 H1 d v ρ1 l1 env1 r1 ⟨ks, ds, ed, q1⟩ => by
    subst ed
    obtain ⟨a, vs, ev, n, ⟨o, hf⟩, rs⟩ := r1
    exact ⟨a, o, _, ev, env1.fit _ _ hf, k F1 H1 _ ρ1 _ l1 env1 (walkD_items hf n rs) q1⟩, x⟩

/-! ### which dict -/
/-- the dict of slot i -/
theorem relk_slot {K : PySem.W.Frag} {ρ : Rho} (i : Nat) {ks : List (List Nat)} {ds : List D} (h : ρ.sl[i]? = some (some (.dct ks ds))) : Relk K ρ (ρ.set i (.ldct ks ds)).nolo := fun G F H σ env => by
  obtain ⟨v, h1, a, vs, ev, n, rd, rs⟩ := env.slots i _ h
  subst ev
  refine ⟨a, _, rd, fun od G' F' H' env' l fa hc => ?_⟩
  have e := env'.set i (d := .ldct ks ds) (v := .ref a) ⟨a, vs, rfl, n, ⟨od, fa⟩, rs.mono l⟩
  have hs : σ.set i (some (V.ref a)) = σ := by
    apply List.ext_getElem?
    intro j
    rw [List.getElem?_set]
    split
    · subst_vars
      split
      · exact h1.symm
      · rename_i z; rw [List.getElem?_eq_none (by omega)] at h1; cases h1
    · rfl
  rw [hs] at e
  exact e
/-- a field of the instance in slot i -/
theorem relk_fld {K : PySem.W.Frag} {ρ : Rho} (i k : Nat) {C : Addr} {ns : List Str} {fs : List D} {ks : List (List Nat)} {ds : List D} (h : ρ.sl[i]? = some (some (.obj C ns fs))) (hk : fs[k]? = some (.dct ks ds)) : Relk K ρ (ρ.set i (.obj C ns (fs.set k (.ldct ks ds)))).nolo := fun G F H σ env => by
  obtain ⟨v, h1, a0, dx, ws, ev, n0, f0, rs0⟩ := env.slots i _ h
  subst ev
  obtain ⟨w, hw, a, vs, ew, n, rd, rs⟩ := rs0.get hk
  subst ew
  refine ⟨a, _, rd, fun od G' F' H' env' l fa hc => ?_⟩
  have rset : Reps K F' (fs.set k (.ldct ks ds)) (ws.set k (.ref a)) := Reps.set (d := .ldct ks ds) (v := .ref a) ⟨a, vs, rfl, n, ⟨od, fa⟩, rs.mono l⟩ k (rs0.mono l)
  have same : ∀ {α : Type} (l : List α) (i : Nat) (x : α), l[i]? = some x → l.set i x = l := fun l i x hx => by
    apply List.ext_getElem?
    intro j
    rw [List.getElem?_set]
    split
    · subst_vars
      split
      · exact hx.symm
      · rename_i z; rw [List.getElem?_eq_none (by omega)] at hx; cases hx
    · rfl
  rw [same _ _ _ hw] at rset
  have e := env'.set i (d := .obj C ns (fs.set k (.ldct ks ds))) (v := .ref a0) ⟨a0, dx, ws, rfl, by rw [List.length_set]; exact n0, l.l0.2 _ _ _ _ f0, rset⟩
  rw [same _ _ _ h1] at e
  exact e
/-- a field of an instance that is a cell -/
theorem relk_cell {K : PySem.W.Frag} {ρ : Rho} (k : Nat) {c : Addr} {C : Addr} {ns : List Str} {fs : List D} {ks : List (List Nat)} {ds : List D} {l r : List Cell} (h : ρ.os = l ++ ⟨c, .obj C ns fs⟩ :: r) (hk : fs[k]? = some (.dct ks ds)) : Relk K ρ (ρ.os' (l ++ ⟨c, .obj C ns (fs.set k (.ldct ks ds))⟩ :: r)).nolo := fun G F H σ env => by
  obtain ⟨o, hH, dx, ws, n0, eo, rs0⟩ := env.at h
  subst eo
  obtain ⟨w, hw, a, vs, ew, n, rd, rs⟩ := rs0.get hk
  subst ew
  refine ⟨a, _, rd, fun od G' F' H' env' l' fa hc => ?_⟩
  have hH' : H' c = some (.ins C dx (ns.zip ws)) := (hc ⟨c, .obj C ns fs⟩ (by rw [h]; simp)).trans hH
  have rset : Reps K F' (fs.set k (.ldct ks ds)) (ws.set k (.ref a)) := Reps.set (d := .ldct ks ds) (v := .ref a) ⟨a, vs, rfl, n, ⟨od, fa⟩, rs.mono l'⟩ k (rs0.mono l')
  have same : ∀ {α : Type} (l : List α) (i : Nat) (x : α), l[i]? = some x → l.set i x = l := fun l i x hx => by
    apply List.ext_getElem?
    intro j
    rw [List.getElem?_set]
    split
    · subst_vars
      split
      · exact hx.symm
      · rename_i z; rw [List.getElem?_eq_none (by omega)] at hx; cases hx
    · rfl
  rw [same _ _ _ hw] at rset
  have e := env'.updC (ρ := ρ.nolo) (o' := .ins C dx (ns.zip ws)) (d' := .obj C ns (fs.set k (.ldct ks ds))) h ⟨dx, ws, by rw [List.length_set]; exact n0, rfl, rset⟩
  have hu : upd H' c (.ins C dx (ns.zip ws)) = H' := by
    funext b
    by_cases z : b = c
    · subst z; rw [upd_same, hH']
    · rw [upd_ne z]
  rw [hu] at e
  exact e
end
end DL

set_option Elab.async false
set_option linter.all false
set_option maxRecDepth 100000
set_option maxHeartbeats 2000000
namespace DL
open PySem PySem.Spec PyProof PyProof.Rows L2 TL

/-! ### {k: v for ..} -/
def dDc (wi : DI) (gd : DG) (tt : DT) (tk tv : DX) : DX := fun ρ P => wi ρ ⟨fun ds ρ1 => ∃ W : Nat → List (List Nat) → List D → Rho → Prop, W 0 [] [] ρ1 ∧
  (∀ j ks xs d ρ2, ds[j]? = some d → ρ2.sl = ρ1.sl → W j ks xs ρ2 → ks.Nodup ∧ ks.length < 16777216 ∧ gd d ρ2 fun ρ3 => tt ρ3 ⟨fun b ρ4 => if b = true then tk ρ4 ⟨fun y ρ5 => tv ρ5 ⟨fun z ρ6 => ∃ k, y = .str k ∧ W (j + 1) (putK1 ks k) (putK2 ks k xs z) (ρ6.back ρ1), exF⟩, exF⟩ else W (j + 1) ks xs (ρ4.back ρ1), exF⟩) ∧
  ∀ ks xs ρ2, ρ2.sl = ρ1.sl → W ds.length ks xs ρ2 → P.ok (.dct ks xs) ρ2, P.ex⟩
theorem dc_up {K : PySem.W.Frag} {J : It} {G : Ent} {F H : Hp} {σ : L2.St} {ρ : Rho} {ds : List D} {g : TG} {gd : DG} {tt : DT} {tk tv : DX} {vs : List Nat} {Qd : Addr → Hp → Prop} (w : WalkD K J F ds) (env : Env K G F H σ ρ) (og : OwnG K vs g gd)
    (W : Nat → List (List Nat) → List D → Rho → Prop) (w0 : W 0 [] [] ρ)
    (turn : ∀ j ks xs d ρ2, ds[j]? = some d → ρ2.sl = ρ.sl → W j ks xs ρ2 → ks.Nodup ∧ ks.length < 16777216 ∧ gd d ρ2 fun ρ3 => tt ρ3 ⟨fun b ρ4 => if b = true then tk ρ4 ⟨fun y ρ5 => tv ρ5 ⟨fun z ρ6 => ∃ k, y = .str k ∧ W (j + 1) (putK1 ks k) (putK2 ks k xs z) (ρ6.back ρ), exF⟩, exF⟩ else W (j + 1) ks xs (ρ4.back ρ), exF⟩)
    (fin : ∀ D0 F' H' ks xs us ρ2, Le F F' → Env K G F' H' σ ρ2 → ρ2.sl = ρ.sl → W ds.length ks xs ρ2 → ks.length = xs.length → H' D0 = some (.dK ((ks.map keyV).zip us)) → Reps K F' xs us → Out F' ρ2 D0 → G.B D0 = none → Qd D0 H') :
    ∀ D0, H D0 = none → ∃ W : Nat → Nat → Hp → Prop, (∃ m, W 0 m (upd H D0 (.dK []))) ∧ ∀ i m H, W i m H →
      (J.stop i H ∧ Qd D0 H) ∨ (J.go i H ∧ ∃ Nx : Hp → Prop, (∀ H', Nx H' → ∃ m', m' < m ∧ W (i + 1) m' H') ∧ ∀ x H', J.yld i H x H' → g x (wipe σ vs) H' fun σ2 H2 => wipe σ2 vs = wipe σ vs ∧ upT K E0 tt σ2 H2 fun b H3 =>
        if b = true then up K E0 tk σ2 H3 fun y H4 => up K E0 tv σ2 H4 fun z H5 => ∃ kvs k, y = kV k ∧ H5 D0 = some (.dK kvs) ∧ kvs.length < sizeLine ∧ Nx (upd H5 D0 (.dK (putK kvs k z))) else Nx H3) := by
  intro D0 hD
  have hB := env.bnone hD
  have hFB : G.FB D0 = none := le_none env.ext (none_sub env.fit hD)
  let T : Nat → Hp → Prop := fun i H' => ∃ F' ρ' ks xs us, Le F F' ∧ Env K G F' H' σ ρ' ∧ ρ'.sl = ρ.sl ∧ W i ks xs ρ' ∧ ks.length = xs.length ∧ H' D0 = some (.dK ((ks.map keyV).zip us)) ∧ Reps K F' xs us ∧ Out F' ρ' D0
  refine ⟨fun i m H' => m = ds.length - i ∧ i ≤ ds.length ∧ T i H', ⟨ds.length, by simp, Nat.zero_le _, ?_⟩, ?_⟩
  · exact ⟨F, ρ, [], [], [], Le.refl F, env.grow (Grow.allocH env.fit hD), rfl, w0, rfl, upd_same, rfl, none_sub env.fit hD, env.fresh hD, fun z => (env.lo D0 z).2 hD⟩
  rintro i m H1 ⟨rfl, hi, F1, ρ1, ks, xs, us, l1, env1, es, w1, hn, hD1, ra, o1⟩
  by_cases hlt : i < ds.length
  · refine .inr ⟨w.goes i H1 F1 hlt l1 env1.fit, T (i + 1), fun H' h => ⟨ds.length - (i + 1), by omega, rfl, hlt, h⟩, fun x H' y => ?_⟩
    obtain ⟨d, F2, hd, g2, r2⟩ := w.turnG l1 env1.fit hlt y
    obtain ⟨hnd, hl, q⟩ := turn i ks xs d ρ1 hd es w1
    have env2 := env1.grow g2
    have hD2 := g2.keep _ _ hD1
    have o2 : Out F2 ρ1 D0 := ⟨g2.new D0 o1.f (by rw [hD1]; simp), o1.c, o1.l⟩
    refine og.go (G.fr D0 _) F2 H' σ ρ1 d x _ _ (env2.outside hD2 o2) r2 q fun σ2 ρ3 hw env3 q3 => ⟨hw, ?_⟩
    refine ⟨_, F2, ρ3, _, env3, q3, fun F4 H4 b ρ4 l4 env4 q4 => ?_, exw0⟩
    have slots : ∀ {F5 : Hp}, Le F2 F5 → ∀ (i : Nat) (d : D), ρ.sl[i]? = some (some d) → ∃ v : V, σ[i]? = some (some v) ∧ Rep K F5 d v := fun l5 i d h => by
      obtain ⟨v, h1, r⟩ := env2.slots i d (by rw [es]; exact h)
      exact ⟨v, h1, r.mono l5⟩
    cases b with
    | true =>
      refine iteT ?_
      try dsimp only at q4
      rw [if_pos rfl] at q4
      refine ⟨_, F4, ρ4, _, env4, q4, fun F5 H5 y5 v5 ρ5 l5 env5 r5 q5 => ?_, exw0⟩
      refine ⟨_, F5, ρ5, _, env5, q5, fun F6 H6 z6 v6 ρ6 l6 env6 r6 ⟨k, ey, q6⟩ => ?_, exw0⟩
      subst ey
      cases r5
      obtain ⟨env7, hD7, o7⟩ := env6.inside hB hFB
      have l26 := (l4.trans l5).trans l6
      have hlen : ks.length = us.length := hn.trans ra.length
      refine ⟨_, keyV k, rfl, hD7, by rw [sizeLine_eq, List.length_zip, List.length_map, ← hlen]; omega, F6, ρ6.back ρ, _, _, putK2 ks k us v6, ((l1.trans g2.le).trans l26), ?_, rfl, q6, putK_len hn, ?_, reps_putK (ra.mono (g2.le.trans l26)) r6, ⟨o7.f, o7.c, o7.l⟩⟩
      · exact ((env7.writeO (o := .dK (putK ((ks.map keyV).zip us) (keyV k) v6)) o7 hB).slotsOf (ρ' := ρ6.back ρ) (slots l26) (by show ρ.sl.length = _; exact env.len) rfl rfl)
      · rw [upd_same, putK_zip ks us k v6 hnd hlen]
    | false =>
      refine iteF ?_
      try dsimp only at q4
      rw [if_neg Bool.false_ne_true] at q4
      obtain ⟨env6, hD6, o6⟩ := env4.inside hB hFB
      exact ⟨F4, ρ4.back ρ, ks, xs, us, ((l1.trans g2.le).trans l4), env6.slotsOf (ρ' := ρ4.back ρ) (slots l4) (by show ρ.sl.length = _; exact env.len) rfl rfl, rfl, q4, hn, hD6, ra.mono (g2.le.trans l4), ⟨o6.f, o6.c, o6.l⟩⟩
  · have e : i = ds.length := by omega
    subst e
    exact .inl ⟨w.stops H1 F1 l1 env1.fit, fin D0 F1 H1 ks xs us ρ1 l1 env1 es w1 hn hD1 ra o1 hB⟩
section
variable {X : Cx} {E : XK} {kx vx elt tg iter tg1 iter1 : Expr} {ifs ifs1 : List Expr} {scope : Scope} {own : List (Str × Nat)} {pos : Pos} {wi wi1 : DI} {g g1 : TG} {gd gd1 : DG} {tt tt1 : DT} {tk tv te : DX}
theorem rep_newD {K : PySem.W.Frag} {F : Hp} {p : Addr} {ks : List (List Nat)} {vs : List V} {ds : List D} (h : F p = none) (hn : ks.length = ds.length) (r : Reps K F ds vs) : Rep K (upd F p (.dK ((ks.map keyV).zip vs))) (.dct ks ds) (.ref p) := ⟨p, vs, rfl, hn, .inl upd_same, r.mono (Le.new h)⟩
theorem px_dc (og : OwnG X.K (own.map (·.2)) g gd) (hc : X.calm = true) (hN : X.N.Nodup) (hi : PXI X E tg iter wi) (ok : BlkOk X.N X.env.scope scope own)
    (hg : ∀ (s : Shared) (H : Hp) (C : Addr) (cl : List (Str × Addr)) (fp : List Addr), PG (X.blk s H scope (compEnvC scope cl C X.env) fp) tg g) (ht : ∀ (s : Shared) (H : Hp) (C : Addr) (cl : List (Str × Addr)) (fp : List Addr), PXTs (X.blk s H scope (compEnvC scope cl C X.env) fp) E0 ifs tt)
    (hk : ∀ (s : Shared) (H : Hp) (C : Addr) (cl : List (Str × Addr)) (fp : List Addr), PX (X.blk s H scope (compEnvC scope cl C X.env) fp) E0 kx tk)
    (he : ∀ (s : Shared) (H : Hp) (C : Addr) (cl : List (Str × Addr)) (fp : List Addr), PX (X.blk s H scope (compEnvC scope cl C X.env) fp) E0 vx tv) (hs : ∀ x, foldedSetIterable iter X.env x = pure x := by intro _; rfl) :
    PX X E (.DictComp kx vx [⟨tg, iter, ifs, 0⟩] scope pos) (dDc wi gd tt tk tv) :=
  px_of (pe_dc (tt := upT X.K E0 tt) (tk := up X.K E0 tk) (tv := up X.K E0 tv) hc hN hi ok hg ht hk he hs) fun G F H σ ρ P Q env q k x =>
    ⟨G, F, ρ, _, env, q, fun F1 H1 ds ρ1 J l1 env1 w1 ⟨W, w0, turn, fin⟩ => dc_up w1 env1 og W w0 turn fun D0 F' H' ks xs us ρ2 l2 env2 es wn hn hD ra o hB =>
      k _ _ (.dct ks xs) _ ρ2 ((l1.trans l2).trans (Le.new o.f)) (env2.frzO o hB hD) (rep_newD o.f hn ra) (fin ks xs ρ2 es wn), x⟩
/-- the walk is over texts; the keys are they -/
theorem ev_dc {ρ : Rho} {ds : List D} {l : List (List Nat)} {f : List Nat → Bool} {h : List Nat → D} (hi : EvA wi ρ ds) (e : ds = strsD l) (hn : l.Nodup) (hl : l.length < 16777216)
    (turn : ∀ x ∈ l, ∃ ρ', EvG gd (.str x) ρ ρ' ∧ ρ'.os = ρ.os ∧ ρ'.lo = ρ.lo ∧ EvT tt ρ' (f x) ∧ (f x = true → EvD tk ρ' (.str x)) ∧ (f x = true → EvD tv ρ' (h x))) : EvD (dDc wi gd tt tk tv) ρ (.dct (l.filter f) ((l.filter f).map h)) := fun P p => hi _ (by
  subst e
  have bk : ∀ {ρ' : Rho}, ρ'.os = ρ.os → ρ'.lo = ρ.lo → ρ'.back ρ = ρ := fun {ρ'} h1 h2 => by
    cases ρ'; cases ρ
    dsimp only at h1 h2
    subst h1 h2
    rfl
  refine ⟨fun j ks xs ρ2 => ρ2 = ρ ∧ ks = (l.take j).filter f ∧ xs = ((l.take j).filter f).map h, ⟨rfl, by simp, by simp⟩, ?_, ?_⟩
  · rintro j ks xs d ρ2 hd _ ⟨rfl, rfl, rfl⟩
    unfold strsD at hd
    rw [List.getElem?_map] at hd
    cases hx : l[j]? with
    | none => rw [hx] at hd; cases hd
    | some x =>
      rw [hx] at hd
      cases hd
      have hj : j < l.length := (List.getElem?_eq_some_iff.mp hx).1
      obtain ⟨ρ', h1, h2, h3, h4, h5, h6⟩ := turn x (List.mem_of_getElem? hx)
      have tk' : l.take (j + 1) = l.take j ++ [x] := by
        rw [List.take_add_one, hx]
        rfl
      refine ⟨(hn.sublist (List.take_sublist _ _)).filter _, ?_, h1 _ (h4 _ ?_)⟩
      · have := List.length_filter_le f (l.take j)
        rw [List.length_take] at this
        omega
      · cases q : f x with
        | true =>
          dsimp only
          refine iteT ?_
          refine h5 q _ (h6 q _ ⟨x, rfl, bk h2 h3, ?_⟩)
          have hnot : x ∉ (l.take j).filter f := fun m => by
            have m2 := (List.mem_filter.mp m).1
            have hn2 : (l.take (j + 1)).Nodup := hn.sublist (List.take_sublist _ _)
            rw [tk'] at hn2
            exact (List.nodup_append.mp hn2).2.2 x m2 x (by simp) rfl
          have hk : kix ((l.take j).filter f) x = none := by
            have := kix_mem (ks := (l.take j).filter f) (k := x)
            rw [decide_eq_false hnot] at this
            cases z : kix ((l.take j).filter f) x with
            | none => rfl
            | some i => rw [z] at this; cases this
          unfold putK1 putK2
          rw [hk, tk']
          simp [q]
        | false =>
          dsimp only
          refine iteF ?_
          refine ⟨bk h2 h3, ?_⟩
          rw [tk']
          simp [q]
  · rintro ks xs ρ2 _ ⟨rfl, rfl, rfl⟩
    have z : (strsD l).length = l.length := by simp [strsD]
    rw [z, List.take_length]
    exact p)

/-! ### [.. for .. in .. for .. in ..] -/
def dLc2 (wi : DI) (gd : DG) (tt : DT) (wi1 : DI) (gd1 : DG) (tt1 : DT) (te : DX) : DX := fun ρ P => wi ρ ⟨fun ds ρ1 => ∃ W : Nat → List D → Rho → Prop, W 0 [] ρ1 ∧
  (∀ j acc d ρ2, ds[j]? = some d → ρ2.sl = ρ1.sl → W j acc ρ2 → gd d ρ2 fun ρ3 => tt ρ3 ⟨fun b ρ4 => if b = true then wi1 ρ4 ⟨fun ds1 ρ5 => ∃ W1 : Nat → List D → Rho → Prop, W1 0 acc ρ5 ∧
    (∀ k acc1 d1 ρ6, ds1[k]? = some d1 → ρ6.sl = ρ5.sl → W1 k acc1 ρ6 → acc1.length < 16777216 ∧ gd1 d1 ρ6 fun ρ7 => tt1 ρ7 ⟨fun b1 ρ8 => if b1 = true then te ρ8 ⟨fun y ρ9 => W1 (k + 1) (acc1 ++ [y]) (ρ9.back ρ5), exF⟩ else W1 (k + 1) acc1 (ρ8.back ρ5), exF⟩) ∧
    ∀ acc1 ρ6, ρ6.sl = ρ5.sl → W1 ds1.length acc1 ρ6 → W (j + 1) acc1 (ρ6.back ρ1), exF⟩ else W (j + 1) acc (ρ4.back ρ1), exF⟩) ∧
  ∀ acc ρ2, ρ2.sl = ρ1.sl → W ds.length acc ρ2 → P.ok (.lst acc) ρ2, P.ex⟩
theorem px_lc2 {vs1 : List Nat} (og : OwnG X.K (own.map (·.2)) g gd) (og1 : OwnG X.K vs1 g1 gd1) (hc : X.calm = true) (hN : X.N.Nodup) (hi : PXI X E tg iter wi) (ok : BlkOk X.N X.env.scope scope own) (hv : ∀ i ∈ vs1, i ∈ own.map (·.2))
    (hg : ∀ (s : Shared) (H : Hp) (C : Addr) (cl : List (Str × Addr)) (fp : List Addr), PG (X.blk s H scope (compEnvC scope cl C X.env) fp) tg g) (ht : ∀ (s : Shared) (H : Hp) (C : Addr) (cl : List (Str × Addr)) (fp : List Addr), PXTs (X.blk s H scope (compEnvC scope cl C X.env) fp) E0 ifs tt)
    (hi1 : ∀ (s : Shared) (H : Hp) (C : Addr) (cl : List (Str × Addr)) (fp : List Addr), PXI (X.blk s H scope (compEnvC scope cl C X.env) fp) E0 tg1 iter1 wi1)
    (hg1 : ∀ (s : Shared) (H : Hp) (C : Addr) (cl : List (Str × Addr)) (fp : List Addr), PG (X.blk s H scope (compEnvC scope cl C X.env) fp) tg1 g1) (ht1 : ∀ (s : Shared) (H : Hp) (C : Addr) (cl : List (Str × Addr)) (fp : List Addr), PXTs (X.blk s H scope (compEnvC scope cl C X.env) fp) E0 ifs1 tt1)
    (he : ∀ (s : Shared) (H : Hp) (C : Addr) (cl : List (Str × Addr)) (fp : List Addr), PX (X.blk s H scope (compEnvC scope cl C X.env) fp) E0 elt te) (hs : ∀ x, foldedSetIterable iter X.env x = pure x := by intro _; rfl) (hs1 : ∀ env x, foldedSetIterable iter1 env x = pure x := by intro _ _; rfl) :
    PX X E (.ListComp elt [⟨tg, iter, ifs, 0⟩, ⟨tg1, iter1, ifs1, 0⟩] scope pos) (dLc2 wi gd tt wi1 gd1 tt1 te) := by
  refine px_of (pe_lc2 (tt := upT X.K E0 tt) (wi1 := upI X.K E0 wi1) (tt1 := upT X.K E0 tt1) (te := up X.K E0 te) hc hN hi ok hv hg ht hi1 hg1 ht1 he hs hs1) fun G F0 H0 σ ρ0 P Q env0 q k x => ⟨G, F0, ρ0, _, env0, q, fun F H ds ρ J l0 env w ⟨W, w0, turn, fin⟩ => ?_, x⟩
  intro D0 hD
  have hB := env.bnone hD
  have hFB : G.FB D0 = none := le_none env.ext (none_sub env.fit hD)
  let T : Nat → Hp → Prop := fun i H' => ∃ F' ρ' acc us, Le F F' ∧ Env X.K G F' H' σ ρ' ∧ ρ'.sl = ρ.sl ∧ W i acc ρ' ∧ H' D0 = some (.lst us) ∧ Reps X.K F' acc us ∧ Out F' ρ' D0
  refine ⟨fun i m H' => m = ds.length - i ∧ i ≤ ds.length ∧ T i H', ⟨ds.length, by simp, Nat.zero_le _, ?_⟩, ?_⟩
  · exact ⟨F, ρ, [], [], Le.refl F, env.grow (Grow.allocH env.fit hD), rfl, w0, upd_same, rfl, none_sub env.fit hD, env.fresh hD, fun z => (env.lo D0 z).2 hD⟩
  rintro i m H1 ⟨rfl, hi, F1, ρ1, acc, us, l1, env1, es, w1, hD1, ra, o1⟩
  by_cases hlt : i < ds.length
  · refine .inr ⟨w.goes i H1 F1 hlt l1 env1.fit, T (i + 1), fun H' h => ⟨ds.length - (i + 1), by omega, rfl, hlt, h⟩, fun x H' y => ?_⟩
    obtain ⟨d, F2, hd, g2, r2⟩ := w.turnG l1 env1.fit hlt y
    have q := turn i acc d ρ1 hd es w1
    have env2 := env1.grow g2
    have hD2 := g2.keep _ _ hD1
    have o2 : Out F2 ρ1 D0 := ⟨g2.new D0 o1.f (by rw [hD1]; simp), o1.c, o1.l⟩
    refine og.go (G.fr D0 (.lst us)) F2 H' σ ρ1 d x _ _ (env2.outside hD2 o2) r2 q fun σ2 ρ3 hw env3 q3 => ⟨hw, ?_⟩
    refine ⟨_, F2, ρ3, _, env3, q3, fun F4 H4 b ρ4 l4 env4 q4 => ?_, exw0⟩
    have slots : ∀ {F5 : Hp}, Le F2 F5 → ∀ (i : Nat) (d : D), ρ.sl[i]? = some (some d) → ∃ v : V, σ[i]? = some (some v) ∧ Rep X.K F5 d v := fun l5 i d h => by
      obtain ⟨v, h1, r⟩ := env2.slots i d (by rw [es]; exact h)
      exact ⟨v, h1, r.mono l5⟩
    cases b with
    | false =>
      refine iteF ?_
      try dsimp only at q4
      rw [if_neg Bool.false_ne_true] at q4
      obtain ⟨env6, hD6, o6⟩ := env4.inside hB hFB
      exact ⟨F4, ρ4.back ρ, acc, us, ((l1.trans g2.le).trans l4), env6.slotsOf (ρ' := ρ4.back ρ) (slots l4) (by show ρ.sl.length = _; exact env.len) rfl rfl, rfl, q4, hD6, ra.mono (g2.le.trans l4), ⟨o6.f, o6.c, o6.l⟩⟩
    | true =>
      refine iteT ?_
      try dsimp only at q4
      rw [if_pos rfl] at q4
      refine ⟨_, F4, ρ4, _, env4, q4, fun F5 H5 ds1 ρ5 J1 l5 env5 w5 ⟨W1, w10, turn1, fin1⟩ => ?_, exw0⟩
      obtain ⟨env6, hD6, o6⟩ := env5.inside hB hFB
      have l25 := l4.trans l5
      let T1 : Nat → Hp → Prop := fun j H' => ∃ F' ρ' acc1 us1, Le F5 F' ∧ Env X.K G F' H' σ2 ρ' ∧ ρ'.sl = ρ5.sl ∧ W1 j acc1 ρ' ∧ H' D0 = some (.lst us1) ∧ Reps X.K F' acc1 us1 ∧ Out F' ρ' D0
      refine ⟨fun j m H' => m = ds1.length - j ∧ j ≤ ds1.length ∧ T1 j H', ⟨ds1.length, by simp, Nat.zero_le _, F5, ρ5, acc, us, Le.refl _, env6, rfl, w10, hD6, ra.mono (g2.le.trans l25), o6⟩, ?_⟩
      rintro j m H6 ⟨rfl, hj, F6, ρ6, acc1, us1, l6, env6', es6, w6, hD6', ra6, o6'⟩
      by_cases hlt1 : j < ds1.length
      · refine .inr ⟨w5.goes j H6 F6 hlt1 l6 env6'.fit, T1 (j + 1), fun H' h => ⟨ds1.length - (j + 1), by omega, rfl, hlt1, h⟩, fun x1 H7 y1 => ?_⟩
        obtain ⟨d1, F7, hd1, g7, r7⟩ := w5.turnG l6 env6'.fit hlt1 y1
        obtain ⟨hl, q7⟩ := turn1 j acc1 d1 ρ6 hd1 es6 w6
        have env7 := env6'.grow g7
        have hD7 := g7.keep _ _ hD6'
        have o7 : Out F7 ρ6 D0 := ⟨g7.new D0 o6'.f (by rw [hD6']; simp), o6'.c, o6'.l⟩
        refine og1.go (G.fr D0 (.lst us1)) F7 H7 σ2 ρ6 d1 x1 _ _ (env7.outside hD7 o7) r7 q7 fun σ3 ρ8 hw1 env8 q8 => ⟨hw1, ?_⟩
        refine ⟨_, F7, ρ8, _, env8, q8, fun F9 H9 b1 ρ9 l9 env9 q9 => ?_, exw0⟩
        have slots1 : ∀ {F5 : Hp}, Le F7 F5 → ∀ (i : Nat) (d : D), ρ5.sl[i]? = some (some d) → ∃ v : V, σ2[i]? = some (some v) ∧ Rep X.K F5 d v := fun l5 i d h => by
          obtain ⟨v, h1, r⟩ := env7.slots i d (by rw [es6]; exact h)
          exact ⟨v, h1, r.mono l5⟩
        cases b1 with
        | false =>
          refine iteF ?_
          try dsimp only at q9
          rw [if_neg Bool.false_ne_true] at q9
          obtain ⟨env10, hD10, o10⟩ := env9.inside hB hFB
          exact ⟨F9, ρ9.back ρ5, acc1, us1, ((l6.trans g7.le).trans l9), env10.slotsOf (ρ' := ρ9.back ρ5) (slots1 l9) (by show ρ5.sl.length = _; exact env6.len) rfl rfl, rfl, q9, hD10, ra6.mono (g7.le.trans l9), ⟨o10.f, o10.c, o10.l⟩⟩
        | true =>
          refine iteT ?_
          try dsimp only at q9
          rw [if_pos rfl] at q9
          refine ⟨_, F9, ρ9, _, env9, q9, fun F10 H10 y10 v10 ρ10 l10 env10 r10 q10 => ?_, exw0⟩
          obtain ⟨env11, hD11, o11⟩ := env10.inside hB hFB
          have l710 := l9.trans l10
          refine ⟨us1, hD11, by rw [sizeLine_eq, ← ra6.length]; exact hl, F10, ρ10.back ρ5, acc1 ++ [y10], us1 ++ [v10], ((l6.trans g7.le).trans l710), ?_, rfl, q10, upd_same, ((ra6.mono (g7.le.trans l710)).app (Reps.one r10)), ⟨o11.f, o11.c, o11.l⟩⟩
          exact ((env11.writeO (o := .lst (us1 ++ [v10])) o11 hB).slotsOf (ρ' := ρ10.back ρ5) (slots1 l710) (by show ρ5.sl.length = _; exact env6.len) rfl rfl)
      · have e : j = ds1.length := by omega
        subst e
        refine .inl ⟨w5.stops H6 F6 l6 env6'.fit, ?_⟩
        have l26 := l25.trans l6
        exact ⟨F6, ρ6.back ρ, acc1, us1, ((l1.trans g2.le).trans l26), env6'.slotsOf (ρ' := ρ6.back ρ) (slots l26) (by show ρ.sl.length = _; exact env.len) rfl rfl, rfl, fin1 acc1 ρ6 es6 w6, hD6', ra6, ⟨o6'.f, o6'.c, o6'.l⟩⟩
  · have e : i = ds.length := by omega
    subst e
    refine .inl ⟨w.stops H1 F1 l1 env1.fit, ?_⟩
    exact k _ _ (.lst acc) _ ρ1 ((l0.trans l1).trans (Le.new o1.f)) (env1.frzO o1 hB hD1) (rep_newL o1.f ra) (fin acc ρ1 es w1)
end
end DL

set_option Elab.async false
set_option linter.all false
set_option maxRecDepth 100000
set_option maxHeartbeats 2000000
namespace DL
open PySem PySem.Spec PyProof PyProof.Rows L2 TL

/-! ### own ==, !=, [..] -/
structure KnS (P : Program) (w : World) (K : PySem.W.Frag) (mg : Str → Option Value) (base : Heap) (C : Addr) (m : Str) (k : Nat) (ps : List Str) (R : DF) : Prop where
  ex : ∃ f fd, PySem.W.findIn K (.ref C) m = some (some (.ref f)) ∧ PySem.W.isFn K (.ref f) = true ∧ PySem.W.fnIn K f = true ∧ Binds K fd ps [] ∧ FnOk P w K mg base CX0 k f fd ps (Pr K (NoX R))
section
variable {X : Cx} {pins : List (Addr × Obj)} {σ : L2.St} {H : Hp} {s : Shared} {k : Nat} {f C : Addr} {fd : FuncData} {ps : List Str} {sp : Sp} {vs : List V} {us : List Value} {Q : VK} {A' : Around}
theorem run_own (F : FnOk X.prog X.w X.K X.mg X.base CX0 k f fd ps sp) (hb : Binds X.K fd ps []) (hr : Room k A') (e0 : Env0 X.prog X.w X.K X.mg X.base A' X.stack s H) (I : Inv X pins σ H s) (r : Vals vs us) (h : sp vs H Q E0) :
    wpAny (model X.prog X.w) A' (call (.ref f) us) (EP X pins σ Q) X.xe s := by
  have hl := F.len _ _ _ _ h
  refine wpAny_call (codeAny_mono (F.run A' X.stack s H ⟨us, []⟩ us vs _ E0 hr e0 (by
    have := hb s us I.kIn (by rw [List.append_nil, ← r.length]; exact hl)
    simpa using this) r h) fun r s' hq => ?_)
  cases r with
  | error e => exact hq.elim
  | ok fl =>
    cases fl with
    | ret w =>
      obtain ⟨z, H', I', rz, q⟩ := I.after hq
      exact ⟨z, H', I', rz, q⟩
    | next => exact False.elim hq
    | brk => exact False.elim hq
    | cont => exact False.elim hq
def rOwnC (C : Addr) (sp : Sp) (neg : Bool) : R2 := fun x y H Q => ∃ a b dx dy fs gs, x = .ref a ∧ y = .ref b ∧ H a = some (.ins C dx fs) ∧ H b = some (.ins C dy gs) ∧ sp [x, y] H (fun v H' => ∃ c, v = .bl c ∧ Q (.bl (if neg then !c else c)) H') E0
theorem op_eqO (hs : PySem.W.findIn X.K (.ref C) "__eq__" = some (some (.ref f))) (hf : PySem.W.isFn X.K (.ref f) = true) (F : FnOk X.prog X.w X.K X.mg X.base CX0 k f fd ps sp) (hb : Binds X.K fd ps []) (hr : Room k X.A) : OpR X (compareOp .Eq) (rOwnC C sp false) := by
  intro pins s σ H x y v u Q I rx ry h
  obtain ⟨a, b, dx, dy, fs, gs, rfl, rfl, ha, hb', q⟩ := h
  cases rx
  cases ry
  obtain ⟨mA, J, _⟩ := ins_get I.hok ha
  obtain ⟨mB, J', _⟩ := ins_get I.hok hb'
  obtain ⟨od, J, _⟩ := J.look
  obtain ⟨od', J', _⟩ := J'.look
  obtain ⟨m, hF⟩ := I.fr
  show wpAny (model X.prog X.w) X.A (richCompare .Eq (.ref a) (.ref b)) _ _ s
  refine PySem.W.cmp_K (op := .Eq) (tb := .ref C) hr.units0 hF I.ok.mod.kin J J'.type (by simp [PySem.W.notFirst]) hs hf ?_
  have rv2 : Vals [V.ref a, V.ref b] [Value.ref a, Value.ref b] := .cons rfl (.cons rfl .nil)
  refine wpAny_mono (run_own F hb hr I.env0 I rv2 q) (fun r s' z => ?_) fun _ _ e => e
  obtain ⟨v, H', I', rv, c, ev, q'⟩ := z
  subst ev
  cases rv
  exact ⟨.bl _, H', I', rfl, q'⟩
theorem ifBound_objNe {M : Model} {A : Around} {E : Value → Shared → Prop} {s : Shared} {K : PySem.W.Frag} {x C : Addr} {ox : Obj} {od : Option Obj} {args : List Value} {Q : Option Value → Shared → Prop} (X : K.In s.heap) (I : PySem.W.InstAt s.heap x ox C od) (hs : PySem.W.findIn K (.ref C) "__ne__" = some (some (.builtin "object.__ne__")))
    (h : wpAny M A (call (.builtin "object.__ne__") (.ref x :: args)) (fun v => Q (some v)) E s) : wpAny M A (callSpecialIfBound? (.ref x) "__ne__" args) Q E s := by
  simp only [callSpecialIfBound?, bindSpecialIfBound?]
  refine wpAny_holding (wpAny_bind (wpAny_bind (wpAny_bind (I.type.here ((PySem.W.looks_findIn X hs).here ?_)))))
  refine wpAny_bind (wpAny_askSetting (wpAny_ite ?_))
  have fin : wpAny M A (call (.builtin "object.__ne__") ([.ref x] ++ args) >>= fun v => pure (some v)) Q E s := wpAny_bind (wpAny_mono h (fun v s' h' => wpAny_pure h') fun _ _ h' => h')
  split
  · exact wpAny_bind (wpAny_of_eq (F.cmp_object.ne.bind _) (wpAny_pure (by exact fin)))
  · exact wpAny_tryCatch (wpAny_bind (wpAny_of_eq (F.cmp_object.ne.bind _) (wpAny_pure (by exact fin))))
theorem entry_objNe {prog : Program} {w : World} {A : Around} {E : Value → Shared → Prop} {s : Shared} {K : PySem.W.Frag} {x y C f : Addr} {ox : Obj} {od : Option Obj} {Q : Fin → Shared → Prop} (hu : A.units < cLine) (X : K.In s.heap) (I : PySem.W.InstAt s.heap x ox C od) (hs : PySem.W.findIn K (.ref C) "__eq__" = some (some (.ref f))) (hf : PySem.W.isFn K (.ref f) = true)
    (hcall : wpAny (model prog w) A (call (.ref f) [.ref x, .ref y]) (fun v s' => ∃ b, v = .bool b ∧ Q (.done (.ret (.bool (!b)))) s') E s) :
    wpAny (model prog w) A (Builtin.«object.__ne__» ⟨[.ref x, .ref y], []⟩) Q E s := by
  unfold Builtin.«object.__ne__»
  repeat (first
    | with_reducible refine wpAny_cRoomFor hu ?_
    | (refine wpAny_bind (m := callSpecialIfBound? (.ref x) (Str.ofString "__eq__") [.ref y])
        (PySem.W.ifBound_K X I hs hf (wpAny_mono hcall (fun r s' hr => by
          obtain ⟨b, rfl, hq⟩ := hr
          repeat (first | exact hq | exact wpAny_pure hq | exact wpAny_truthy_bool hq | (refine wpAny_bind (m := truthy (.bool _)) (wpAny_truthy_bool ?_)) | wp_step)) fun _ _ e => e)))
    | wp_step)
theorem op_neO (hn : PySem.W.findIn X.K (.ref C) "__ne__" = some (some (.builtin "object.__ne__"))) (hm : PySem.W.mroIn X.K C (.type "object") = some true) (hs : PySem.W.findIn X.K (.ref C) "__eq__" = some (some (.ref f))) (hf : PySem.W.isFn X.K (.ref f) = true) (Fk : FnOk X.prog X.w X.K X.mg X.base CX0 k f fd ps sp) (hb : Binds X.K fd ps []) (hr : Room (k + 1) X.A) : OpR X (compareOp .NotEq) (rOwnC C sp true) := by
  intro pins s σ H x y v u Q I rx ry h
  obtain ⟨a, b, dx, dy, fs, gs, rfl, rfl, ha, hb', q⟩ := h
  cases rx
  cases ry
  obtain ⟨mA, J, _⟩ := ins_get I.hok ha
  obtain ⟨mB, J', _⟩ := ins_get I.hok hb'
  obtain ⟨od, J, _⟩ := J.look
  obtain ⟨od', J', _⟩ := J'.look
  have rv2 : Vals [V.ref a, V.ref b] [Value.ref a, Value.ref b] := .cons rfl (.cons rfl .nil)
  have main : wpAny (model X.prog X.w) X.A.in1 (call (.ref f) [.ref a, .ref b]) (fun v s' => ∃ c, v = .bool c ∧ EP X pins σ Q (.bool (!c)) s') X.xe s := by
    refine wpAny_mono (run_own Fk hb hr.in1 I.env0.in1 I rv2 q) (fun r s' z => ?_) fun _ _ e => e
    obtain ⟨v, H', I', rv, c, ev, q'⟩ := z
    subst ev
    cases rv
    exact ⟨c, rfl, .bl _, H', I', rfl, q'⟩
  have one : wpAny (model X.prog X.w) X.A (tryCompare (.ref a) "__ne__" (.ref b)) (fun r s' => ∃ v, r = some v ∧ EP X pins σ Q v s') X.xe s := by
    unfold tryCompare
    refine wpAny_bind (ifBound_objNe I.kIn J hn (wpAny_call (codeAny_call_builtin F.cmp_object.ne.plain F.cmpEntry_ne
      (PySem.W.check_slot F.cmpKind_ne F.cmpSplit_ne (J.type.andThen (PySem.W.looks_mroIn I.kIn hm)) (F.cmpArgs_ne _ _)
        (entry_objNe (A := X.A.in1) hr.in1.units0 I.kIn J hs hf (wpAny_mono main (fun v s' hv => ?_) fun _ _ e => e))))))
    obtain ⟨c, rfl, hq⟩ := hv
    first | exact ⟨c, rfl, wpAny_pure ⟨_, rfl, hq⟩⟩ | exact ⟨c, rfl, wpAny_pure (wpAny_pure ⟨_, rfl, hq⟩)⟩ | exact ⟨c, rfl, ⟨_, rfl, hq⟩⟩
  show wpAny (model X.prog X.w) X.A (richCompare .NotEq (.ref a) (.ref b)) _ _ s
  unfold richCompare
  simp only [oneThing_ref]
  refine wpAny_holding (wpAny_bind (wpAny_cRoomFor hr.units0 ?_))
  rw [cmpInfo_NotEq]
  dsimp only
  refine wpAny_bind (J.type.here (wpAny_bind (J'.type.here ?_)))
  rw [show (Value.ref C != Value.ref C) = false from by simp]
  simp only [Bool.false_eq_true, if_false]
  refine wpAny_bind (wpAny_pure ?_)
  simp only [Bool.false_eq_true, if_false]
  refine wpAny_bind (wpAny_mono one (fun r s' z => ?_) fun _ _ e => e)
  obtain ⟨v, rfl, hq⟩ := z
  exact wpAny_pure hq
def rGetO (C : Addr) (sp : Sp) : R2 := fun x y H Q => ∃ a dx fs, x = .ref a ∧ H a = some (.ins C dx fs) ∧ sp [x, y] H Q E0
theorem pe_getO {a b : Expr} {ta tb : TE} {pos : Pos} (hs : PySem.W.findIn X.K (.ref C) "__getitem__" = some (some (.ref f))) (hf : PySem.W.isFn X.K (.ref f) = true) (hfi : PySem.W.fnIn X.K f = true) (Fk : FnOk X.prog X.w X.K X.mg X.base CX0 k f fd ps sp) (hbi : Binds X.K fd ps []) (hr : Room (k + 1) X.A)
    (ha : PE X a ta) (hb : PE X b tb) (hsl : ∀ u v, subscripted b true u v = runValue (.builtin "lifetime.subscript" ⟨[u, v], []⟩)) : PE X (.Subscript a b pos) (tOp (rGetO C sp) ta tb) := by
  refine ⟨fun pins s σ H Q I h => ?_⟩
  refine Subscript_ (binT ha hb I h fun v u s2 x y H2 I2 rx ry q => ?_)
  obtain ⟨p, dx, fs, ex, hp, q⟩ := q
  subst ex
  cases rx
  obtain ⟨mA, J, _⟩ := ins_get I2.hok hp
  obtain ⟨od, J, _⟩ := J.look
  obtain ⟨m, hF⟩ := I2.fr
  have rv : Vals [V.ref p, y] [Value.ref p, u] := .cons rfl (.cons ry .nil)
  exact PySem.W.sub_K hF I2.ok.mod.kin J hs hfi hf (run_own Fk hbi hr.in1 I2.env0.in1 I2 rv q) (hsl _ _)
variable {E : XK} {ρ : Rho} {R : DF} {a b : Expr} {ta tb : DX} {pos : Pos}
def rdOwn (C : Addr) (R : DF) (neg : Bool) : DR2 := fun ρ x y P => (∃ ns ds, Sees ρ x (.obj C ns ds)) ∧ (∃ ns ds, Sees ρ y (.obj C ns ds)) ∧ R [x, y] [] ⟨fun d _ => ∃ c, d = .bl c ∧ P (.bl (if neg then !c else c)), exN⟩
theorem l_own {K : PySem.W.Frag} {neg : Bool} : Lift2 K (rOwnC C (Pr K (NoX R)) neg) (rdOwn C R neg) := fun G F H σ ρ d1 d2 v1 v2 P Q env r1 r2 ⟨⟨ns, ds, s1⟩, ⟨ns', ds', s2⟩, q⟩ kk => by
  obtain ⟨p, dx, vs, ev, hl, hH, rs⟩ := env.obj s1 r1
  obtain ⟨p', dx', vs', ev', hl', hH', rs'⟩ := env.obj s2 r2
  refine ⟨p, p', dx, dx', _, _, ev, ev', hH, hH', F, [d1, d2], [], _, env.fit, cells_nil, Reps.cons r1 (Reps.one r2), ⟨q, fun _ _ _ _ z => z⟩, fun F' H' d v os' a rv ⟨c, ed, hp⟩ => ?_, fun _ _ _ _ _ _ _ _ _ _ _ _ z => z.elim⟩
  subst ed
  cases rv
  have g : Grow F H F' H' := ⟨a.le, a.fit, fun b u h => a.keep b u h (by simp [addrs]), a.new⟩
  exact ⟨c, rfl, kk F' H' (.bl _) _ g rfl hp⟩
/-- own ==: what a caller takes -/
theorem px_eqOwn (M : KnS X.prog X.w X.K X.mg X.base C "__eq__" k ps R) (hr : Room k X.A) (ha : PX X E a ta) (hb : PX X E b tb) (hm : behindInMarks .Eq b = false := by first | exact nomark _ | rfl) : PX X E (.Compare a [.Eq] [b] pos) (dOp (rdOwn C R false) ta tb) := by
  obtain ⟨f, fd, h1, h2, h3, h4, h5⟩ := M.ex
  exact px_cmp (op_eqO h1 h2 h5 h4 hr) l_own ha hb hm
theorem px_neOwn (M : KnS X.prog X.w X.K X.mg X.base C "__eq__" k ps R) (hn : PySem.W.findIn X.K (.ref C) "__ne__" = some (some (.builtin "object.__ne__"))) (hmr : PySem.W.mroIn X.K C (.type "object") = some true) (hr : Room (k + 1) X.A) (ha : PX X E a ta) (hb : PX X E b tb) (hm : behindInMarks .NotEq b = false := by first | exact nomark _ | rfl) : PX X E (.Compare a [.NotEq] [b] pos) (dOp (rdOwn C R true) ta tb) := by
  obtain ⟨f, fd, h1, h2, h3, h4, h5⟩ := M.ex
  exact px_cmp (op_neO hn hmr h1 h2 h5 h4 hr) l_own ha hb hm
def dGetO (C : Addr) (R : DF) (ta tb : DX) : DX := fun ρ P => ta ρ ⟨fun x ρ1 => (tb ρ1 ⟨fun y ρ2 => (∃ ns ds, Sees ρ2 x (.obj C ns ds)) ∧ R [x, y] [] ⟨fun d _ => P.ok d ρ2, exN⟩, P.ex⟩), P.ex⟩
theorem px_getOwn (M : KnS X.prog X.w X.K X.mg X.base C "__getitem__" k ps R) (hr : Room (k + 1) X.A) (ha : PX X E a ta) (hb : PX X E b tb) (hsl : ∀ u v, subscripted b true u v = runValue (.builtin "lifetime.subscript" ⟨[u, v], []⟩) := by intro _ _; with_unfolding_all rfl) : PX X E (.Subscript a b pos) (dGetO C R ta tb) := by
  obtain ⟨f, fd, h1, h2, h3, h4, h5⟩ := M.ex
  exact px_of (pe_getO h1 h2 h3 h5 h4 hr ha hb hsl) fun G F H σ ρ P Q env q k x => ⟨G, F, ρ, _, env, q, fun F1 H1 d1 v1 ρ1 l1 env1 r1 q1 => ⟨G, F1, ρ1, _, env1, q1, fun F2 H2 d2 v2 ρ2 l2 env2 r2 ⟨⟨ns, ds, s⟩, q2⟩ => by
    obtain ⟨p, dx, vs, ev, hl, hH, rs⟩ := env2.obj s (r1.mono l2)
    exact ⟨p, dx, _, ev, hH, pr_call0 env2 (Reps.cons (r1.mono l2) (Reps.one r2)) q2 (fun F' H' d v ρ' l => k F' H' d v ρ' ((l1.trans l2).trans l))⟩, x.le l1⟩, x⟩

/-! ### calls without arguments, with keywords -/
theorem px_call00 {x : Str} {p : Pos} (G : Kn0 X.prog X.w X.K X.mg X.base x k ps R) (hr : Room k X.A) (hg : Gl X x := by rfl) (hdb : (x == ("__debug__" : Str)) = false := by decide) : PX X E (.Call (.Name x p) [] [] pos) (dCall0 R dNil) := by
  obtain ⟨f, fd, mf, kp, b, Fk⟩ := G.ex
  exact px_of (pe_call0 Fk hr hg mf kp b .nil pass0 hdb) fun G F H σ ρ P Q env q k x => by
    have z : Pr X.K (NoX R) [] H Q E0 := pr_call0 env (ds := []) (vs := []) rfl q (fun F' H' d v ρ' l => k F' H' d v ρ' l)
    exact z
end
end DL

set_option Elab.async false
set_option linter.all false
set_option maxRecDepth 100000
set_option maxHeartbeats 2000000
namespace DL
open PySem PySem.Spec PyProof PyProof.Rows L2 TL

/-! ### f(x = e), one keyword alone -/
structure KnK (P : Program) (w : World) (K : PySem.W.Frag) (mg : Str → Option Value) (base : Heap) (x y : Str) (k : Nat) (R : DF) : Prop where
  ex : ∃ f fd, mg x = some (.ref f) ∧ PySem.W.keepIn K (.ref f) = true ∧ KBinds K fd [y] [y] (fun us ws => us ++ ws) (fun vs zs => vs ++ zs) ∧ FnOk P w K mg base CX0 k f fd [y] (Pr K (NoX R))
section
variable {X : Cx} {E : XK} {x y : Str} {k : Nat} {R : DF} {e : Expr} {te : DX} {p pos kpos : Pos}
theorem pe_callK1 {f : Addr} {fd : FuncData} {ps ks : List Str} {CX : CXT} {sp : Sp} {g : List Value → List Value → List Value} {gV : List V → List V → List V} {kws : List Keyword} {tk : TA} (Fk : FnOk X.prog X.w X.K X.mg X.base CX k f fd ps sp) (hr : Room k X.A) (hg : Gl X x) (hm : X.mg x = some (.ref f)) (hk : PySem.W.keepIn X.K (.ref f) = true) (hb : KBinds X.K fd ps ks g gV) (hx : Passes CX X E)
    (hkw : PK X kws tk) (hall : (backToKw pos (keywordEach kws X.env)).all (·.1.isSome) = true) (hks : (backToKw pos (keywordEach kws X.env)).filterMap (·.1) = ks) (hdb : (x == ("__debug__" : Str)) = false)
    (hpl : ((backTo pos (starEach [] X.env)).any (·.1) || (backToKw pos (keywordEach kws X.env)).any (·.1.isNone)) = false) : PE X (.Call (.Name x p) [] kws pos) (fun σ H Q => tk σ H fun zs H1 => sp (gV [] zs) H1 Q E) := by
  refine ⟨fun pins s σ H Q I h => ?_⟩
  refine wpAny_Call_Name_kw (ld_glob I hg hm ?_ hdb)
  refine PySem.W.callWith_KW0 (h₀ := X.base) I.ok.mod.kin hk hall (thn (hkw.run pos pins s σ H _ I h) fun ws s2 ⟨zs, H2, I2, rz, q2⟩ => ⟨I2.kIn, ?_⟩) hpl
  rw [hks]
  exact run_fnk (us := []) (vs := []) Fk hr hb hx I2 .nil rz q2
theorem px_callK1 (G : KnK X.prog X.w X.K X.mg X.base x y k R) (hr : Room k X.A) (he : PX X E e te) (hg : Gl X x := by rfl) (hdb : (x == ("__debug__" : Str)) = false := by decide)
    (hall : (backToKw pos (keywordEach [⟨some y, e, kpos⟩] X.env)).all (·.1.isSome) = true := by rfl) (hks : (backToKw pos (keywordEach [⟨some y, e, kpos⟩] X.env)).filterMap (·.1) = [y] := by rfl)
    (hpl : ((backTo pos (starEach [] X.env)).any (·.1) || (backToKw pos (keywordEach [⟨some y, e, kpos⟩] X.env)).any (·.1.isNone)) = false := by rfl) : PX X E (.Call (.Name x p) [] [⟨some y, e, kpos⟩] pos) (dCall0 R (dCons te dNil)) := by
  obtain ⟨f, fd, mf, kp, b, Fk⟩ := G.ex
  refine px_of (pe_callK1 Fk hr hg mf kp b pass0 (pk_cons he pk_nil) hall hks hdb hpl) fun G F H σ ρ P Q env q k x => ⟨G, F, ρ, _, env, q, fun F1 H1 d v ρ1 l1 env1 r1 q1 => ?_, x⟩
  have z : Pr X.K (NoX R) [v] H1 Q E0 := pr_call0 env1 (Reps.one r1) q1 (fun F' H' d v ρ' l => k F' H' d v ρ' (l1.trans l))
  exact z

/-! ### C.m(..), m a classmethod -/
structure KnC (P : Program) (w : World) (K : PySem.W.Frag) (mg : Str → Option Value) (base : Heap) (C : Addr) (m : Str) (k : Nat) (R : DF) : Prop where
  ex : ∃ mc p g, ClX.CRead K C mc ∧ ClX.CMet K C mc m p g ∧ FnR P w K mg base CX0 k g (Pr K (NoX R))
theorem px_cmeth {C : Addr} {m : Str} {o : Expr} {es : List Expr} {apos : Pos} {u : DA} {pl : Sem Bool} (M : KnC X.prog X.w X.K X.mg X.base C m k R) (hr : Room k X.A) (ho : PX X E o (dC (.raw (.ref C)))) (ha : PXA X E (e :: es) u)
    (hst : starEach (e :: es) X.env = (false, eval e X.env) :: starEach es X.env := by rfl) (hpl : (backTo pos (starEach es X.env)).any (·.1) = false := by rfl)
    (ht : eval (.Call (.Attribute o m apos) (e :: es) [] pos) X.env = (do
      let ov ← eval o X.env
      standAt apos.atName
      let (f, first) ← holding [ov] (getMethod ov m pl)
      callWith pos f first (backTo pos (starEach (e :: es) X.env)) (backToKw pos (keywordEach [] X.env))) := by rfl) : PX X E (.Call (.Attribute o m apos) (e :: es) [] pos) (fun ρ P => u ρ ⟨fun ds ρ1 => R (.raw (.ref C) :: ds) [] ⟨fun d _ => P.ok d ρ1, exN⟩, P.ex⟩) := by
  obtain ⟨mc, p, g, h1, h2, Fk⟩ := M.ex
  refine px_of (ClX.pe_cmeth (pl := pl) ho h1 h2 Fk hr pass0 ha hst hpl ht) fun G F H σ ρ P Q env q k x => ⟨G, F, ρ, ⟨fun d ρ1 => d = .raw (.ref C) ∧ ρ1 = ρ, P.ex⟩, env, ⟨rfl, rfl⟩, fun F1 H1 d v ρ1 l1 env1 r1 ⟨ed, er⟩ => ?_, x⟩
  subst ed er
  have ev : v = .ref C := r1
  subst ev
  refine ⟨rfl, G, F1, _, _, env1, q, fun F2 H2 ds vs ρ2 l2 env2 r2 q2 => ?_, x.le l1⟩
  exact pr_call0 env2 (Reps.cons (d := .raw (.ref C)) rfl r2) q2 (fun F' H' d v ρ' l => k F' H' d v ρ' ((l1.trans l2).trans l))
end
end DL

set_option Elab.async false
set_option linter.all false
set_option maxRecDepth 100000
set_option maxHeartbeats 2000000
namespace DL
open PySem PySem.Spec PyProof PyProof.Rows L2 TL

/-! ### **d -/
section
variable {prog : Program} {w : World} {A : Around} {E : Value → Shared → Prop} {s : Shared}
theorem merge_into {d a : Addr} {vs : List (Key × Value)} {Q : Unit → Shared → Prop} (hda : d ≠ a) (haS : (a == sysModules) = false) (htx : ∀ kv ∈ vs, ∃ x : Str, kv.1 = Sum.inr x)
    (hd : s.heap.DictOf (mixKind prog w) d []) (ha : s.heap.DictOf (mixKind prog w) a vs) (hz : vs.length ≤ sizeLine)
    (hQ : ∀ h', h'.DictOf (mixKind prog w) d vs → Heap.SameBut d s.heap h' → Q () { s with heap := h' }) : wpAny (model prog w) A (mergeMapping d (.ref a) true) Q E s := by
  obtain ⟨od, esd, epd, hod, hcd, hdd, hkd, hpd, hnd⟩ := id hd
  obtain ⟨oo, eso, epo, hoo, hco, hdo', hko, hpo, hno⟩ := id ha
  have hlen : vs.length = eso.size := by rw [← hpo.length]; simp
  have hT : s.TypeIs (.ref a) "dict" := ⟨oo, hoo, hco.1⟩
  have nores : ∀ e ∈ eso, ∃ k t, e.key = .str k t := fun e he => by
    obtain ⟨j, hj, rfl⟩ := Array.mem_iff_getElem.mp he
    obtain ⟨kv, hkv⟩ : ∃ kv, vs[j]? = some kv := ⟨vs[j]'(by omega), List.getElem?_eq_getElem _⟩
    obtain ⟨hkey, _⟩ := hpo.get? (e := eso[j]) (by simp [hj]) hkv
    obtain ⟨x, hx⟩ := htx kv (List.mem_of_getElem? hkv)
    rw [hx] at hkey
    exact ⟨x, Value.isStrOf_shape (x := x) hkey⟩
  have esd0 : esd = #[] := by
    have h1 := hpd.length
    have h2 : esd.toList = [] := List.length_eq_zero_iff.mp (by simpa using h1)
    exact Array.toList_eq_nil_iff.mp h2
  subst esd0
  unfold mergeMapping
  refine wpAny_bind (wpAny_bind (wpAny_typeOf hT (wpAny_of_eq isSubtype_dict_dict ?_)))
  rw [if_pos rfl]
  refine wpAny_bind (wpAny_specialOf hT PySem.F.slot_dict_iter.lookup (wpAny_bind (wpAny_pure ?_)))
  rw [show ((some (Value.builtin "dict.__iter__") == some (Value.builtin "dict.__iter__")) : Bool) = true from by simp]
  dsimp only
  rw [haS]
  simp only [Bool.false_eq_true, if_false]
  refine wpAny_bind (wpAny_dictEntries hod hdd ?_)
  rw [if_pos (by rfl)]
  refine wpAny_bind (wpAny_dictEntries hoo hdo' (wpAny_bind ?_))
  rw [← Array.forIn_toList]
  refine wpAny_forIn_list _ (fun rest _ s' => s' = s ∧ ∀ e ∈ rest, e ∈ eso) _ ?_ ?_ _ _ ⟨rfl, fun e he => Array.mem_toList_iff.mp he⟩
  · rintro x rest b s' ⟨rfl, hm⟩
    obtain ⟨k, t, hk⟩ := nores x (hm x (by simp))
    rw [hk]
    exact wpAny_pure ⟨rfl, fun e he => hm e (by simp [he])⟩
  rintro b s1 ⟨e1, _⟩
  rw [e1]
  refine wpAny_bind (wpAny_dictEntries hoo hdo' ?_)
  refine wpAny_bind (wpAny_dictEpoch hoo hdo' (wpAny_bind ?_))
  rw [List.range_eq_range']
  refine wpAny_forIn_list _ (fun rest _ s' => ∃ h' i, s' = { s with heap := h' } ∧ rest = List.range' i (eso.size - i) ∧ i ≤ eso.size ∧ h'.DictOf (mixKind prog w) d (vs.take i) ∧ h'.get? a = some oo ∧ Heap.SameBut d s.heap h') _ ?_ ?_ _ _ ⟨s.heap, 0, rfl, by simp, Nat.zero_le _, by simpa using hd, hoo, Heap.SameBut.refl _ _⟩
  · rintro x rest b s' ⟨h', i, rfl, hr, hi, hd', hoo', hs'⟩
    have hlt : i < eso.size := by
      rcases Nat.lt_or_ge i eso.size with h | h
      · exact h
      · rw [Nat.sub_eq_zero_of_le h] at hr; simp at hr
    obtain ⟨rfl, hrest⟩ : x = i ∧ rest = List.range' (i + 1) (eso.size - (i + 1)) := by
      have e : eso.size - i = (eso.size - (i + 1)) + 1 := by omega
      rw [e, List.range'_succ] at hr
      injection hr with h1 h2
      exact ⟨h1, h2⟩
    refine wpAny_bind (wpAny_dictEntries hoo' hdo' ?_)
    rw [Array.getElem?_eq_getElem hlt]
    obtain ⟨kv, hkv⟩ : ∃ kv, vs[x]? = some kv := ⟨vs[x]'(by rw [hlen]; exact hlt), List.getElem?_eq_getElem _⟩
    obtain ⟨k, v⟩ := kv
    obtain ⟨hkey, hval⟩ := hpo.get? (e := eso[x]) (by simp [hlt]) hkv
    obtain ⟨k', hkey', hhash⟩ := hko eso[x] (Array.getElem_mem hlt)
    obtain rfl : k' = k := (mixKind prog w).inj _ _ _ hkey' hkey
    have tks : vs.take (x + 1) = vs.take x ++ [(k', v)] := by
      rw [List.take_add_one, hkv]
      rfl
    have hnt : ((vs.take (x + 1)).map (·.1)).Nodup := hno.sublist ((List.take_sublist _ _).map _)
    have fresh : k' ∉ (vs.take x).map (·.1) := fun m => by
      rw [tks, List.map_append] at hnt
      exact (List.nodup_append.mp hnt).2.2 k' m k' (by simp) rfl
    obtain ⟨o1, es1, ep1, h1, h2, h3, h4, h5, h6⟩ := hd'
    have hidx : (es1.findIdx? fun e => (mixKind prog w).is k' e.key) = none := by
      have e1 : (es1.findIdx? fun e => (mixKind prog w).is k' e.key) = (vs.take x).findIdx? fun kv => decide (kv.1 = k') := by
        rw [← h5.findIdx k']; obtain ⟨l⟩ := es1; simp
      rw [e1, List.findIdx?_eq_none_iff]
      intro kv hkv'
      refine decide_eq_false fun z => fresh ?_
      rw [← z]
      exact List.mem_map_of_mem hkv'
    dsimp only
    rw [hhash, hval]
    have hes1 : es1.size ≤ sizeLine := by
      have e1 := h5.length
      have e2 : es1.toList.length = es1.size := by simp
      have e3 : (vs.take x).length ≤ vs.length := by rw [List.length_take]; omega
      omega
    refine wpAny_bind (wpAny_holding ?_)
    rw [if_pos trivial]
    refine wpAny_bind (wpAny_dictFind_of hkey h1 h3 h4 ?_)
    rw [hidx]
    simp only [Option.isSome_none, Bool.false_eq_true, if_false]
    unfold dictPut
    refine wpAny_bind (wpAny_dictFind_of hkey h1 h3 h4 ?_)
    rw [hidx]
    dsimp only
    refine wpAny_updateDictKeys (hz := hes1) h1 h3 ?_
    have sb : Heap.SameBut d h' (h'.update d (Obj.mapDictKeys (·.push ⟨(mixKind prog w).hash k', eso[x].key, v⟩))) := Heap.SameBut.update ..
    have ho2 := (sb.2 a (Ne.symm hda)).trans hoo'
    refine wpAny_bind (wpAny_dictEpoch ho2 hdo' ?_)
    rw [if_neg (by simp)]
    refine wpAny_pure ⟨_, x + 1, rfl, hrest, hlt, ⟨_, _, ep1 + 1, Heap.get?_update_self _ h1 (Obj.isFreed_of_dict (Obj.data_mapDictKeys h3 _)), h2.mapDictKeys _, Obj.data_mapDictKeys h3 _, h4.push hkey _, ?_, hnt⟩, ho2, hs'.trans sb⟩
    rw [tks]
    have := h5.append hkey ((mixKind prog w).hash k') v
    obtain ⟨l⟩ := es1
    simpa using this
  · rintro b s' ⟨h', i, rfl, hr, hi, hd', hoo', hs'⟩
    have hin : i = eso.size := by
      rcases Nat.lt_or_ge i eso.size with h | h
      · have e : eso.size - i = (eso.size - (i + 1)) + 1 := by omega
        rw [e, List.range'_succ] at hr; exact nomatch hr
      · exact Nat.le_antisymm hi h
    refine wpAny_pure (hQ h' ?_ hs')
    rw [hin, ← hlen, List.take_length] at hd'; exact hd'
end
end DL

set_option Elab.async false
set_option linter.all false
set_option maxRecDepth 100000
set_option maxHeartbeats 2000000
namespace DL
open PySem PySem.Spec PyProof PyProof.Rows L2 TL

/-! ### a def with **kw -/
section
variable {prog : Program} {w : World} {A : Around} {E : Value → Shared → Prop}
theorem nsSet_new {s : Shared} {d : Addr} {es : List DictEntry} {n : Nat} {k : Str} {v : Value} {Q : Unit → Shared → Prop} (ho : s.heap.get? d = some (PySem.W.dictOf es n)) (hs : ∀ e ∈ es, e.key.isStr k = false) (hr : ∀ e ∈ es, e.refKey = false)
    (h : ∀ h', h'.get? d = some (PySem.W.dictOf (es ++ [⟨PyData.keyHash w.params k, .str k s.toks, v⟩]) (n + 1)) → Heap.SameBut d s.heap h' → Q () { s with heap := h', toks := s.toks + 1 }) :
    wpAny (model prog w) A (nsSet d k v) Q E s := by
  have e1 : es.any (·.key.isStr k) = false := by
    cases q : es.any (·.key.isStr k) with
    | false => rfl
    | true => obtain ⟨e, he, z⟩ := List.any_eq_true.mp q; rw [hs e he] at z; cases z
  have e2 : es.any (·.refKey) = false := by
    cases q : es.any (·.refKey) with
    | false => rfl
    | true => obtain ⟨e, he, z⟩ := List.any_eq_true.mp q; rw [hr e he] at z; cases z
  have e : Obj.putName k (PyData.keyHash w.params k) (.str k s.toks) v (PySem.W.dictOf es n) = PySem.W.dictOf (es ++ [⟨PyData.keyHash w.params k, .str k s.toks, v⟩]) (n + 1) := by
    rw [PySem.W.putName_dict, PySem.W.putL_new hs]
    show PySem.W.dictOf _ (if es.any (·.key.isStr k) then n else n + 1) = _
    rw [e1, if_neg Bool.false_ne_true]
  have c : aRefKeyMayBeTheName k es.toArray = false := by
    rw [aRefKeyMayBeTheName_at, ← Array.any_toList, ← Array.any_toList]
    show (!es.any (·.key.isStr k) && es.any (·.refKey)) = false
    rw [e2, Bool.and_false]
  unfold nsSet
  refine wpAny_bind (wpAny_bind (wpAny_askSetting (wpAny_pure (wpAny_bind (wpAny_mkText (wpAny_bind (wpAny_loadPart ho ?_)))))))
  dsimp only
  rw [c]
  have e3 : (s.heap.update d (Obj.putName k (PyData.keyHash w.params k) (.str k s.toks) v)).get? d = some (PySem.W.dictOf (es ++ [⟨PyData.keyHash w.params k, .str k s.toks, v⟩]) (n + 1)) := by
    rw [Heap.get?_update_self _ ho (by rw [e]; rfl), e]
  exact wpAny_updatePart ho (h _ e3 (Heap.SameBut.update ..))
theorem fill_ns {d : Addr} {Q : PUnit → Shared → Prop} : ∀ (ex : List (Str × Value)) (s : Shared) (es : List DictEntry) (n : Nat), s.heap.get? d = some (PySem.W.dictOf es n) →
    (∀ e ∈ es, ∀ x ∈ ex, e.key.isStr x.1 = false) → (∀ e ∈ es, e.refKey = false) → (ex.map (·.1)).Nodup →
    (∀ h' t, h'.get? d = some (PySem.W.dictOf (es ++ PySem.W.kwEs w.params s.toks ex) (n + ex.length)) → Heap.SameBut d s.heap h' → Q ⟨⟩ { s with heap := h', toks := t }) →
    wpAny (model prog w) A (forIn ex PUnit.unit fun x _ => (nsSet d x.1 x.2 >>= fun _ => pure (ForInStep.yield PUnit.unit))) Q E s
  | [], s, es, n, ho, _, _, _, h => by
    rw [List.forIn_nil]
    refine wpAny_pure (h s.heap s.toks ?_ (Heap.SameBut.refl _ _))
    show s.heap.get? d = some (PySem.W.dictOf (es ++ []) n)
    rw [List.append_nil]
    exact ho
  | x :: r, s, es, n, ho, hs, hr, hn, h => by
    obtain ⟨hn1, hn2⟩ := List.nodup_cons.mp (show (x.1 :: r.map (·.1)).Nodup from hn)
    rw [List.forIn_cons]
    refine wpAny_bind (wpAny_bind (nsSet_new ho (fun e he => hs e he x (.head _)) hr fun h' ho' sb' => wpAny_pure ?_))
    show wpAny (model prog w) A (forIn r PUnit.unit fun x _ => (nsSet d x.1 x.2 >>= fun _ => pure (ForInStep.yield PUnit.unit))) Q E { s with heap := h', toks := s.toks + 1 }
    refine fill_ns r { s with heap := h', toks := s.toks + 1 } _ _ ho' (fun e he y hy => ?_) (fun e he => ?_) hn2 fun h'' t ho'' sb'' => ?_
    · rcases List.mem_append.mp he with he | he
      · exact hs e he y (.tail _ hy)
      · obtain rfl := List.mem_singleton.mp he
        show (x.1 == y.1) = false
        exact beq_eq_false_iff_ne.mpr fun q => hn1 (by rw [q]; exact List.mem_map_of_mem hy)
    · rcases List.mem_append.mp he with he | he
      · exact hr e he
      · obtain rfl := List.mem_singleton.mp he
        rfl
    · refine h h'' t ?_ (sb'.trans sb'')
      have t2 : n + 1 + r.length = n + (r.length + 1) := by omega
      rw [t2, List.append_assoc] at ho''
      exact ho''
theorem kwEs_mix : ∀ (ks : List Str) (ws : List Value) (t : Tok), ks.length = ws.length → Pairs (mixKind prog w) (PySem.W.kwEs w.params t (ks.zip ws)) ((ks.map Sum.inr).zip ws)
  | [], [], _, _ => Pairs.nil
  | k :: ks, v :: ws, t, h => by
    refine Pairs.cons ?_ rfl (kwEs_mix ks ws (t + 1) (by simpa using h))
    exact keyIs_str k t
theorem kw_dict {h : Heap} {d : Addr} {ks : List Str} {ws : List Value} {t : Tok} {n : Nat} (ho : h.get? d = some (PySem.W.dictOf (PySem.W.kwEs w.params t (ks.zip ws)) n)) (hl : ks.length = ws.length) (hn : ks.Nodup) : h.DictOf (mixKind prog w) d ((ks.map Sum.inr).zip ws) := by
  refine ⟨_, (PySem.W.kwEs w.params t (ks.zip ws)).toArray, n, ho, ⟨rfl, rfl, rfl⟩, rfl, fun e he => ?_, kwEs_mix ks ws t hl, ?_⟩
  · obtain ⟨k, u, hk, hh⟩ := PySem.W.kwEs_key _ t e (List.mem_toArray.mp he)
    refine ⟨Sum.inr k, ?_, ?_⟩
    · rw [hk]; exact keyIs_str k u
    · rw [hh]; rfl
  · have e : ((ks.map (Sum.inr : Str → Key)).zip ws).map (·.1) = ks.map Sum.inr := by
      rw [List.map_fst_zip]
      rw [List.length_map, hl]
      exact Nat.le_refl _
    rw [e]
    exact List.Pairwise.map Sum.inr (fun a b h z => h (Sum.inr.inj z)) hn
theorem lookup_zip_us : ∀ {ps : List Str} {us : List Value} {x : Str}, x ∉ ps → (ps.zip us).lookup x = none
  | [], _, _, _ => rfl
  | p :: ps, [], _, _ => rfl
  | p :: ps, u :: us, x, h => by
    have h1 : x ≠ p := fun z => h (by simp [z])
    have h2 : x ∉ ps := fun z => h (by simp [z])
    show List.lookup x ((p, u) :: ps.zip us) = none
    rw [List.lookup_cons, beq_eq_false_iff_ne.mpr h1]
    exact lookup_zip_us h2
theorem bind_kw {s : Shared} {fd : FuncData} {ps : List Str} {pd : Str} {us : List Value} {kw : List (Str × Value)} {an : PySem.Arg} {Q : List (Str × Value) → Shared → Prop} (h1 : fd.params.posonlyargs = []) (h2 : fd.params.args.map (·.arg) = ps) (h3 : fd.params.kwonlyargs = []) (h4 : fd.params.vararg = none)
    (h5 : fd.params.kwarg = some an) (h6 : fd.defaults = .none) (hu : us.length = ps.length) (hn : ps.Nodup) (hk : ∀ x ∈ kw, x.1 ∉ ps) (hnd : (kw.map (·.1)).Nodup) (hz : kw.length ≤ sizeLine)
    (h : ∀ h' t n, h'.get? s.heap.objs.size = some (PySem.W.dictOf (PySem.W.kwEs w.params s.toks kw) n) → (∀ b o, s.heap.get? b = some o → h'.get? b = some o) → h'.objs.size = s.heap.objs.size + 1 →
      Q (ps.zip us ++ [(an.arg, .ref s.heap.objs.size)]) { s with heap := h', toks := t }) : wpAny (model prog w) A (bindArgs fd ⟨us, kw⟩) Q E s := by
  unfold bindArgs
  simp only [h1, h2, h3, h4, h5, h6, List.map_nil, List.nil_append, List.append_nil, List.contains_nil, Bool.or_false]
  refine wpAny_bind ?_
  refine wpAny_forIn_list _ (fun rest b s' => s' = s ∧ b.1 = ps.zip us ∧ b.2 ++ rest = kw) _ ?_ ?_ _ _ ⟨rfl, rfl, rfl⟩
  · rintro ⟨k, v⟩ rest ⟨sl, ex⟩ s' ⟨rfl, hb, he⟩
    have hin : (k, v) ∈ kw := by rw [← he]; simp
    have hc : ps.contains k = false := by
      cases z : ps.contains k with
      | false => rfl
      | true => exact absurd (by simpa using z) (hk _ hin)
    dsimp only
    rw [if_neg (by rw [hc]; exact Bool.false_ne_true), if_pos (by rfl)]
    exact wpAny_pure ⟨rfl, hb, by dsimp only at he ⊢; rw [← he]; simp⟩
  rintro ⟨sl, ex⟩ s1 ⟨e1, hb, he⟩
  dsimp only at hb he
  rw [List.append_nil] at he
  rw [e1]
  subst hb he
  refine wpAny_bind (m := seqItems? Value.none) (wpAny_of_eq (rfl : seqItems? Value.none = pure none) ?_)
  have g1 : (decide (us.length > ps.length) && (none : Option PySem.Arg).isNone) = false := by
    have : ¬ us.length > ps.length := by omega
    simp [this]
  have g2 : ∀ l : List Str, (∀ x ∈ l, x ∈ ps) → (l.filter fun n => ((ps.zip us).lookup n).isNone) = [] := fun l hl => by
    refine List.filter_eq_nil_iff.mpr fun x hx => ?_
    have : ∀ {ps : List Str} {us : List Value}, us.length = ps.length → x ∈ ps → ((ps.zip us).lookup x).isNone = false := by
      intro ps
      induction ps with
      | nil => intro us _ h; cases h
      | cons p ps ih =>
        intro us hu hx
        cases us with
        | nil => cases hu
        | cons u us =>
          show (List.lookup x ((p, u) :: ps.zip us)).isNone = false
          rw [List.lookup_cons]
          by_cases z : x = p
          · subst z; simp
          · rw [beq_eq_false_iff_ne.mpr z]
            exact ih (by simpa using hu) ((List.mem_cons.mp hx).resolve_left z)
    rw [this hu (hl x hx)]
    exact Bool.false_ne_true
  have g3 : (ps.filterMap fun n => ((ps.zip us).lookup n).map (n, ·)) = ps.zip us := by
    have : ∀ (qs : List Str) (vs : List Value) (pre : List (Str × Value)), vs.length = qs.length → qs.Nodup → (∀ q ∈ qs, pre.lookup q = none) → (qs.filterMap fun n => ((pre ++ qs.zip vs).lookup n).map (n, ·)) = qs.zip vs := by
      intro qs
      induction qs with
      | nil => intro vs pre _ _ _; rfl
      | cons q qs ih =>
        intro vs pre hl hnd hp
        cases vs with
        | nil => cases hl
        | cons v vs =>
          obtain ⟨n1, n2⟩ := List.nodup_cons.mp hnd
          have e1 : (pre ++ (q :: qs).zip (v :: vs)).lookup q = some v := by
            rw [List.lookup_append, hp q (by simp)]
            show (none : Option Value).or (List.lookup q ((q, v) :: qs.zip vs)) = some v
            rw [List.lookup_cons]
            simp
          rw [List.filterMap_cons, e1]
          show (q, v) :: _ = (q, v) :: qs.zip vs
          congr 1
          have e2 : pre ++ (q :: qs).zip (v :: vs) = (pre ++ [(q, v)]) ++ qs.zip vs := by simp
          rw [e2]
          refine ih vs (pre ++ [(q, v)]) (by simpa using hl) n2 fun x hx => ?_
          rw [List.lookup_append, hp x (by simp [hx])]
          show (none : Option Value).or (List.lookup x [(q, v)]) = none
          have : x ≠ q := fun z => n1 (z ▸ hx)
          rw [List.lookup_cons, beq_eq_false_iff_ne.mpr this]
          rfl
    have := this ps us [] hu hn (fun _ _ => rfl)
    rw [List.nil_append] at this
    exact this
  have g2' := g2 (ps.take (ps.length - 0)) fun x hx => List.mem_of_mem_take hx
  simp only [Option.getD_none, List.drop_nil, List.length_nil, List.zip_nil_right, List.forIn_nil, pure_bind]
  rw [if_neg (by rw [g1]; exact Bool.false_ne_true), if_neg (by rw [g2']; simp), if_neg (by simp), if_neg (by omega)]
  refine wpAny_bind (wpAny_alloc (wpAny_bind ?_))
  have ho : (s.heap.push { cls := .type "dict", data := .dict #[] }).get? s.heap.objs.size = some (PySem.W.dictOf [] 0) := Heap.get?_push_size _ rfl
  refine fill_ns ex { s with heap := s.heap.push { cls := .type "dict", data := .dict #[] } } [] 0 ho (fun _ h => nomatch h) (fun _ h => nomatch h) hnd fun h' t ho' sb => ?_
  rw [g3]
  refine wpAny_pure (h h' t (0 + ex.length) ho' (fun b o hb => ?_) ?_)
  · have hlt := Heap.lt_size hb
    exact (sb.2 b (Nat.ne_of_lt hlt)).trans (Heap.get?_push_of_some _ hb)
  · rw [sb.1, Heap.size_push]
end
end DL

set_option Elab.async false
set_option linter.all false
set_option maxRecDepth 100000
set_option maxHeartbeats 2000000
namespace DL
open PySem PySem.Spec PyProof PyProof.Rows L2 TL

/-- a def called with keywords that it gathers: ps its names -/
def FnKw (P : Program) (w : World) (K : PySem.W.Frag) (mg : Str → Option Value) (base : Heap) (k : Nat) (f : Addr) (ps : List Str) (sp : Sp) : Prop :=
  ∀ (A : Around) (outer : List PySem.Env) (s : Shared) (H : Hp) (us : List Value) (vs : List V) (ks : List Str) (ws : List Value) (zs : List V) (Q : VK), Room k A → Env0 P w K mg base A outer s H → Vals vs us → Vals zs ws → vs.length = ps.length → ks.length = zs.length → ks.Nodup → ks.length ≤ sizeLine → (∀ x ∈ ks, x ∉ ps) →
    (∀ p, H p = none → sp (vs ++ [V.ref p]) (upd H p (.dK ((ks.map Sum.inr).zip zs))) Q E0) → codeAny (model P w) A (.call (.ref f) ⟨us, ks.zip ws⟩) (CR CX0 outer P w H s Q E0) s
theorem kv_zip : ∀ {ks : List Str} {zs : List V} {ws : List Value}, Vals zs ws → KV ((ks.map (Sum.inr : Str → Key)).zip zs) ((ks.map Sum.inr).zip ws)
  | [], _, _, _ => .nil
  | _ :: _, _, _, .nil => .nil
  | k :: ks, _, _, .cons r t => .cons ⟨rfl, r⟩ (kv_zip t)
section
variable {P : Program} {w : World} {K : PySem.W.Frag} {mg : Str → Option Value} {base : Heap}
theorem env0_new {A : Around} {outer : List PySem.Env} {s : Shared} {H : Hp} {u : HO} {h' : Heap} {t : Nat} (e0 : Env0 P w K mg base A outer s H) (kp : ∀ b x, s.heap.get? b = some x → h'.get? b = some x) (sz : h'.objs.size = s.heap.objs.size + 1) (new : ObjOk P w (upd H s.heap.objs.size u) h' s.heap.objs.size u) :
    Env0 P w K mg base A outer { s with heap := h', toks := t } (upd H s.heap.objs.size u) := by
  refine ⟨e0.frames, e0.mod, fun b x e => ⟨kp b x (e0.bs b x e).1, ?_⟩, ?_, Heap.FunFrames.of_keeps (fun b x e _ => ⟨x, kp b x e, rfl⟩) e0.funs, fun b hb => ?_, e0.hok.laid kp (Nat.le_refl _) new, e0.bare⟩
  · rw [upd_ne (Nat.ne_of_lt (Heap.lt_size (e0.bs b x e).1))]
    exact (e0.bs b x e).2
  · show base.objs.size ≤ h'.objs.size
    rw [sz]
    exact Nat.le_succ_of_le e0.bsz
  · obtain ⟨_, x, hx, _⟩ := e0.funs.mem hb
    rw [upd_ne (Nat.ne_of_lt (Heap.lt_size hx))]
    exact e0.frf b hb
theorem okKw {x qual : Str} {st : Stmt} {f : Addr} {fd : FuncData} {N ps : List Str} {k : Nat} {R : DF} {an : PySem.Arg} (F : Fun K x qual st f fd) (S : FnScope N (ps ++ [an.arg]) (defScope st)) (hn : ps.Nodup)
    (h1 : (defArgs st).posonlyargs = []) (h2 : (defArgs st).args.map (·.arg) = ps) (h3 : (defArgs st).kwonlyargs = []) (h4 : (defArgs st).vararg = none) (h5 : (defArgs st).kwarg = some an)
    (hbp : ∃ t : DS, (∀ (cdv : Value) (A : Around) (outer : List PySem.Env) (s : Shared) (H : Hp), Room k (A.deeper (envOfC qual (defScope st) s.heap.objs.size f cdv)) →
      PXB (cxOf CX0 P w K mg base N qual (defScope st) f cdv A outer s H E0).nox E0 (defBody st) t) ∧
    ∀ ds os P, R ds os P → (∀ C ns ds' os', ¬ P.ex C ns ds' os') → t (start0 N.length ds os) (bodyP P)) : FnKw P w K mg base (k + 1) f ps (Pr K (NoX R)) := by
  obtain ⟨oc, od, kV, doc, pm, ann, cdv, ct, osl, rfl, lk, hcd⟩ := F.ex
  obtain ⟨t, hb, hp⟩ := hbp
  intro A outer s H us vs ks ws zs Q hr e0 r rz hl hkz hnd hsz hdis hq
  have hlen := r.length
  have hlw := rz.length
  refine StX.run_bnd (G := fun xs H2 => ∃ p, H p = none ∧ xs = vs ++ [V.ref p] ∧ H2 = upd H p (.dK ((ks.map Sum.inr).zip zs))) lk hcd S hr e0 (fun A' Ex Q' h => ?_) fun s2 H2 xs ⟨p, hp0, ex, eH⟩ hr' => ?_
  · have hn0 : H s.heap.objs.size = none := e0.hok.fresh (Nat.le_refl _)
    refine bind_kw (pd := an.arg) (an := an) h1 h2 h3 h4 h5 rfl (by omega) hn (fun y hy => hdis _ (List.of_mem_zip hy).1) ?_ ?_ fun h' t' n ho kp sz => ?_
    · rw [List.map_fst_zip (by omega)]; exact hnd
    · rw [List.length_zip]; omega
    · have dd := kw_dict (prog := P) (w := w) ho (by omega) hnd
      have new : ObjOk P w (upd H s.heap.objs.size (.dK ((ks.map Sum.inr).zip zs))) h' s.heap.objs.size (.dK ((ks.map Sum.inr).zip zs)) :=
        ⟨by rw [List.length_zip, List.length_map]; omega, beq_eq_false_iff_ne.mpr (Nat.ne_of_gt (StX.env0_big e0)), _, kv_zip rz, dd⟩
      have z := h { s with heap := h', toks := t' } _ (vs ++ [V.ref s.heap.objs.size]) (us ++ [Value.ref s.heap.objs.size]) (env0_new e0 kp sz new) (Un.laid kp (Nat.le_refl _) hn0) rfl (fun e s' q => q.elim) (r.append (.cons rfl .nil))
        (by rw [List.length_append, List.length_append, hl] <;> rfl) ⟨_, hn0, rfl, rfl⟩
      rw [List.zip_append (by omega)] at z
      exact z
  · subst ex eH
    obtain ⟨F0, ds, os, PP, fit, c, rr, ⟨hR, hx⟩, k1, _⟩ := hq p hp0
    have body := hb cdv A outer s2 (upd H p (.dK ((ks.map Sum.inr).zip zs))) hr'
    refine ⟨_, PSs.nox body, entOf F0 _ os, F0, _, _, env_start fit c rr, hp ds os PP hR hx, ⟨fun F' H' σ' ρ' l e ⟨os', sb, q⟩ => k1 F' H' .non .non os' (env_after e sb) rfl q,
      fun F' H' σ' d v ρ' l e rv ⟨os', sb, q⟩ => k1 F' H' d v os' (env_after e sb) rv q, fun _ _ _ _ _ _ h => h.elim, fun _ _ _ _ _ _ h => h.elim, fun σ F' H' C ns ds' vs' e ρ' σ' l env _ _ _ ⟨os', _, z⟩ => hx C ns ds' os' z⟩⟩
end
end DL

set_option Elab.async false
set_option linter.all false
set_option maxRecDepth 100000
set_option maxHeartbeats 2000000
namespace DL
open PySem PySem.Spec PyProof PyProof.Rows L2 TL

section
variable {prog : Program} {w : World} {A : Around} {E : Value → Shared → Prop} {s : Shared}
theorem keywordsIn_texts {f : Value} {d : Addr} {ks : List Str} {ws : List Value} {Q : List (Str × Value) → Shared → Prop} (hd : s.heap.DictOf (mixKind prog w) d ((ks.map Sum.inr).zip ws)) (hl : ks.length = ws.length) (h : Q (ks.zip ws) s) : wpAny (model prog w) A (keywordsIn f d) Q E s := by
  obtain ⟨o, es, ep, ho, hc, hdt, hk, hp, hn⟩ := hd
  unfold keywordsIn
  refine wpAny_bind (wpAny_dictEntries ho hdt (wpAny_bind ?_))
  rw [← Array.forIn_toList]
  refine wpAny_forIn_list _ (fun rest b s' => s' = s ∧ ∃ k1 w1 k2 w2, ks = k1 ++ k2 ∧ ws = w1 ++ w2 ∧ k1.length = w1.length ∧ Pairs (mixKind prog w) rest ((k2.map Sum.inr).zip w2) ∧ k2.length = w2.length ∧ b = k1.zip w1) _ ?_ ?_ _ _ ⟨rfl, [], [], ks, ws, rfl, rfl, rfl, hp, hl, rfl⟩
  · rintro e rest b s' ⟨es', k1, w1, k2, w2, e1, e2, e3, hp', e4, eb⟩
    cases k2 with
    | nil => exact nomatch hp'
    | cons k k2 =>
      cases w2 with
      | nil => cases e4
      | cons v w2 =>
        cases hp' with
        | cons h1 h2 h3 =>
          obtain ⟨t, ek⟩ := Value.isStrOf_shape (x := k) (v := e.key) h1
          rw [ek]
          refine wpAny_pure ⟨es', k1 ++ [k], w1 ++ [v], k2, w2, by simp [e1], by simp [e2], by simp [e3], h3, by simpa using e4, ?_⟩
          rw [eb, List.zip_append e3, h2]
          rfl
  · rintro b s' ⟨es', k1, w1, k2, w2, e1, e2, e3, hp', e4, eb⟩
    have hz : ((k2.map (Sum.inr : Str → Key)).zip w2).length = 0 := by rw [← hp'.length]; rfl
    rw [List.length_zip, List.length_map] at hz
    have h2 : k2 = [] := List.length_eq_zero_iff.mp (by omega)
    have h3 : w2 = [] := List.length_eq_zero_iff.mp (by omega)
    subst h2 h3
    rw [List.append_nil] at e1 e2
    subst e1 e2
    rw [es', eb]
    exact wpAny_pure h
theorem mergedKw_one {f : Value} {x : Sem Value} {Q : Addr → Shared → Prop}
    (h : wpAny (model prog w) A x (fun v s1 => ∃ a vs, v = .ref a ∧ s.heap.objs.size ≠ a ∧ (a == sysModules) = false ∧ (∀ kv ∈ vs, ∃ y : Str, kv.1 = Sum.inr y) ∧ s1.heap.DictOf (mixKind prog w) s.heap.objs.size [] ∧ s1.heap.DictOf (mixKind prog w) a vs ∧ vs.length ≤ sizeLine ∧
      ∀ h', h'.DictOf (mixKind prog w) s.heap.objs.size vs → Heap.SameBut s.heap.objs.size s1.heap h' → Q s.heap.objs.size { s1 with heap := h' }) E { s with heap := s.heap.push { cls := .type "dict", data := .dict #[] } }) : wpAny (model prog w) A (mergedKeywords f [(none, x)]) Q E s := by
  unfold mergedKeywords
  refine wpAny_bind (wpAny_alloc ?_)
  refine wpAny_bind (wpAny_holding ?_)
  dsimp only
  rw [List.forIn_cons]
  dsimp only
  refine wpAny_bind (wpAny_bind (wpAny_bind ?_))
  rw [if_pos (by rfl)]
  refine wpAny_pure (wpAny_bind (wpAny_mono h (fun v s1 h1 => ?_) fun _ _ e => e))
  obtain ⟨a, vs, ev, hda, haS, htx, hd, ha, hz, hQ⟩ := h1
  subst ev
  refine wpAny_bind (wpAny_onRaise (wpAny_holding (wpAny_tryCatch (wpAny_onRaise (merge_into hda haS htx hd ha hz fun h' hd' sb => ?_)))))
  refine wpAny_pure ?_
  dsimp only
  rw [List.forIn_nil]
  refine wpAny_pure ?_
  rw [if_pos (by rfl)]
  first | exact wpAny_pure (hQ h' hd' sb) | exact wpAny_pure (wpAny_pure (hQ h' hd' sb))
theorem evalArgs_spread {f : Value} {x y : Sem Value} {rest : List (Bool × Sem Value)} {Q : Args → Shared → Prop}
    (h : wpAny (model prog w) A (spliced ((false, x) :: rest)) (fun us s0 => wpAny (model prog w) A y (fun v s1 => ∃ (a : Addr) (ks : List Str) (ws : List Value), v = .ref a ∧ s0.heap.objs.size ≠ a ∧ (a == sysModules) = false ∧ ks.length = ws.length ∧ s1.heap.DictOf (mixKind prog w) s0.heap.objs.size [] ∧ s1.heap.DictOf (mixKind prog w) a ((ks.map Sum.inr).zip ws) ∧ ks.length ≤ sizeLine ∧
      ∀ h', Heap.SameBut s0.heap.objs.size s1.heap h' → Q ⟨us, ks.zip ws⟩ { s1 with heap := h' }) E { s0 with heap := s0.heap.push { cls := .type "dict", data := .dict #[] } }) E s) :
    wpAny (model prog w) A (evalArgs f true ((false, x) :: rest) [(none, y)]) Q E s := by
  unfold evalArgs
  show wpAny (model prog w) A (spliced ((false, x) :: rest) >>= _) Q E s
  refine wpAny_bind (wpAny_mono h (fun us s0 h0 => ?_) fun _ _ x => x)
  refine wpAny_holding ?_
  refine wpAny_bind (mergedKw_one (wpAny_mono h0 (fun v s1 h1 => ?_) fun _ _ x => x))
  obtain ⟨a, ks, ws, ev, hda, haS, hl, hd, ha, hz, hQ⟩ := h1
  refine ⟨a, _, ev, hda, haS, fun kv hkv => ?_, hd, ha, by rw [List.length_zip, List.length_map]; omega, fun h' hd' sb => ?_⟩
  · obtain ⟨h1, _⟩ := List.of_mem_zip (show (kv.1, kv.2) ∈ _ from hkv)
    obtain ⟨k, _, e⟩ := List.mem_map.mp h1
    exact ⟨k, e.symm⟩
  · refine wpAny_bind (wpAny_pure (wpAny_bind (wpAny_holding ?_)))
    exact keywordsIn_texts hd' hl (wpAny_pure (hQ h' sb))
theorem callWith_spread {K : PySem.W.Frag} {f : Value} {pos : Pos} {Q : Value → Shared → Prop} {args : List (Bool × Sem Value)} {y : Sem Value} (hk : PySem.W.keepIn K f = true)
    (h : wpAny (model prog w) A (evalArgs f true args [(none, y)]) (fun a s₁ => K.In s₁.heap ∧ wpAny (model prog w) A (call f ([] ++ a.pos) a.kw) Q E s₁) E s) : wpAny (model prog w) A (callWith pos f [] args [(none, y)]) Q E s := by
  unfold callWith
  refine wpAny_bind (wpAny_holding (wpAny_mono h (fun a s₁ h₁ => wpAny_bind (wpAny_standAt ?_)) fun _ _ x => x))
  obtain ⟨k, hk', L⟩ := PySem.W.keeps_K (M := model prog w) hk _ h₁.1
  simp only [List.any_cons, List.any_nil, Option.isNone_none, Bool.true_or, Bool.or_true, Bool.or_false]
  refine wpAny_bind (L.here ?_)
  have tail : ∀ {t : Sem Value}, wpAny (model prog w) A t Q E s₁ → wpAny (model prog w) A (t >>= fun r => holding [r] point >>= fun _ => pure r) Q E s₁ :=
    fun ht => wpAny_bind (wpAny_mono ht (fun r s₂ hr => wpAny_bind (wpAny_holding (wpAny_point (wpAny_pure hr)))) fun _ _ x => x)
  have marked (mk : Value) : wpAny (model prog w) A (callMarked mk f ([] ++ a.pos) a.kw) Q E s₁ := by unfold callMarked; exact Calls.wpAny_keep h₁.2
  rcases hk' with rfl | rfl | rfl <;> dsimp only <;> first | exact tail (marked _) | exact tail (wpAny_operating h₁.2)
end
end DL

set_option Elab.async false
set_option linter.all false
set_option maxRecDepth 100000
set_option maxHeartbeats 2000000
namespace DL
open PySem PySem.Spec PyProof PyProof.Rows L2 TL

theorem kv_split : ∀ {ks : List Str} {zs : List V} {vs : List (Key × Value)}, KV ((ks.map (Sum.inr : Str → Key)).zip zs) vs → ks.length = zs.length → ∃ ws, vs = (ks.map Sum.inr).zip ws ∧ Vals zs ws
  | [], [], _, h, _ => by cases h; exact ⟨[], rfl, .nil⟩
  | k :: ks, z :: zs, _, h, hl => by
    cases h with
    | @cons a b as bs h1 h2 =>
      obtain ⟨ws, e, r⟩ := kv_split (ks := ks) (zs := zs) h2 (by simpa using hl)
      obtain ⟨b1, b2⟩ := b
      have e1 : Sum.inr k = b1 := h1.1
      refine ⟨b2 :: ws, ?_, .cons h1.2 r⟩
      rw [e, ← e1]
      rfl
/-- C(e, .., **d) -/
def tMakeKw (C : Addr) (ps : List Str) (sp : Sp) (tf : TE) (t : TA) (te : TE) : TE := fun σ H Q => tf σ H fun c H0 => c = .ref C ∧ t σ H0 fun vs H1 => te σ H1 fun x H2 => ∃ (a : Addr) (ks : List Str) (zs : List V), x = .ref a ∧ Rd H2 a (.dK ((ks.map Sum.inr).zip zs)) ∧ ks.length = zs.length ∧ vs.length + 1 = ps.length ∧ (∀ y ∈ ks, y ∉ ps) ∧
  ∀ o dx p, H2 o = none → H2 dx = none → dx ≠ o → p ≠ o → p ≠ dx → H2 p = none → sp ((V.ref o :: vs) ++ [V.ref p]) (upd (upd (upd H2 dx (.own o)) o (.ins C dx [])) p (.dK ((ks.map Sum.inr).zip zs))) (fun v H4 => v = .non ∧ Q (.ref o) H4) E0
section
variable {X : Cx} {E : XK}
theorem pe_makeKw {C f : Addr} {ps : List Str} {k : Nat} {sp : Sp} {x : Str} {np kp pos : Pos} {e e2 : Expr} {es : List Expr} {tf te : TE} {t : TA} (M : Mk X.K C f) (Fk : FnKw X.prog X.w X.K X.mg X.base k f ps sp) (hr : Room (k + 1) X.A)
    (hf : PE X (.Name x np) tf) (ha : PA X (e :: es) t) (he2 : PE X e2 te) (he : starEach (e :: es) X.env = (false, eval e X.env) :: starEach es X.env) : PE X (.Call (.Name x np) (e :: es) [⟨none, e2, kp⟩] pos) (tMakeKw C ps sp tf t te) := by
  refine ⟨fun pins s σ H Q I h => ?_⟩
  refine wpAny_Call_Name_kw (thn (hf.run pins s σ H _ I h) fun u s1 ⟨c, H1, I1, rc, ec, q1⟩ => ?_)
  subst ec
  obtain rfl : u = Value.ref C := rc
  have spl := ha.run pos pins s1 σ H1 _ I1 q1
  have hb : backTo pos (starEach (e :: es) X.env) = (false, eval e X.env) :: backTo pos (starEach es X.env) := by rw [he]; rfl
  rw [hb] at spl ⊢
  show wpAny _ _ (callWith pos (.ref C) [] _ [(none, do let v ← eval e2 X.env; standAt pos; pure v)]) _ _ _
  refine callWith_spread M.kp (evalArgs_spread (thn spl fun us s0 ⟨vs, H2, I2, r, q2⟩ => ?_))
  have fo := I2.fpOk (Nat.le_refl _) (I2.hok.fresh (Nat.le_refl _))
  have I3 : Inv X ((s0.heap.objs.size, ({ cls := .type "dict", data := .dict #[] } : Obj)) :: pins) σ H2 { s0 with heap := s0.heap.push { cls := .type "dict", data := .dict #[] }, toks := s0.toks } :=
    ClX.pin_new I2 (fun _ _ z => Heap.get?_push_of_some _ z) (Nat.le_refl _) (Heap.get?_push_size s0.heap rfl) (fun v z => nomatch z)
  refine wpAny_bind (thn (he2.run _ _ σ H2 _ I3 q2) fun u2 s2 ⟨x2, H3, I4, rx, a, ks, zs, ex, rd, hkz, hvp, hdis, q⟩ => wpAny_bind (wpAny_standAt (wpAny_pure ?_)))
  subst ex
  obtain rfl : u2 = Value.ref a := rx
  obtain ⟨hz, lo, vs', rel, dd⟩ := dk_rd I4.hok rd
  obtain ⟨ws, ev, rz⟩ := kv_split rel hkz
  subst ev
  have hd0 := ClX.pin_at I4
  have hdn := ClX.pin_un I4
  have hlz := rz.length
  have hlen : ks.length ≤ sizeLine := by
    rw [List.length_zip, List.length_map] at hz
    omega
  have hnd : ks.Nodup := by
    obtain ⟨_, _, _, _, _, _, _, _, hn⟩ := dd
    rw [List.map_fst_zip (by rw [List.length_map]; omega)] at hn
    exact List.Pairwise.of_map Sum.inr (fun a b h z => h (by rw [z])) hn
  have hda : s0.heap.objs.size ≠ a := fun z => by
    rw [← z] at rd
    rcases rd with rd | ⟨o, rd⟩
    · rw [hdn] at rd; cases rd
    · rw [hdn] at rd; cases rd
  have dnil : s2.heap.DictOf (mixKind X.prog X.w) s0.heap.objs.size [] := by
    refine ⟨_, #[], 0, hd0, ⟨rfl, rfl, rfl⟩, rfl, fun e he => ?_, Pairs.nil, List.nodup_nil⟩
    simp at he
  refine ⟨a, ks, ws, rfl, hda, lo, by omega, dnil, dd, hlen, fun h' sb => ?_⟩
  obtain ⟨f0, f1, f2, f3, f4, f5⟩ := fo
  have I5 : Inv X pins σ H3 { s2 with heap := h', toks := s2.toks } := (ClX.unpin I4).turned (t' := s2.toks) (it := s0.heap.objs.size) (fun b o hb e => (sb.2 b hb).trans e) hdn f1 f3 f4 f5
  refine ⟨I5.kIn, ?_⟩
  have I6 := Inv.made (C := C) I5
  have hsz : ∀ {n : Nat}, h'.objs.size ≤ n → H3 n = none := fun hn => I5.hok.fresh hn
  have r2 : Vals (V.ref (h'.objs.size + 1) :: vs) (Value.ref (h'.objs.size + 1) :: us) := .cons rfl r
  have main := Fk _ X.stack _ _ _ _ ks ws zs (fun v H4 => v = .non ∧ Q (.ref (h'.objs.size + 1)) H4) (hr.make C us (ks.zip ws)) (I6.env0.make C us (ks.zip ws)) r2 rz (by simpa using hvp) hkz hnd hlen hdis (fun p hp => by
    have np : p ≠ h'.objs.size + 1 := fun z => by rw [z, upd_same] at hp; cases hp
    have nd : p ≠ h'.objs.size := fun z => by
      rw [z, upd_ne (Nat.ne_of_lt (Nat.lt_succ_self _)), upd_same] at hp; cases hp
    rw [upd_ne np, upd_ne nd] at hp
    exact q (h'.objs.size + 1) h'.objs.size p (hsz (Nat.le_succ _)) (hsz (Nat.le_refl _)) (Nat.ne_of_lt (Nat.lt_succ_self _)) np nd hp)
  refine wpAny_call (make_map (f := f) I5.kIn M.makes M.init (beq_iff_eq.mp M.fn) (codeAny_mono main fun rr s' hq' => ?_))
  cases rr with
  | error e => exact False.elim hq'
  | ok fl =>
    cases fl with
      | ret u =>
        obtain ⟨v, H', I7, rv, ev, q3⟩ := I6.after hq'
        subst ev
        exact ⟨rv, ⟨V.ref (h'.objs.size + 1), H', I7, rfl, q3⟩⟩
      | next => exact False.elim hq'
      | brk => exact False.elim hq'
      | cont => exact False.elim hq'
/-- __init__(self, .., **kw) -/
structure KnW (P : Program) (w : World) (K : PySem.W.Frag) (mg : Str → Option Value) (base : Heap) (C : Addr) (k : Nat) (ps : List Str) (R : DF) : Prop where
  ex : ∃ f, Mk K C f ∧ FnKw P w K mg base k f ps (Pr K (NoX R))
def dMakeKw (C : Addr) (ps : List Str) (R : DF) (to : DX) (u : DA) (te : DX) : DX := fun ρ P => to ρ ⟨fun c ρ0 => c = .raw (.ref C) ∧ u ρ0 ⟨fun ds ρ1 => te ρ1 ⟨fun d ρ2 => ∃ ks xs, Sees ρ2 d (.dct ks xs) ∧ ds.length + 1 = ps.length ∧ (∀ y ∈ ks, mkS y ∉ ps) ∧
  ∀ p, Fresh ρ2 p → R ((.raw (.ref p) :: ds) ++ [.dct ks xs]) [⟨p, .obj C [] []⟩] ⟨fun d os' => d = .non ∧ ∃ ns ds' r, os' = ⟨p, .obj C ns ds'⟩ :: r ∧ P.ok (.obj C ns ds') ρ2, exN⟩, P.ex⟩, P.ex⟩, P.ex⟩
theorem make_data {K : PySem.W.Frag} {G : Ent} {F H : Hp} {σ : L2.St} {ρ : Rho} {C : Addr} {R : DF} {ds : List D} {vs : List V} {ks : List (List Nat)} {xs : List D} {zs : List V} {P : Po D} {Q : VK} (env : Env K G F H σ ρ) (r : Reps K F ds vs) (hkz : ks.length = xs.length) (rz : Reps K F xs zs)
    (q : ∀ p, Fresh ρ p → R ((.raw (.ref p) :: ds) ++ [.dct ks xs]) [⟨p, .obj C [] []⟩] ⟨fun d os' => d = .non ∧ ∃ ns ds' r, os' = ⟨p, .obj C ns ds'⟩ :: r ∧ P.ok (.obj C ns ds') ρ, exN⟩)
    (kk : ∀ F' H' d v ρ', Le F F' → Env K G F' H' σ ρ' → Rep K F' d v → P.ok d ρ' → Q v H') {o dx p : Addr} (ho : H o = none) (hdx : H dx = none) (hne : dx ≠ o) (hpo : p ≠ o) (hpd : p ≠ dx) (hp : H p = none) :
    Pr K (NoX R) ((V.ref o :: vs) ++ [V.ref p]) (upd (upd (upd H dx (.own o)) o (.ins C dx [])) p (.dK ((ks.map keyV).zip zs))) (fun v H4 => v = .non ∧ Q (.ref o) H4) E0 := by
  have g := Grow.alloc (o := .dK ((ks.map keyV).zip zs)) env.fit hp
  have env2 := env.grow g
  have fp := none_sub env.fit hp
  have lp := Le.new (o := .dK ((ks.map keyV).zip zs)) fp
  have ho2 : upd H p (.dK ((ks.map keyV).zip zs)) o = none := by rw [upd_ne (Ne.symm hpo)]; exact ho
  have hd2 : upd H p (.dK ((ks.map keyV).zip zs)) dx = none := by rw [upd_ne (Ne.symm hpd)]; exact hdx
  obtain ⟨fit, cs, aft⟩ := make_env (C := C) env2 ho2 hd2 hne
  have eH : upd (upd (upd H dx (.own o)) o (.ins C dx [])) p (.dK ((ks.map keyV).zip zs)) = upd (upd (upd H p (.dK ((ks.map keyV).zip zs))) dx (.own o)) o (.ins C dx []) := by
    funext b
    by_cases z : b = p
    · subst z; rw [upd_same, upd_ne hpo, upd_ne hpd, upd_same]
    · rw [upd_ne z]
      by_cases z2 : b = o
      · subst z2; rw [upd_same, upd_same]
      · rw [upd_ne z2, upd_ne z2]
        by_cases z3 : b = dx
        · subst z3; rw [upd_same, upd_same]
        · rw [upd_ne z3, upd_ne z3, upd_ne z]
  rw [eH]
  have rall : Reps K (upd F p (.dK ((ks.map keyV).zip zs))) ((D.raw (.ref o) :: ds) ++ [.dct ks xs]) ((V.ref o :: vs) ++ [V.ref p]) := (Reps.cons (d := .raw (.ref o)) rfl (r.mono lp)).app (Reps.one (rep_newD fp hkz rz))
  refine ⟨_, _, _, _, fit, cs, rall, ⟨q o (env.fresh ho), fun _ _ _ _ z => z⟩, fun F' H' d v os' a rv ⟨ed, ns, ds', rr, eos, q2⟩ => ?_, fun _ _ _ _ _ _ _ _ _ _ _ _ z => z.elim⟩
  subst ed
  have ev : v = .non := rv
  subst ev
  have env3 := (aft F' H' os' a).1
  subst eos
  obtain ⟨ob, h1, ⟨dx', ws, hn, eo, rs⟩, h3⟩ := a.first List.mem_cons_self
  subst eo
  have o2 : Out F' ρ o := ⟨h3, env.fresh ho, fun z => (env.lo o z).2 ho⟩
  exact ⟨rfl, kk _ H' (.obj C ns ds') _ ρ ((lp.trans a.le).trans (Le.new h3)) (env3.frzO o2 (env.bnone ho) h1) ⟨o, dx', ws, rfl, hn, upd_same, rs.mono (Le.new h3)⟩ q2⟩
theorem px_makeKw {C : Addr} {ps : List Str} {k : Nat} {R : DF} {x : Str} {np kp pos : Pos} {e e2 : Expr} {es : List Expr} {to te : DX} {u : DA} (M : KnW X.prog X.w X.K X.mg X.base C k ps R) (hr : Room (k + 1) X.A)
    (hf : PX X E (.Name x np) to) (ha : PXA X E (e :: es) u) (he2 : PX X E e2 te) (he : starEach (e :: es) X.env = (false, eval e X.env) :: starEach es X.env := by rfl) : PX X E (.Call (.Name x np) (e :: es) [⟨none, e2, kp⟩] pos) (dMakeKw C ps R to u te) := by
  obtain ⟨f, mk, Fk⟩ := M.ex
  refine px_of (pe_makeKw mk Fk hr hf ha he2 he) fun G F H σ ρ P Q env q kk xx => ⟨G, F, ρ, _, env, q, fun F0 H0 d0 v0 ρ0 l0 env0 r0 ⟨ed0, q0⟩ => ?_, xx⟩
  subst ed0
  refine ⟨r0, G, F0, ρ0, _, env0, q0, fun F1 H1 ds vs ρ1 l1 env1 r1 q1 => ⟨G, F1, ρ1, _, env1, q1, fun F2 H2 d2 v2 ρ2 l2 env2 r2 ⟨ks, xs, s, hl, hdis, q2⟩ => ?_, xx.le (l0.trans l1)⟩, xx.le l0⟩
  obtain ⟨a, zs, ea, hkz, hd, rz⟩ := env2.dct s r2
  have hlen : ks.length = zs.length := hkz.trans rz.length
  refine ⟨a, ks.map mkS, zs, ea, ?_, by rw [List.length_map]; exact hlen, by rw [← r1.length]; exact hl, fun y hy => ?_, fun o dx p ho hdx hne hpo hpd hp => ?_⟩
  · rw [List.map_map]; exact hd
  · obtain ⟨z, hz, e⟩ := List.mem_map.mp hy
    rw [← e]; exact hdis z hz
  · rw [List.map_map]
    exact make_data env2 (r1.mono l2) hkz rz q2 (fun F' H' d v ρ' l => kk F' H' d v ρ' (((l0.trans l1).trans l2).trans l)) ho hdx hne hpo hpd hp
/-- C(e, ..) of the same class: no keywords -/
theorem fnr_of {P : Program} {w : World} {K : PySem.W.Frag} {mg : Str → Option Value} {base : Heap} {k : Nat} {f : Addr} {ps : List Str} {sp : Sp} (h : FnKw P w K mg base k f ps sp) : FnR P w K mg base CX0 k f (fun vs H Q _ => vs.length = ps.length ∧ ∀ p, H p = none → sp (vs ++ [V.ref p]) (upd H p (.dK [])) Q E0) := by
  intro A outer s H us vs Q E hr e0 r ⟨hl, q⟩
  have z := h A outer s H us vs [] [] [] Q hr e0 r .nil hl rfl List.nodup_nil (Nat.zero_le _) (fun _ hx => nomatch hx) q
  refine codeAny_mono z fun r s' hq => ?_
  cases r with
  | error e => exact hq.elim
  | ok fl => exact hq
def dMakeK0 (C : Addr) (ps : List Str) (R : DF) (u : DA) : DX := fun ρ P => u ρ ⟨fun ds ρ2 => ds.length + 1 = ps.length ∧
  ∀ p, Fresh ρ2 p → R ((.raw (.ref p) :: ds) ++ [.dct [] []]) [⟨p, .obj C [] []⟩] ⟨fun d os' => d = .non ∧ ∃ ns ds' r, os' = ⟨p, .obj C ns ds'⟩ :: r ∧ P.ok (.obj C ns ds') ρ2, exN⟩, P.ex⟩
theorem px_makeK0 {C : Addr} {ps : List Str} {k : Nat} {R : DF} {x : Str} {np pos : Pos} {e : Expr} {es : List Expr} {u : DA} (M : KnW X.prog X.w X.K X.mg X.base C k ps R) (hm : X.mg x = some (.ref C)) (hr : Room (k + 1) X.A) (ha : PXA X E (e :: es) u) (hg : Gl X x := by rfl) (hdb : (x == ("__debug__" : Str)) = false := by decide)
    (he : starEach (e :: es) X.env = (false, eval e X.env) :: starEach es X.env := by rfl) (hpl : (backTo pos (starEach es X.env)).any (·.1) = false := by rfl) : PX X E (.Call (.Name x np) (e :: es) [] pos) (dMakeK0 C ps R u) := by
  obtain ⟨f, mk, Fk⟩ := M.ex
  refine px_of (StX.pe_makeR mk (fnr_of Fk) hr hg hm pass0 ha hdb he hpl) fun G F H σ ρ P Q env q kk xx => ⟨G, F, ρ, _, env, q, fun F1 H1 ds vs ρ1 l1 env1 r1 ⟨hl, q1⟩ o dx ho hdx hne => ?_, xx⟩
  have hlen := r1.length
  refine ⟨by rw [← hl, List.length_cons, hlen], fun p hp => ?_⟩
  have hpo : p ≠ o := fun z => by rw [z, upd_same] at hp; cases hp
  have hpd : p ≠ dx := fun z => by rw [z, upd_ne hne, upd_same] at hp; cases hp
  rw [upd_ne hpo, upd_ne hpd] at hp
  exact make_data (ks := []) (xs := []) (zs := []) env1 r1 rfl rfl q1 (fun F' H' d v ρ' l => kk F' H' d v ρ' (l1.trans l)) ho hdx hne hpo hpd hp
end
end DL

set_option Elab.async false
set_option linter.all false
set_option maxRecDepth 100000
set_option maxHeartbeats 2000000
namespace DL
open PySem PySem.Spec PyProof PyProof.Rows L2 TL

/-! ### a list that is a cell, read as data while an expression runs that gives a plain value -/
def plainD : D → Prop
  | .non => True
  | .bl _ => True
  | .int _ => True
  | .str _ => True
  | _ => False
theorem rep_plain {K : PySem.W.Frag} {F F' : Hp} {d : D} {v : V} (p : plainD d) (r : Rep K F d v) : Rep K F' d v := by
  cases d with
  | non => exact r
  | bl _ => exact r
  | int _ => exact r
  | str _ => exact r
  | _ => exact p.elim
def dFrz (t : DX) : DX := fun ρ P => ∃ (i : Nat) (l r : List Cell) (a : Addr) (ds : List D), ρ.sl[i]? = some (some (.raw (.ref a))) ∧ ρ.os = l ++ ⟨a, .lst ds⟩ :: r ∧
  t ⟨ρ.sl.set i (some (.lst ds)), [], fun _ => False⟩ ⟨fun d _ => plainD d ∧ P.ok d ρ, exF⟩
section
variable {X : Cx} {E : XK} {e : Expr} {t : DX}
theorem px_frz (h : PX X E e t) : PX X E e (dFrz t) := by
  refine ⟨fun pins s σ H Q I ⟨G, F, ρ, P, env, ⟨i, l, r, a, ds, hi, ho, q⟩, k, x⟩ => ?_⟩
  obtain ⟨o0, hH, vs, eo, rs⟩ := env.at ho
  subst eo
  have fa : F a = none := env.cells.nof ⟨a, .lst ds⟩ (by rw [ho]; simp)
  obtain ⟨w, hw, rw'⟩ := env.slots i _ hi
  have ew : w = .ref a := rw'
  subst ew
  refine (pe_lock h).run pins s σ H Q I ⟨a, .lst vs, hH, trivial, fun od => ?_⟩
  have l1 : Le F (upd F a (.frz od (.lst vs))) := Le.new fa
  have env1 : Env X.K (entOf (upd F a (.frz od (.lst vs))) (upd H a (.frz od (.lst vs))) []) (upd F a (.frz od (.lst vs))) (upd H a (.frz od (.lst vs))) σ ⟨ρ.sl.set i (some (.lst ds)), [], fun _ => False⟩ := by
    refine ⟨fun b u z => ?_, Le.refl _, fun _ _ h _ => h, fun _ h _ => h, fun _ h => h, fun j d hj => ?_, ?_, cells_nil, fun c hc => (by cases hc), fun _ h => h.elim⟩
    · by_cases y : b = a
      · subst y; rw [upd_same] at z ⊢; exact z
      · rw [upd_ne y] at z ⊢; exact env.fit b u z
    · have hj : (ρ.sl.set i (some (.lst ds)))[j]? = some (some d) := hj
      by_cases y : i = j
      · subst y
        have hil : i < ρ.sl.length := (List.getElem?_eq_some_iff.mp hi).1
        rw [List.getElem?_set_self hil] at hj
        cases hj
        exact ⟨.ref a, hw, a, vs, rfl, .inr ⟨od, upd_same⟩, rs.mono l1⟩
      · rw [List.getElem?_set_ne y] at hj
        obtain ⟨v, h1, r1⟩ := env.slots j d hj
        exact ⟨v, h1, r1.mono l1⟩
    · show (ρ.sl.set i _).length = _
      rw [List.length_set]; exact env.len
  refine ⟨_, _, _, _, env1, q, fun F2 H2 d v ρ2 l2 env2 r2 ⟨pd, p⟩ => ?_, exw0⟩
  have le2 : Le (upd F a (.frz od (.lst vs))) F2 := env2.ext
  have h2 : H2 a = some (.frz od (.lst vs)) := env2.fit _ _ (le2.lk _ _ _ upd_same)
  have keep : ∀ b u, H b = some u → upd H2 a (.lst vs) b = some u := fun b u z => by
    by_cases y : b = a
    · subst y; rw [upd_same, ← hH, z]
    · rw [upd_ne y]
      exact env2.keep b u (by show upd H a _ b = some u; rw [upd_ne y]; exact z) (by simp [addrs, entOf])
  have env3 := env.grow (F' := F) ⟨Le.refl F, fun b u z => keep b u (env.fit b u z), keep, fun b h1 _ => h1⟩
  exact ⟨h2, k F _ d v ρ (Le.refl F) env3 (rep_plain pd r2) p⟩
/-- .. a test -/
theorem pt_lockT {e : Expr} {t : TT} (h : PT X e t) : PT X e (fun σ H Q => ∃ d u, H d = some u ∧ Mut (some u) ∧ ∀ od, t σ (upd H d (.frz od u)) fun b H' => H' d = some (.frz od u) ∧ Q b (upd H' d u)) := by
  refine ⟨fun pins s σ H Q I hw => ?_⟩
  obtain ⟨d, u, hd, mu, hw⟩ := hw
  obtain ⟨od, I1⟩ := I.lock hd mu
  refine thn (h.run pins s σ _ _ I1 (hw od)) fun b s1 ⟨H1, I2, e2, q⟩ => ?_
  exact ⟨_, I2.unlock e2 (I.nofrz hd mu), q⟩
def dFrzT (t : DT) : DT := fun ρ P => ∃ (i : Nat) (l r : List Cell) (a : Addr) (ds : List D), ρ.sl[i]? = some (some (.raw (.ref a))) ∧ ρ.os = l ++ ⟨a, .lst ds⟩ :: r ∧
  t ⟨ρ.sl.set i (some (.lst ds)), [], fun _ => False⟩ ⟨fun b _ => P.ok b ρ, exF⟩
theorem pt_frz {u : DT} (h : PXT X E e u) : PXT X E e (dFrzT u) := by
  refine ⟨fun pins s σ H Q I ⟨G, F, ρ, P, env, ⟨i, l, r, a, ds, hi, ho, q⟩, k, x⟩ => ?_⟩
  obtain ⟨o0, hH, vs, eo, rs⟩ := env.at ho
  subst eo
  have fa : F a = none := env.cells.nof ⟨a, .lst ds⟩ (by rw [ho]; simp)
  obtain ⟨w, hw, rw'⟩ := env.slots i _ hi
  have ew : w = .ref a := rw'
  subst ew
  refine (pt_lockT h).run pins s σ H Q I ⟨a, .lst vs, hH, trivial, fun od => ?_⟩
  have l1 : Le F (upd F a (.frz od (.lst vs))) := Le.new fa
  have env1 : Env X.K (entOf (upd F a (.frz od (.lst vs))) (upd H a (.frz od (.lst vs))) []) (upd F a (.frz od (.lst vs))) (upd H a (.frz od (.lst vs))) σ ⟨ρ.sl.set i (some (.lst ds)), [], fun _ => False⟩ := by
    refine ⟨fun b u z => ?_, Le.refl _, fun _ _ h _ => h, fun _ h _ => h, fun _ h => h, fun j d hj => ?_, ?_, cells_nil, fun c hc => (by cases hc), fun _ h => h.elim⟩
    · by_cases y : b = a
      · subst y; rw [upd_same] at z ⊢; exact z
      · rw [upd_ne y] at z ⊢; exact env.fit b u z
    · have hj : (ρ.sl.set i (some (.lst ds)))[j]? = some (some d) := hj
      by_cases y : i = j
      · subst y
        have hil : i < ρ.sl.length := (List.getElem?_eq_some_iff.mp hi).1
        rw [List.getElem?_set_self hil] at hj
        cases hj
        exact ⟨.ref a, hw, a, vs, rfl, .inr ⟨od, upd_same⟩, rs.mono l1⟩
      · rw [List.getElem?_set_ne y] at hj
        obtain ⟨v, h1, r1⟩ := env.slots j d hj
        exact ⟨v, h1, r1.mono l1⟩
    · show (ρ.sl.set i _).length = _
      rw [List.length_set]; exact env.len
  refine ⟨_, _, _, _, env1, q, fun F2 H2 b ρ2 l2 env2 p => ?_, exw0⟩
  have le2 : Le (upd F a (.frz od (.lst vs))) F2 := env2.ext
  have h2 : H2 a = some (.frz od (.lst vs)) := env2.fit _ _ (le2.lk _ _ _ upd_same)
  have keep : ∀ b u, H b = some u → upd H2 a (.lst vs) b = some u := fun b u z => by
    by_cases y : b = a
    · subst y; rw [upd_same, ← hH, z]
    · rw [upd_ne y]
      exact env2.keep b u (by show upd H a _ b = some u; rw [upd_ne y]; exact z) (by simp [addrs, entOf])
  have env3 := env.grow (F' := F) ⟨Le.refl F, fun b u z => keep b u (env.fit b u z), keep, fun b h1 _ => h1⟩
  exact ⟨h2, k F _ b ρ (Le.refl F) env3 p⟩
theorem ev_frzT {ρ : Rho} {u : DT} {b : Bool} (i : Nat) (l r : List Cell) (a : Addr) (ds : List D) (hi : ρ.sl[i]? = some (some (.raw (.ref a)))) (ho : ρ.os = l ++ ⟨a, .lst ds⟩ :: r) (h : EvT u ⟨ρ.sl.set i (some (.lst ds)), [], fun _ => False⟩ b) : EvT (dFrzT u) ρ b :=
  fun P p => ⟨i, l, r, a, ds, hi, ho, h _ p⟩
/-- .. nothing changes -/
theorem ev_frz {ρ : Rho} {d : D} (i : Nat) (l r : List Cell) (a : Addr) (ds : List D) (hi : ρ.sl[i]? = some (some (.raw (.ref a)))) (ho : ρ.os = l ++ ⟨a, .lst ds⟩ :: r) (pd : plainD d) (h : EvD t ⟨ρ.sl.set i (some (.lst ds)), [], fun _ => False⟩ d) : EvD (dFrz t) ρ d :=
  fun P p => ⟨i, l, r, a, ds, hi, ho, h _ ⟨pd, p⟩⟩
/-- the dict that a comprehension walks -/
theorem px_lockK {K : PySem.W.Frag} (h : PX X E e t) (hK : X.K = K := by rfl) : PX X E e (dLock K t) := hK ▸ px_lock h
theorem sx_lockK {K : PySem.W.Frag} {st : Stmt} {u : DS} (h : PXS X E st u) (hK : X.K = K := by rfl) : PXS X E st (dLockS K u) := hK ▸ sx_lock h
theorem ev_lock {K : PySem.W.Frag} {ρ ρ' : Rho} {d d' : D} (rel : Relk K ρ ρ') (h : EvD t ρ' d) (hd : unL d = d') (hr : unlRho ρ ρ' = ρ) : EvD (dLock K t) ρ d' := fun P p => ⟨ρ', rel, h _ (by
  dsimp only
  rw [hd, hr]
  exact p)⟩
theorem q_par {ρ : Rho} {i j : Nat} {u : DA} {v : DS} {P : PoS} {x y : D} (h : EvA u ρ [x, y]) (k : v ((ρ.set i x).set j y) P) : dSeq (dPar i j u) v ρ P := h _ ⟨x, y, rfl, k⟩
theorem evt_eq {t : DT} {ρ : Rho} {a b : Bool} (h : EvT t ρ a) (e : a = b) : EvT t ρ b := e ▸ h
theorem evd_eq {t : DX} {ρ : Rho} {a b : D} (h : EvD t ρ a) (e : a = b) : EvD t ρ b := e ▸ h
/-! cells: what a statement does -/
theorem q_lstC {ρ : Rho} {i : Nat} {u : DA} {v : DS} {P : PoS} {ds : List D} (h : EvA u ρ ds) (hl : ds.length ≤ 16777216) (k : ∀ p, Fresh ρ p → v ((ρ.add p (.lst ds)).set i (.raw (.ref p))) P) : dSeq (dSet (dLstC u) (dgName i)) v ρ P := h _ ⟨hl, fun p hp => k p hp⟩
theorem s_lstC {ρ : Rho} {i : Nat} {u : DA} {P : PoS} {ds : List D} (h : EvA u ρ ds) (hl : ds.length ≤ 16777216) (k : ∀ p, Fresh ρ p → P.nx ((ρ.add p (.lst ds)).set i (.raw (.ref p)))) : dSet (dLstC u) (dgName i) ρ P := h _ ⟨hl, fun p hp => k p hp⟩
theorem s_append {ρ : Rho} {to te : DX} {P : PoS} {a : Addr} {l r : List Cell} {ds : List D} {d : D} (ho : EvD to ρ (.raw (.ref a))) (he : EvD te ρ d) (hc : ρ.os = l ++ ⟨a, .lst ds⟩ :: r) (hl : ds.length < 16777216) (k : P.nx (ρ.os' (l ++ ⟨a, .lst (ds ++ [d])⟩ :: r))) : dDrop (dAppend to te) ρ P :=
  ho _ ⟨⟨a, ds, rfl, .inr (.inl ⟨⟨a, .lst ds⟩, by rw [hc]; simp, rfl, rfl⟩)⟩, he _ ⟨a, l, r, ds, rfl, hc, hl, k⟩⟩
theorem q_append {ρ : Rho} {to te : DX} {v : DS} {P : PoS} {a : Addr} {l r : List Cell} {ds : List D} {d : D} (ho : EvD to ρ (.raw (.ref a))) (he : EvD te ρ d) (hc : ρ.os = l ++ ⟨a, .lst ds⟩ :: r) (hl : ds.length < 16777216) (k : v (ρ.os' (l ++ ⟨a, .lst (ds ++ [d])⟩ :: r)) P) : dSeq (dDrop (dAppend to te)) v ρ P :=
  s_append (P := { P with nx := fun ρ1 => v ρ1 P }) ho he hc hl k
theorem sees_cell {ρ : Rho} {a : Addr} {d : D} {l r : List Cell} (hc : ρ.os = l ++ ⟨a, d⟩ :: r) : Sees ρ (.raw (.ref a)) d := .inr (.inl ⟨⟨a, d⟩, by rw [hc]; simp, rfl, rfl⟩)
end
end DL

set_option Elab.async false
set_option linter.all false
set_option maxRecDepth 100000
set_option maxHeartbeats 2000000
namespace DL
open PySem PySem.Spec PyProof PyProof.Rows L2 TL

/-! ### sorted texts -/
def sortK (ks : List (List Nat)) : List (List Nat) := ks.mergeSort fun a b => decide (a ≤ b)
theorem sortK_perm (ks : List (List Nat)) : (sortK ks).Perm ks := List.mergeSort_perm ks _
theorem leN_total (a b : List Nat) : (decide (a ≤ b) || decide (b ≤ a)) = true := by
  rcases List.le_total a b with h | h <;> simp [h]
theorem leN_trans (a b c : List Nat) (h1 : decide (a ≤ b) = true) (h2 : decide (b ≤ c) = true) : decide (a ≤ c) = true :=
  decide_eq_true (List.le_trans (of_decide_eq_true h1) (of_decide_eq_true h2))
theorem sortK_pairwise (ks : List (List Nat)) : (sortK ks).Pairwise (· ≤ ·) := by
  have h := List.pairwise_mergeSort (le := fun a b : List Nat => decide (a ≤ b)) leN_trans leN_total ks
  exact h.imp fun h => of_decide_eq_true h
theorem rising_pw : ∀ (l : List (List Nat)) (p : List Nat), risingS (mkS p) (l.map mkS) = true → (p :: l).Pairwise (· ≤ ·)
  | [], p, _ => by simp
  | x :: l, p, h => by
    have h : (!ltCps x p && risingS (mkS x) (l.map mkS)) = true := h
    rw [Bool.and_eq_true] at h
    obtain ⟨h1, h2⟩ := h
    have ih := rising_pw l x h2
    have hpx : p ≤ x := by
      rw [ltCps_eq] at h1
      have : ¬ x < p := by simpa using h1
      exact List.not_lt.mp this
    refine List.pairwise_cons.mpr ⟨fun y hy => ?_, ih⟩
    rcases List.mem_cons.mp hy with z | z
    · rw [z]; exact hpx
    · exact List.le_trans hpx ((List.pairwise_cons.mp ih).1 y z)
theorem sorted_is {l ks : List (List Nat)} (p : l.Perm ks) (h : sortedS (l.map mkS) = true) : l = sortK ks := by
  have pw : l.Pairwise (· ≤ ·) := by
    cases l with
    | nil => exact .nil
    | cons x l => exact rising_pw l x h
  exact List.Perm.eq_of_pairwise (fun a b _ _ h1 h2 => List.le_antisymm h1 h2) pw (sortK_pairwise ks) (p.trans (sortK_perm ks).symm)
theorem v_sortD {ρ : Rho} {x : D} {ks : List (List Nat)} {xs : List D} (s : Sees ρ x (.dct ks xs)) (h : ks.length < 64) : Vs rdSortD ρ [x] (.lst (strsD (sortK ks))) := fun P p => ⟨x, ks, xs, rfl, s, h, fun l h1 h2 => by rw [sorted_is h1 h2]; exact p⟩

/-! ### defs with defaults -/
section
variable {P : Program} {w : World} {K : PySem.W.Frag} {mg : Str → Option Value} {base : Heap}
theorem okDD {x qual : Str} {st : Stmt} {f : Addr} {fd : FuncData} {N ps : List Str} {k : Nat} {R : DF} {dvs : List V} {kws : List (Str × V)} (F : FunD K x qual (defArgs st) (defBody st) (defScope st) dvs kws f fd) (S : FnScope N ps (defScope st)) (len : ∀ ds os P, R ds os P → ds.length = ps.length)
    (hbp : ∃ t : DS, (∀ (cdv : Value) (A : Around) (outer : List PySem.Env) (s : Shared) (H : Hp), Room k (A.deeper (envOfC qual (defScope st) s.heap.objs.size f cdv)) →
      PXB (cxOf CX0 P w K mg base N qual (defScope st) f cdv A outer s H E0).nox E0 (defBody st) t) ∧
    ∀ ds os P, R ds os P → (∀ C ns ds' os', ¬ P.ex C ns ds' os') → t (start0 N.length ds os) (bodyP P)) : FnOk P w K mg base CX0 (k + 1) f fd ps (Pr K (NoX R)) := by
  obtain ⟨t, hb, hp⟩ := hbp
  refine F.ok S (fun vs H Q E ⟨F0, ds, os, PP, _, _, r, ⟨h, _⟩, _⟩ => by rw [← r.length]; exact len ds os PP h) (fun cdv A outer s H vs Q E hr ⟨F0, ds, os, PP, fit, c, r, ⟨h, hx⟩, k1, _⟩ => ?_)
  have hb' := hb cdv A outer s H hr
  refine ⟨_, PSs.nox hb', entOf F0 H os, F0, _, _, env_start fit c r, hp ds os PP h hx, ⟨fun F' H' σ' ρ' l e ⟨os', sb, q⟩ => k1 F' H' .non .non os' (env_after e sb) rfl q,
    fun F' H' σ' d v ρ' l e rv ⟨os', sb, q⟩ => k1 F' H' d v os' (env_after e sb) rv q, fun _ _ _ _ _ _ h => h.elim, fun _ _ _ _ _ _ h => h.elim, fun σ F' H' C ns ds' vs' e ρ' σ' l env _ _ _ ⟨os', _, z⟩ => hx C ns ds' os' z⟩⟩
end

/-! ### fields, methods, instances: one answer -/
section
variable {ρ : Rho} {to tv te : DX} {u : DA} {v : DS} {P : PoS} {C a : Addr} {f m : Str} {ns : List Str} {ds xs : List D} {d o z : D} {l r : List Cell} {R : DF}
theorem s_fld (hv : EvD tv ρ d) (ho : EvD to ρ (.raw (.ref a))) (hc : ρ.os = l ++ ⟨a, .obj C ns ds⟩ :: r) (hl : ns.length < 1000) (k : P.nx (ρ.os' (l ++ ⟨a, .obj C (putNs ns f) (putDs ns f ds d)⟩ :: r))) : dSetF C f to tv ρ P := hv _ (ho _ ⟨a, l, r, ns, ds, rfl, hc, hl, k⟩)
theorem q_fld (hv : EvD tv ρ d) (ho : EvD to ρ (.raw (.ref a))) (hc : ρ.os = l ++ ⟨a, .obj C ns ds⟩ :: r) (hl : ns.length < 1000) (k : v (ρ.os' (l ++ ⟨a, .obj C (putNs ns f) (putDs ns f ds d)⟩ :: r)) P) : dSeq (dSetF C f to tv) v ρ P :=
  s_fld (P := { P with nx := fun ρ1 => v ρ1 P }) hv ho hc hl k
theorem s_aug {n n' : Int} {k : Nat} (ho : EvD to ρ (.raw (.ref a))) (hc : ρ.os = l ++ ⟨a, .obj C ns ds⟩ :: r) (hk : fidx ns f = some k) (hd : ds[k]? = some (.int n)) (hv : EvD tv ρ (.int n')) (hl : ns.length < 1000)
    (kk : P.nx (ρ.os' (l ++ ⟨a, .obj C (putNs ns f) (putDs ns f ds (.int (n + n')))⟩ :: r))) : dAugF C f to tv ρ P :=
  ho _ ⟨a, ns, ds, k, n, rfl, sees_cell hc, hk, hd, hv _ ⟨n', l, r, ns, ds, rfl, hc, hl, kk⟩⟩
theorem ev_fld {k : Nat} (ho : EvD to ρ o) (s : Sees ρ o (.obj C ns ds)) (hk : fidx ns f = some k) (hd : ds[k]? = some d) : EvD (dFld C f to) ρ d := fun P p => ho _ ⟨ns, ds, k, d, s, hk, hd, p⟩
theorem ev_prop {α : Type} {enc : α → List D} {pr : α → Prop} {out : α → D} (x : α) (ho : EvD to ρ o) (s : Sees ρ o (.obj C ns ds)) (e : [o] = enc x) (p : pr x) : EvD (dProp0 C (Fn enc pr out) to) ρ (out x) := fun P q => ho _ ⟨⟨ns, ds, s⟩, x, e, p, q⟩
theorem ev_meth {α : Type} {enc : α → List D} {pr : α → Prop} {out : α → D} (x : α) (ho : EvD to ρ o) (s : Sees ρ o (.obj C ns ds)) (hm : fidx ns m = none) (hu : EvA u ρ xs) (e : o :: xs = enc x) (p : pr x) : EvD (dMeth0 C m (Fn enc pr out) to u) ρ (out x) := fun P q => ho _ ⟨⟨ns, ds, s, hm⟩, hu _ ⟨x, e, p, q⟩⟩
theorem ev_getO {α : Type} {enc : α → List D} {pr : α → Prop} {out : α → D} (x : α) (ho : EvD to ρ o) (ht : EvD te ρ z) (s : Sees ρ o (.obj C ns ds)) (e : [o, z] = enc x) (p : pr x) : EvD (dGetO C (Fn enc pr out) to te) ρ (out x) := fun P q => ho _ (ht _ ⟨⟨ns, ds, s⟩, x, e, p, q⟩)
theorem v_own {α : Type} {enc : α → List D} {pr : α → Prop} {out : α → Bool} {neg : Bool} (x : α) {o2 : D} {ns2 : List Str} {ds2 : List D} (s : Sees ρ o (.obj C ns ds)) (s2 : Sees ρ o2 (.obj C ns2 ds2)) (e : [o, o2] = enc x) (p : pr x) : V2 (rdOwn C (Fn enc pr fun x => .bl (out x)) neg) ρ o o2 (.bl (if neg then !out x else out x)) :=
  fun P q => ⟨⟨ns, ds, s⟩, ⟨ns2, ds2, s2⟩, x, e, p, out x, rfl, q⟩
theorem ev_dget {ks : List (List Nat)} {s : List Nat} (ho : EvD to ρ o) (hi : EvD te ρ (.str s)) (h : Sees ρ o (.dct ks xs)) (hd : dlook ks xs s = some d) : EvD (dGet to te) ρ d := fun P p => ho _ (hi _ ⟨ks, xs, s, d, h, rfl, hd, p⟩)
theorem ev_dget2 {ks : List (List Nat)} {s : List Nat} {tx : DX} (ho : EvD to ρ o) (hi : EvD te ρ (.str s)) (hx : EvD tx ρ z) (h : Sees ρ o (.dct ks xs)) : EvD (dGet2 to te tx) ρ ((dlook ks xs s).getD z) := fun P p => ho _ ⟨⟨ks, xs, h⟩, hi _ (hx _ ⟨ks, xs, s, h, rfl, p⟩)⟩
theorem ev_in {ks : List (List Nat)} {s : List Nat} {neg : Bool} (hi : EvD te ρ (.str s)) (ho : EvD to ρ o) (h : Sees ρ o (.dct ks xs)) : EvD (dIn neg te to) ρ (.bl (if neg then !decide (s ∈ ks) else decide (s ∈ ks))) := fun P p => hi _ (ho _ ⟨ks, xs, s, h, rfl, p⟩)
end
end DL

set_option Elab.async false
set_option linter.all false
set_option maxRecDepth 100000
set_option maxHeartbeats 2000000
namespace DL
open PySem PySem.Spec PyProof PyProof.Rows L2 TL

section
variable {K : PySem.W.Frag} {G : Ent} {F H : Hp} {σ : L2.St} {ρ : Rho}
/-! ### cells in another order -/
theorem Env.perm {os' : List Cell} (e : Env K G F H σ ρ) (p : ρ.os.Perm os') : Env K G F H σ { ρ with os := os' } :=
  ⟨e.fit, e.ext, e.keep, e.new, e.there, e.slots, e.len, ⟨(p.map Cell.a).nodup_iff.mp e.cells.nd, fun c hc => e.cells.nof c (p.mem_iff.mpr hc), fun c hc => e.cells.at_ c (p.mem_iff.mpr hc)⟩, fun c hc => e.mine c (p.mem_iff.mpr hc), e.lo⟩
/-! ### a cell that was made here becomes data -/
theorem Env.freeze {l r : List Cell} {a : Addr} {c : D} (e : Env K G F H σ ρ) (hc : ρ.os = l ++ ⟨a, c⟩ :: r) (hl : ρ.lo a) : ∃ F', Le F F' ∧ Env K G F' H σ { ρ with os := l ++ r } ∧ Rep K F' c (.ref a) := by
  obtain ⟨o, hH, i⟩ := e.at hc
  have fa : F a = none := e.cells.nof ⟨a, c⟩ (by rw [hc]; simp)
  have hB := (e.lo a hl).1
  have nd : (addrs (l ++ ⟨a, c⟩ :: r)).Nodup := by rw [← hc]; exact e.cells.nd
  have sub : ∀ x ∈ l ++ r, x ∈ ρ.os := fun x hx => by
    rw [hc]
    rcases List.mem_append.mp hx with z | z
    · exact List.mem_append_left _ z
    · exact List.mem_append_right _ (List.mem_cons_of_mem _ z)
  have nda : ∀ x ∈ l ++ r, x.a ≠ a := fun x hx z => by
    unfold addrs at nd
    rw [List.map_append, List.map_cons] at nd
    have n3 := List.nodup_append.mp nd
    rcases List.mem_append.mp hx with y | y
    · exact n3.2.2 x.a (List.mem_map_of_mem y) a (by simp) z
    · have h1 := (List.nodup_cons.mp n3.2.1).1
      refine h1 ?_
      show a ∈ List.map Cell.a r
      rw [← z]
      exact List.mem_map_of_mem y
  have nd2 : (addrs (l ++ r)).Nodup := by
    refine nd.sublist ?_
    unfold addrs
    exact ((List.Sublist.refl l).append (List.sublist_cons_self _ _)).map _
  have l1 : Le F (upd F a o) := Le.new fa
  refine ⟨upd F a o, l1, ⟨fun b u z => ?_, e.ext.trans l1, e.keep, fun b h1 h2 => ?_, e.there, fun j d hj => ?_, e.len, ⟨nd2, fun x hx => ?_, fun x hx => ?_⟩, fun x hx => e.mine x (sub x hx), e.lo⟩, ?_⟩
  · by_cases y : b = a
    · subst y; rw [upd_same] at z; cases z; exact hH
    · rw [upd_ne y] at z; exact e.fit b u z
  · have y : b ≠ a := fun y => h2 (y ▸ hB)
    rw [upd_ne y]; exact e.new b h1 h2
  · obtain ⟨v, h1, r1⟩ := e.slots j d hj
    exact ⟨v, h1, r1.mono l1⟩
  · rw [upd_ne (nda x hx)]; exact e.cells.nof x (sub x hx)
  · obtain ⟨u, h1, i1⟩ := e.cells.at_ x (sub x hx)
    exact ⟨u, h1, i1.mono l1⟩
  · cases c with
    | lst ds =>
      obtain ⟨vs, eo, rs⟩ := i
      subst eo
      exact ⟨a, vs, rfl, .inl upd_same, rs.mono l1⟩
    | dct ks ds =>
      obtain ⟨vs, n, eo, rs⟩ := i
      subst eo
      exact ⟨a, vs, rfl, n, .inl upd_same, rs.mono l1⟩
    | obj C ns ds =>
      obtain ⟨dx, vs, n, eo, rs⟩ := i
      subst eo
      exact ⟨a, dx, vs, rfl, n, upd_same, rs.mono l1⟩
    | _ => exact i.elim
end
section
variable {X : Cx} {E : XK} {st : Stmt} {e : Expr} {t : DS} {te : DX}
def dPerm (t : DS) : DS := fun ρ P => ∃ os', ρ.os.Perm os' ∧ t { ρ with os := os' } P
theorem sx_perm (h : PXS X E st t) : PXS X E st (dPerm t) := PS.weak h fun Dn σ H ⟨G, F, ρ, P, env, ⟨os', p, q⟩, f⟩ => ⟨G, F, _, P, env.perm p, q, f⟩
def dFreeze (t : DX) : DX := fun ρ P => t ρ ⟨fun d ρ1 => ∃ a l c r, d = .raw (.ref a) ∧ ρ1.os = l ++ ⟨a, c⟩ :: r ∧ ρ1.lo a ∧ P.ok c { ρ1 with os := l ++ r }, P.ex⟩
theorem px_freeze (h : PX X E e te) : PX X E e (dFreeze te) := px_of h fun G F H σ ρ P Q env q k x => ⟨G, F, ρ, _, env, q, fun F1 H1 d v ρ1 l1 env1 r1 ⟨a, l, c, r, ed, hc, hl, q1⟩ => by
  subst ed
  have ev : v = .ref a := r1
  subst ev
  obtain ⟨F2, l2, env2, r2⟩ := env1.freeze hc hl
  exact k F2 H1 c _ _ (l1.trans l2) env2 r2 q1, x⟩
end
end DL

set_option Elab.async false
set_option linter.all false
set_option maxRecDepth 100000
set_option maxHeartbeats 2000000
namespace DL
open PySem PySem.Spec PyProof PyProof.Rows L2 TL

/-! ### {"a": e, ..}: a dict display with written text keys -/
theorem mergeK_app : ∀ (more acc : List (L2.Key × V)), ((acc ++ more).map (·.1)).Nodup → mergeK acc more = acc ++ more
  | [], acc, _ => by rw [List.append_nil]; rfl
  | p :: r, acc, nd => by
    have hp : p.1 ∉ acc.map (·.1) := fun z => by
      rw [List.map_append, List.map_cons] at nd
      exact (List.nodup_append.mp nd).2.2 p.1 z p.1 (by simp) rfl
    have hv : valV acc p.1 = none := by
      cases h : valV acc p.1 with
      | none => rfl
      | some v => exact absurd (valV_in h) hp
    have e : mergeK acc (p :: r) = mergeK (putK acc p.1 p.2) r := rfl
    rw [e, putK_new p.2 hv, mergeK_app r (acc ++ [(p.1, p.2)]) (by simpa using nd)]
    simp
section
variable {X : Cx} {E : XK}
structure PXP (X : Cx) (E : XK) (pos : Pos) (keys : List (Option Expr)) (values : List Expr) (ks : List (List Nat)) (u : DA) : Prop where
  ex : ∃ trs, PPs X pos keys values trs ∧ ∀ G F H σ ρ (P : Po (List D)) (Q : List (V × V) → Hp → Prop), Env X.K G F H σ ρ → u ρ P →
    (∀ F' H' ds vs ρ', Le F F' → Env X.K G F' H' σ ρ' → Reps X.K F' ds vs → ds.length = ks.length → P.ok ds ρ' → Q ((ks.map fun k => V.str (mkS k)).zip vs) H') → ExW X.K E G F σ P.ex → tPairs trs σ H Q
theorem pxp_nil {pos : Pos} : PXP X E pos [] [] [] dNil := ⟨[], pps_nil, fun G F H σ ρ P Q env q k x => k F H [] [] ρ (Le.refl F) env rfl rfl q⟩
theorem pxp_cons {pos kpos : Pos} {x : Str} {j} {v : Expr} {keys : List (Option Expr)} {values : List Expr} {ks : List (List Nat)} {t : DX} {u : DA} (k : List Nat) (hv : PX X E v t) (hr : PXP X E pos keys values ks u) (hk : x = mkS k := by rfl) :
    PXP X E pos (some (.Constant (.str x) j kpos) :: keys) (v :: values) (k :: ks) (dCons t u) := by
  obtain ⟨trs, h1, h2⟩ := hr
  refine ⟨_, pps_cons pe_str hv h1, fun G F H σ ρ P Q env q kk xx => ?_⟩
  refine (show tPairs _ _ _ _ from ?_)
  refine ⟨G, F, ρ, _, env, q, fun F1 H1 d w ρ1 l1 env1 r1 q1 => ?_, xx⟩
  refine h2 G F1 H1 σ ρ1 _ _ env1 q1 (fun F2 H2 ds vs ρ2 l2 env2 r2 hl q2 => ?_) (xx.le l1)
  subst hk
  exact kk F2 H2 (d :: ds) (w :: vs) ρ2 (l1.trans l2) env2 (Reps.cons (r1.mono l2) r2) (by rw [List.length_cons, List.length_cons, hl]) q2
theorem ExW.fr {K : PySem.W.Frag} {G : Ent} {F : Hp} {σ : L2.St} {Xx : Addr → List Str → List D → Rho → Prop} {D0 : Addr} {u : HO} (h : ExW K E G F σ Xx) (hB : G.B D0 = none) (hF : G.FB D0 = none) : ExW K E (G.fr D0 u) F σ Xx :=
  fun F' H' C ns ds vs e ρ' σ' l env => h F' H' C ns ds vs e ρ' σ' l (env.inside hB hF).1
theorem zip_kv : ∀ (ks : List (List Nat)) (vs : List V), (ks.map fun k => V.str (mkS k)).zip vs = ((ks.map keyV).zip vs).map fun kv => (kV kv.1, kv.2)
  | [], _ => rfl
  | _ :: _, [] => rfl
  | k :: ks, v :: vs => by
    simp only [List.map_cons, List.zip_cons_cons]
    rw [zip_kv ks vs]
    rfl
theorem keys_nd : ∀ {ks : List (List Nat)}, ks.Nodup → (ks.map keyV).Nodup
  | [], _ => List.nodup_nil
  | k :: ks, h => by
    obtain ⟨h1, h2⟩ := List.nodup_cons.mp h
    rw [List.map_cons]
    refine List.nodup_cons.mpr ⟨fun z => ?_, keys_nd h2⟩
    obtain ⟨x, hx, e⟩ := List.mem_map.mp z
    exact h1 (keyV_inj.mp e ▸ hx)
theorem disp_up {pos : Pos} {keys : List (Option Expr)} {values : List Expr} {ks : List (List Nat)} {u : DA} (h : PXP X E pos keys values ks u) (nd : ks.Nodup) (h15 : ks.length ≤ 15) {G F H σ ρ} {P : Po (List D)} {Q : VK} (env : Env X.K G F H σ ρ) (q : u ρ P) (x : ExW X.K E G F σ P.ex) (trs : List (TE × TE))
    (k : ∀ D0 F' H' ds vs ρ' (o : HO), Le F F' → Env X.K G F' H' σ ρ' → Out F' ρ' D0 → G.B D0 = none → H' D0 = some o → o = .dK ((ks.map keyV).zip vs) → ks.length = ds.length → Reps X.K F' ds vs → P.ok ds ρ' → Q (.ref D0) H')
    (hw : ∀ G F H σ ρ (P : Po (List D)) (Q : List (V × V) → Hp → Prop), Env X.K G F H σ ρ → u ρ P →
    (∀ F' H' ds vs ρ', Le F F' → Env X.K G F' H' σ ρ' → Reps X.K F' ds vs → ds.length = ks.length → P.ok ds ρ' → Q ((ks.map fun k => V.str (mkS k)).zip vs) H') → ExW X.K E G F σ P.ex → tPairs trs σ H Q) : tDisp trs σ H Q := by
  intro D0 hD
  have hB := env.bnone hD
  have hFB : G.FB D0 = none := le_none env.ext (none_sub env.fit hD)
  have o0 : Out F ρ D0 := ⟨none_sub env.fit hD, env.fresh hD, fun z => (env.lo D0 z).2 hD⟩
  have env0 := (env.grow (Grow.allocH (o := .dK []) env.fit hD)).outside (D0 := D0) (u := .dK []) upd_same o0
  refine hw (G.fr D0 (.dK [])) F (upd H D0 (.dK [])) σ ρ P _ env0 q (fun F' H' ds vs ρ' l1 env1 r1 hl q1 => ?_) (x.fr hB hFB)
  obtain ⟨env2, hD2, o2⟩ := env1.inside hB hFB
  have hlen : ks.length = vs.length := by rw [← hl]; exact r1.length
  refine ⟨hD2, (ks.map keyV).zip vs, zip_kv ks vs, by rw [List.length_zip, List.length_map]; omega, ?_⟩
  have hm : mergeK [] ((ks.map keyV).zip vs) = (ks.map keyV).zip vs := by
    rw [mergeK_app _ [] (by
      rw [List.nil_append]
      have : ((ks.map keyV).zip vs).map (·.1) = ks.map keyV := by
        rw [List.map_fst_zip]
        rw [List.length_map]; omega
      rw [this]
      exact keys_nd nd)]
    rfl
  rw [hm]
  exact k D0 F' _ ds vs ρ' _ l1 (env2.writeO o2 hB) o2 hB upd_same rfl hl.symm r1 q1
def dDispC (ks : List (List Nat)) (u : DA) : DX := fun ρ P => u ρ ⟨fun ds ρ1 => ∀ p, Fresh ρ1 p → P.ok (.raw (.ref p)) (ρ1.add p (.dct ks ds)), P.ex⟩
def dDisp (ks : List (List Nat)) (u : DA) : DX := fun ρ P => u ρ ⟨fun ds ρ1 => P.ok (.dct ks ds) ρ1, P.ex⟩
theorem px_dispC {pos : Pos} {keys : List (Option Expr)} {values : List Expr} {ks : List (List Nat)} {u : DA} (h : PXP X E pos keys values ks u) (nd : ks.Nodup := by decide) (h15 : ks.length ≤ 15 := by decide) (hall : keys.all (·.isSome) = true := by rfl) (hl : keys.length = values.length := by rfl) (h0 : keys ≠ [] := by (intro z; cases z)) (hk : keys.length ≤ 15 := by decide) : PX X E (.Dict keys values pos) (dDispC ks u) := by
  have h' := h
  obtain ⟨trs, h1, h2⟩ := h'
  exact px_of (pe_disp h1 hall hl h0 hk) fun G F H σ ρ P Q env q k x => disp_up h nd h15 env q x trs (fun D0 F' H' ds vs ρ' o l1 env1 o1 hB hD eo hln rs q1 => by
    subst eo
    exact k F' H' (.raw (.ref D0)) _ _ l1 (env1.cellO o1 hB hD (d := .dct ks ds) ⟨vs, hln, rfl, rs⟩) rfl (q1 D0 o1.c)) h2
theorem px_disp {pos : Pos} {keys : List (Option Expr)} {values : List Expr} {ks : List (List Nat)} {u : DA} (h : PXP X E pos keys values ks u) (nd : ks.Nodup := by decide) (h15 : ks.length ≤ 15 := by decide) (hall : keys.all (·.isSome) = true := by rfl) (hl : keys.length = values.length := by rfl) (h0 : keys ≠ [] := by (intro z; cases z)) (hk : keys.length ≤ 15 := by decide) : PX X E (.Dict keys values pos) (dDisp ks u) := by
  have h' := h
  obtain ⟨trs, h1, h2⟩ := h'
  exact px_of (pe_disp h1 hall hl h0 hk) fun G F H σ ρ P Q env q k x => disp_up h nd h15 env q x trs (fun D0 F' H' ds vs ρ' o l1 env1 o1 hB hD eo hln rs q1 => by
    subst eo
    have l2 := Le.new (o := .dK ((ks.map keyV).zip vs)) o1.f
    exact k _ H' (.dct ks ds) _ ρ' (l1.trans l2) (env1.frzO o1 hB hD) ⟨D0, vs, rfl, hln, .inl upd_same, rs.mono l2⟩ q1) h2
theorem ev_disp {ρ : Rho} {ks : List (List Nat)} {u : DA} {ds : List D} (h : EvA u ρ ds) : EvD (dDisp ks u) ρ (.dct ks ds) := fun P p => h _ p
end

/-! ### sorted(dict) as a cell, len(dict) -/
section
variable {X : Cx} {E : XK}
def dSortDC (u : DA) : DX := fun ρ P => u ρ ⟨fun ds ρ1 => ∃ d ks xs, ds = [d] ∧ Sees ρ1 d (.dct ks xs) ∧ ks.length < 64 ∧ ∀ p, Fresh ρ1 p → P.ok (.raw (.ref p)) (ρ1.add p (.lst (strsD (sortK ks)))), P.ex⟩
theorem px_sortDC {e : Expr} {p pos : Pos} {u : DA} (hcalm : X.calm = true) (hm : X.mg "sorted" = none) (ha : PXA X E [e] u) (hg : Gl X "sorted" := by rfl)
    (he : starEach [e] X.env = (false, eval e X.env) :: starEach [] X.env := by rfl) (hpl : (backTo pos (starEach [] X.env)).any (·.1) = false := by rfl) : PX X E (.Call (.Name "sorted" p) [e] [] pos) (dSortDC u) :=
  px_of (pe_callB (call_sortedD hcalm) hg hm (by decide +kernel) ha (by decide) (by decide) he hpl) fun G F H σ ρ P Q env q k x => ⟨G, F, ρ, _, env, q, fun F1 H1 ds vs ρ1 l1 env1 r1 ⟨d, ks, xs, e, s, h64, q1⟩ => by
    subst e
    obtain ⟨v, ev, r0⟩ := reps1 r1
    subst ev
    obtain ⟨a, ws, ea, hn, hd, rs⟩ := env1.dct s r0
    subst ea
    refine ⟨a, _, ks.map mkS, rfl, hd, keys_zip (hn.trans rs.length), by rw [List.length_map]; exact h64, fun ys q hp hs hq => ?_⟩
    obtain ⟨m, e, hm⟩ := perm_mkS hp
    subst e
    have em := sorted_is hm hs
    subst em
    refine k F1 _ (.raw (.ref q)) _ _ l1 (env1.addC (d := .lst (strsD (sortK ks))) hq ⟨_, rfl, ?_⟩) rfl (q1 q (env1.fresh hq))
    have := strs_reps (K := X.K) (F := F1) (sortK ks)
    rw [List.map_map]
    exact this, x⟩
def rdLenD : DRs := fun ρ ds P => ∃ d ks xs, ds = [d] ∧ Sees ρ d (.dct ks xs) ∧ P (.int (ks.length : Nat))
theorem call_lenDR : CallR X (.builtin "len") (fun xs H Q => ∃ a kvs, xs = [V.ref a] ∧ Rd H a (.dK kvs) ∧ Q (.int kvs.length) H) := by
  intro pins s σ H xs us Q I r h
  obtain ⟨a, kvs, rfl, ha, q⟩ := h
  obtain ⟨u, rfl, ru⟩ := vals1 r
  cases ru
  exact d_len I ha fun t s' I' => ⟨.int kvs.length, H, I', ⟨t, rfl⟩, q⟩
theorem l_lenD {K : PySem.W.Frag} : LiftC K (fun xs H Q => ∃ a kvs, xs = [V.ref a] ∧ Rd H a (.dK kvs) ∧ Q (.int kvs.length) H) rdLenD := fun G F H σ ρ ds vs P Q env r ⟨d, ks, xs, e, s, p⟩ k => by
  subst e
  obtain ⟨v, ev, rv⟩ := reps1 r
  subst ev
  obtain ⟨a, ws, ea, hn, hd, rs⟩ := env.dct s rv
  subst ea
  refine ⟨a, _, rfl, hd, ?_⟩
  have e : ((ks.map keyV).zip ws).length = ks.length := by rw [List.length_zip, List.length_map, ← hn.trans rs.length, Nat.min_self]
  rw [e]
  exact k F H (.int _) _ (Grow.refl env.fit) rfl p
theorem v_lenDct {ρ : Rho} {d : D} {ks : List (List Nat)} {xs : List D} (s : Sees ρ d (.dct ks xs)) : Vs rdLenD ρ [d] (.int ((ks.length : Nat) : Int)) := fun P p => ⟨d, ks, xs, rfl, s, p⟩
end

/-! ### one step at a time: what a reading asks -/
section
variable {ρ : Rho} {t ta tb to te tx : DX} {u : DA} {c : DT} {wi : DI} {g gd : DG} {tt : DT} {tbd v v2 : DS} {rd : DR2} {rs : DRs} {P : PoS} {i : Nat}
theorem d_cons {Q : Po (List D)} (h : t ρ ⟨fun x ρ1 => u ρ1 ⟨fun xs ρ2 => Q.ok (x :: xs) ρ2, Q.ex⟩, Q.ex⟩) : dCons t u ρ Q := h
theorem d_nil {Q : Po (List D)} (h : Q.ok [] ρ) : dNil ρ Q := h
theorem d_op {Q : Po D} (h : ta ρ ⟨fun x ρ1 => tb ρ1 ⟨fun y ρ2 => rd ρ2 x y fun z => Q.ok z ρ2, Q.ex⟩, Q.ex⟩) : dOp rd ta tb ρ Q := h
theorem d_cb {Q : Po D} (h : u ρ ⟨fun ds ρ1 => rs ρ1 ds fun z => Q.ok z ρ1, Q.ex⟩) : dCB rs u ρ Q := h
theorem d_rng {Q : Po (List D)} (h : u ρ ⟨fun ds ρ1 => ∃ j : Int, ds = [.int j] ∧ -(2 ^ 62) ≤ j ∧ j < 2 ^ 62 ∧ Q.ok (intsD 0 j.toNat) ρ1, Q.ex⟩) : dRng1 u ρ Q := h
theorem d_tup {Q : Po D} (h : u ρ ⟨fun ds ρ1 => ds.length ≤ 16777216 ∧ Q.ok (.tup ds) ρ1, Q.ex⟩) : dTup u ρ Q := h
theorem d_lst {Q : Po D} (h : u ρ ⟨fun ds ρ1 => ds.length ≤ 16777216 ∧ Q.ok (.lst ds) ρ1, Q.ex⟩) : dLst u ρ Q := h
theorem d_seqi {Q : Po (List D)} (h : te ρ ⟨fun d ρ1 => ∃ ds, d = .lst ds ∧ Q.ok ds ρ1, Q.ex⟩) : dSeqI te ρ Q := h
theorem d_set (h : te ρ ⟨fun d ρ1 => g d ρ1 P.nx, P.ex⟩) : dSet te g ρ P := h
theorem d_setN (h : te ρ ⟨fun d ρ1 => P.nx (ρ1.set i d), P.ex⟩) : dSet te (dgName i) ρ P := h
theorem q_setN (h : te ρ ⟨fun d ρ1 => v (ρ1.set i d) P, P.ex⟩) : dSeq (dSet te (dgName i)) v ρ P := h
theorem d_ret (h : te ρ ⟨P.rt, P.ex⟩) : dRet te ρ P := h
theorem d_drop (h : te ρ ⟨fun _ ρ1 => P.nx ρ1, P.ex⟩) : dDrop te ρ P := h
/-- what a comprehension asks behind its iterable -/
def lcIn (gd : DG) (tt : DT) (te : DX) (ds : List D) (ρ1 : Rho) (P : Po D) : Prop := ∃ W : Nat → List D → Rho → Prop, W 0 [] ρ1 ∧
  (∀ j acc d ρ2, ds[j]? = some d → ρ2.sl = ρ1.sl → W j acc ρ2 → acc.length < 16777216 ∧ gd d ρ2 fun ρ3 => tt ρ3 ⟨fun b ρ4 => if b = true then te ρ4 ⟨fun y ρ5 => W (j + 1) (acc ++ [y]) (ρ5.back ρ1), exF⟩ else W (j + 1) acc (ρ4.back ρ1), exF⟩) ∧
  ∀ acc ρ2, ρ2.sl = ρ1.sl → W ds.length acc ρ2 → P.ok (.lst acc) ρ2
theorem d_lc {Q : Po D} (h : wi ρ ⟨fun ds ρ1 => lcIn gd tt te ds ρ1 Q, Q.ex⟩) : dLc wi gd tt te ρ Q := h
/-- what a for asks behind its iterable -/
def forIn (g : DG) (tb : DS) (ds : List D) (ρ1 : Rho) (P : PoS) : Prop := ∃ W : Nat → Rho → Prop, W 0 ρ1 ∧
  (∀ i d ρ2, ds[i]? = some d → W i ρ2 → g d ρ2 fun ρ3 => tb ρ3 { nx := W (i + 1), ct := W (i + 1), bk := P.nx, rt := P.rt, ex := P.ex }) ∧ ∀ ρ2, W ds.length ρ2 → P.nx ρ2
theorem d_for (h : wi ρ ⟨fun ds ρ1 => forIn g tbd ds ρ1 P, P.ex⟩) : dFor wi g tbd ρ P := h
end

/-! ### the draws: a state that is read and written, answers that are not told -/
def kCELLS : List Nat := [99, 101, 108, 108, 115]
def kLEFT : List Nat := [108, 101, 102, 116]
def kAT : List Nat := [97, 116]
def stD (q : Addr) (cs : List Int) (a : Nat) : D := .dct [kCELLS, kLEFT, kAT] [.lst (cs.map D.int), .raw (.ref q), .int ((a : Nat) : Int)]
structure Dst (p q : Addr) (n : Nat) (os : List Cell) : Prop where
  ex : ∃ (cs ls : List Int) (a : Nat), cs.length = ls.length ∧ cs.length ≤ 63 ∧ a ≤ n ∧ os = [⟨p, stD q cs a⟩, ⟨q, .lst (ls.map D.int)⟩]
theorem Dst.mono {p q : Addr} {n m : Nat} {os : List Cell} (h : Dst p q n os) (l : n ≤ m) : Dst p q m os := by
  obtain ⟨cs, ls, a, h1, h2, h3, h4⟩ := h.ex
  exact ⟨cs, ls, a, h1, h2, by omega, h4⟩
theorem Dst.addrs {p q : Addr} {n : Nat} {os : List Cell} (h : Dst p q n os) : addrs os = [p, q] := by
  obtain ⟨cs, ls, a, h1, h2, h3, h4⟩ := h.ex
  subst h4
  rfl
def Dr {α : Type} (c : Nat) (enc : α → List D) (pr : α → Prop) (out : α → D → Prop) : DF := fun ds os P => ∃ x p q n, ds = .raw (.ref p) :: enc x ∧ Dst p q n os ∧ n + c ≤ 1000000 ∧ pr x ∧ ∀ d os', out x d → Dst p q (n + c) os' → P.ok d os'
theorem ret_dst {ρ : Rho} {p q : Addr} {n m : Nat} {os os' r : List Cell} (h : Dst p q n os) (h' : Dst p q m os') : ρ.ret os os' r = ⟨ρ.sl, os' ++ r, ρ.lo⟩ := by
  unfold Rho.ret
  have : (fun a => ρ.lo a ∨ a ∈ DL.addrs os' ∧ a ∉ DL.addrs os) = ρ.lo := by
    funext a
    apply propext
    rw [h.addrs, h'.addrs]
    constructor
    · rintro (h | ⟨h1, h2⟩)
      · exact h
      · exact absurd h1 h2
    · exact .inl
  rw [this]
theorem d_draw {α : Type} {c : Nat} {enc : α → List D} {pr : α → Prop} {out : α → D → Prop} {ρ : Rho} {u : DA} {p q : Addr} {n : Nat} {os r : List Cell} {ds : List D} {Q : Po D} (x : α) (hu : EvA u ρ ds) (e : ds = .raw (.ref p) :: enc x) (hp : ρ.os.Perm (os ++ r)) (hd : Dst p q n os) (hn : n + c ≤ 1000000) (h : pr x)
    (k : ∀ d os', out x d → Dst p q (n + c) os' → Q.ok d ⟨ρ.sl, os' ++ r, ρ.lo⟩) : dCallC0 (Dr c enc pr out) u ρ Q :=
  hu _ ⟨os, r, hp, x, p, q, n, e, hd, hn, h, fun d os' ho hd' => by
    dsimp only
    rw [ret_dst hd hd']
    exact k d os' ho hd'⟩
/-- [draw for _ in ..] -/
theorem lc_draws {gd : DG} {te : DX} {ρ : Rho} {ds : List D} {p q : Addr} {n c : Nat} {os r : List Cell} {out : D → Prop} {Q : Po D} (hρ : ρ.os = os ++ r) (hd : Dst p q n os) (hl : ds.length ≤ 16777216)
    (turn : ∀ j d os' (Q' : Po D), ds[j]? = some d → Dst p q (n + c * j) os' → (∀ sl d' os'', out d' → Dst p q (n + c * j + c) os'' → Q'.ok d' ⟨sl, os'' ++ r, ρ.lo⟩) → gd d ⟨ρ.sl, os' ++ r, ρ.lo⟩ fun ρ3 => te ρ3 Q')
    (k : ∀ l os', l.length = ds.length → (∀ x ∈ l, out x) → Dst p q (n + c * ds.length) os' → Q.ok (.lst l) ⟨ρ.sl, os' ++ r, ρ.lo⟩) : lcIn gd dYes te ds ρ Q := by
  refine ⟨fun j acc ρ2 => ∃ os', ρ2 = ⟨ρ.sl, os' ++ r, ρ.lo⟩ ∧ Dst p q (n + c * j) os' ∧ acc.length = j ∧ ∀ x ∈ acc, out x, ⟨os, ?_, by simpa using hd, rfl, fun x hx => by cases hx⟩, ?_, ?_⟩
  · cases ρ
    dsimp only at hρ ⊢
    rw [hρ]
  · rintro j acc d ρ2 hj _ ⟨os', rfl, hd', hacc, ho⟩
    have hjl : j < ds.length := (List.getElem?_eq_some_iff.mp hj).1
    refine ⟨by omega, ?_⟩
    refine turn j d os' _ hj hd' fun sl d' os'' ho' hd'' => ?_
    dsimp only
    refine ⟨os'', rfl, ?_, by rw [List.length_append, hacc]; rfl, fun x hx => ?_⟩
    · have e : c * (j + 1) = c * j + c := by rw [Nat.mul_add, Nat.mul_one]
      rw [e, ← Nat.add_assoc]
      exact hd''
    · rcases List.mem_append.mp hx with h | h
      · exact ho x h
      · rw [List.mem_singleton.mp h]; exact ho'
  · rintro acc ρ2 _ ⟨os', rfl, hd', hacc, ho⟩
    exact k acc os' hacc ho hd'
end DL

set_option Elab.async false
set_option linter.all false
set_option maxRecDepth 100000
set_option maxHeartbeats 2000000
namespace DL
open PySem PySem.Spec PyProof PyProof.Rows L2 TL

section
variable {X : Cx} {E : XK} {C : Addr} {k : Nat} {ps : List Str} {R : DF} {a b : Expr} {ta tb : DX} {pos : Pos}
theorem pt_eqOwn (M : KnS X.prog X.w X.K X.mg X.base C "__eq__" k ps R) (hr : Room k X.A) (ha : PX X E a ta) (hb : PX X E b tb) (hm : behindInMarks .Eq b = false := by first | exact nomark _ | rfl) : PXT X E (.Compare a [.Eq] [b] pos) (dTest (dOp (rdOwn C R false) ta tb)) := by
  obtain ⟨f, fd, h1, h2, h3, h4, h5⟩ := M.ex
  exact DL.pt_cmp (op_eqO h1 h2 h5 h4 hr) l_own ha hb hm
theorem pt_neOwn (M : KnS X.prog X.w X.K X.mg X.base C "__eq__" k ps R) (hn : PySem.W.findIn X.K (.ref C) "__ne__" = some (some (.builtin "object.__ne__"))) (hmr : PySem.W.mroIn X.K C (.type "object") = some true) (hr : Room (k + 1) X.A) (ha : PX X E a ta) (hb : PX X E b tb) (hm : behindInMarks .NotEq b = false := by first | exact nomark _ | rfl) : PXT X E (.Compare a [.NotEq] [b] pos) (dTest (dOp (rdOwn C R true) ta tb)) := by
  obtain ⟨f, fd, h1, h2, h3, h4, h5⟩ := M.ex
  exact DL.pt_cmp (op_neO hn hmr h1 h2 h5 h4 hr) l_own ha hb hm
end
/-! ### d == {}, d != {} -/
def rDE (neg : Bool) : R2 := fun x y H Q => ∃ a b ks, x = .ref a ∧ y = .ref b ∧ Rd H a (.dK ks) ∧ Rd H b (.dK []) ∧ Q (.bl (if neg then !ks.isEmpty else ks.isEmpty)) H
theorem hits_nil {A : Around} {s : Shared} {va vb : List (L2.Key × Value)} (rb : vb = []) (h : va.length = vb.length) : PySem.W.KeqHits A s vb va true := by
  subst rb
  have : va = [] := List.eq_nil_of_length_eq_zero h
  subst this
  exact .nil
section
variable {X : Cx}
theorem op_eqDE (hu : X.A.units < cLine) : OpR X (compareOp .Eq) (rDE false) := by
  intro pins s σ H x y v u Q I rx ry h
  obtain ⟨a, b, ks, rfl, rfl, ea, eb, q⟩ := h
  obtain rfl : v = Value.ref a := rx
  obtain rfl : u = Value.ref b := ry
  obtain ⟨_, ya, va, ra, da⟩ := dk_rd I.hok ea
  obtain ⟨_, yb, vb, rb, db⟩ := dk_rd I.hok eb
  have hb : vb = [] := by
    have := rb.length
    exact List.eq_nil_of_length_eq_zero (by rw [← this]; rfl)
  refine PySem.W.keq_eq (knd := mixKind X.prog X.w) (r := true) ya yb da db hu (fun h => hits_nil hb h) (fin_bl I q ?_)
  subst hb
  have := ra.length
  cases ks with
  | nil => cases va with
    | nil => rfl
    | cons _ _ => simp at this
  | cons _ _ => cases va with
    | nil => simp at this
    | cons _ _ => rfl
theorem op_neDE (hu : X.A.units < cLine) : OpR X (compareOp .NotEq) (rDE true) := by
  intro pins s σ H x y v u Q I rx ry h
  obtain ⟨a, b, ks, rfl, rfl, ea, eb, q⟩ := h
  obtain rfl : v = Value.ref a := rx
  obtain rfl : u = Value.ref b := ry
  obtain ⟨_, ya, va, ra, da⟩ := dk_rd I.hok ea
  obtain ⟨_, yb, vb, rb, db⟩ := dk_rd I.hok eb
  have hb : vb = [] := by
    have := rb.length
    exact List.eq_nil_of_length_eq_zero (by rw [← this]; rfl)
  refine PySem.W.keq_ne (knd := mixKind X.prog X.w) (r := true) ya yb da db hu (fun h => hits_nil hb h) (fin_bl I q ?_)
  subst hb
  have := ra.length
  cases ks with
  | nil => cases va with
    | nil => rfl
    | cons _ _ => simp at this
  | cons _ _ => cases va with
    | nil => simp at this
    | cons _ _ => rfl
def rdDE (neg : Bool) : DR2 := fun ρ x y P => ∃ ks ds, Sees ρ x (.dct ks ds) ∧ Sees ρ y (.dct [] []) ∧ P (.bl (if neg then !ks.isEmpty else ks.isEmpty))
theorem l_DE {K : PySem.W.Frag} {neg : Bool} : Lift2 K (rDE neg) (rdDE neg) := l2_of fun G F H σ ρ d1 d2 v1 v2 P Q env r1 r2 ⟨ks, ds, s1, s2, h⟩ k => by
  obtain ⟨a, vs, ea, hn, hd, rs⟩ := env.dct s1 r1
  obtain ⟨b, ws, eb, hn2, hd2, rs2⟩ := env.dct s2 r2
  refine ⟨a, b, _, ea, eb, hd, hd2, ?_⟩
  have e : ((ks.map keyV).zip vs).isEmpty = ks.isEmpty := by
    have hl := hn.trans rs.length
    cases ks with
    | nil => rfl
    | cons k ks => cases vs with
      | nil => simp at hl
      | cons v vs => rfl
  rw [e]
  exact k (.bl _) _ rfl h
theorem v_DE {ρ : Rho} {neg : Bool} {x y : D} {ks : List (List Nat)} {ds : List D} (s1 : Sees ρ x (.dct ks ds)) (s2 : Sees ρ y (.dct [] [])) : V2 (rdDE neg) ρ x y (.bl (if neg then !ks.isEmpty else ks.isEmpty)) := fun P p => ⟨ks, ds, s1, s2, p⟩
end
/-- what a classmethod's call asks -/
def dCM (R : DF) (C : Addr) (u : DA) : DX := fun ρ P => u ρ ⟨fun ds ρ1 => R (.raw (.ref C) :: ds) [] ⟨fun d _ => P.ok d ρ1, exN⟩, P.ex⟩
end DL

set_option Elab.async false
set_option linter.all false
set_option maxRecDepth 100000
set_option maxHeartbeats 2000000
namespace DL
open PySem PySem.Spec PyProof PyProof.Rows L2 TL He

/-! ### the head's facts: any checks of the written part, by one run -/
theorem DfX.funD {K : PySem.W.Frag} {d : DfX} (e : fnX K (d.adr K) = d.val) (c : d.ok K = true) : ∃ fd, FunD K d.name d.qual (defArgs d.st) (defBody d.st) (defScope d.st) (d.dvs K) [] (d.adr K) fd := by
  obtain ⟨kp, c2⟩ := ba c
  unfold fnX at e
  cases q : K.lookup (d.adr K) with
  | none =>
    rw [q] at c2
    cases c2
  | some o =>
    obtain ⟨oc, od, dt, osl⟩ := o
    rw [q] at c2 e
    cases dt with
    | func fd =>
      obtain ⟨n1, n2, n3, n4, n5, n6, n7, n8, n9, n10, n11, n12, n13, n14, n15⟩ := fd
      have e2 : (some (n1, n2, n3, n4, n5, n6, n7, n15) : FnW) = some (d.name, d.qual, defArgs d.st, .stmts (defBody d.st), defScope d.st, mainGlobals, [], builtinsNs) := e
      simp only [Option.some.injEq, Prod.mk.injEq] at e2
      obtain ⟨h1, h2, h3, h4, h5, h6, h7, h8⟩ := e2
      subst h1 h2 h3 h4 h5 h6 h7 h8
      have c3 : (PySem.W.codeIn K n13 d.qual && dflB K n8 (d.dvs K)) = true := c2
      obtain ⟨k1, k2⟩ := ba c3
      exact ⟨_, ⟨oc, od, n8, n9, n10, n11, n12, n13, n14, osl, rfl, q, k1, dflB_ok k2, .inl rfl⟩, kp⟩
    | _ => cases c2
theorem funD_fun {K : PySem.W.Frag} {x qual : Str} {st : Stmt} {f : Addr} {fd : FuncData} (F : FunD K x qual (defArgs st) (defBody st) (defScope st) [] [] f fd) : Fun K x qual st f fd := by
  obtain ⟨⟨oc, od, dV, kV, doc, pm, an, cdv, ct, osl, h1, h2, h3, h4, h5⟩, kp⟩ := F
  have e : dV = .none := by
    rcases h4 with ⟨_, h⟩ | ⟨h, _⟩
    · exact h
    · exact absurd rfl h
  subst e
  exact ⟨⟨oc, od, kV, doc, pm, an, cdv, ct, osl, h1, h2, h3⟩, kp⟩
theorem DfX.fun_ {K : PySem.W.Frag} {d : DfX} (hd : d.dfl = []) (e : fnX K (d.adr K) = d.val) (c : d.ok K = true) : ∃ fd, Fun K d.name d.qual d.st (d.adr K) fd := by
  obtain ⟨fd, F⟩ := DfX.funD e c
  have : d.dvs K = [] := by unfold DfX.dvs; rw [hd]; rfl
  rw [this] at F
  exact ⟨fd, funD_fun F⟩
/-! where things stand -/
theorem recB_ok {K : PySem.W.Frag} {p : Addr} {T : String} (h : recB K p T = true) : ∃ rest, PySem.W.recIn K p T = some (.ref (prA K p T) :: rest) := by
  unfold recB at h
  unfold prA
  cases e : PySem.W.recIn K p T with
  | none => rw [e] at h; cases h
  | some l =>
    rw [e] at h
    cases l with
    | nil => cases h
    | cons v r => cases v with
      | ref g => exact ⟨r, rfl⟩
      | _ => cases h
theorem obB_ok {a b : Option Bool} (h : obB a b = true) : a = b := of_decide_eq_true h
theorem propB_ok {x m : Str} {K : PySem.W.Frag} (h : propB x m K = true) : PropOf K (ga K x) m (ma K (ga K x) m) (prG x m K) := by
  obtain ⟨c1, c⟩ := ba h
  obtain ⟨c2, c⟩ := ba c
  obtain ⟨c3, c4⟩ := ba c
  exact ⟨eqO_ok c1, eqO_ok c2, obB_ok c3, recB_ok c4⟩
theorem cfB_ok {a : Option PySem.W.CFound} {g v cls : Value} (h : cfB a g v cls = true) : a = some (.get g v .none cls) := by
  unfold cfB at h
  split at h
  · obtain ⟨c1, c⟩ := ba h
    obtain ⟨c2, c⟩ := ba c
    obtain ⟨c3, c4⟩ := ba c
    rw [eq_of_beq c1, eq_of_beq c2, eq_of_beq c3, eq_of_beq c4]
  · cases h
theorem cmB_ok {x m : Str} {K : PySem.W.Frag} (h : cmB x m K = true) : ClX.CRead K (ga K x) (.type "type") ∧ ClX.CMet K (ga K x) (.type "type") m (ma K (ga K x) m) (cmG x m K) := by
  obtain ⟨c1, c⟩ := ba h
  obtain ⟨c2, c⟩ := ba c
  obtain ⟨c3, c⟩ := ba c
  obtain ⟨c4, c5⟩ := ba c
  exact ⟨⟨c1, eqO_ok c2⟩, cfB_ok c3, recB_ok c4, c5⟩
theorem insB_ok {x : Str} {K : PySem.W.Frag} (h : insB x K = true) : InsK K (ga K x) := by
  obtain ⟨c1, c⟩ := ba h
  obtain ⟨c2, c⟩ := ba c
  obtain ⟨c3, c⟩ := ba c
  obtain ⟨c4, c5⟩ := ba c
  exact ⟨cls_ok c1, eqO_ok c2, eqO_ok c3, obB_ok c4, obB_ok c5⟩
/-! the written part holds no list -/
theorem lookup_mem : ∀ {K : PySem.W.Frag} {a : Addr} {o : Obj}, K.lookup a = some o → (a, o) ∈ K
  | [], _, _, h => by cases h
  | (b, x) :: K, a, o, h => by
    rw [List.lookup_cons] at h
    cases q : a == b with
    | true =>
      rw [q] at h
      have : x = o := Option.some.inj h
      rw [this, beq_iff_eq.mp q]
      exact List.mem_cons_self
    | false =>
      rw [q] at h
      exact List.mem_cons_of_mem _ (lookup_mem h)
theorem rd_of_noLst {K : PySem.W.Frag} (h : noLst K = true) {H : Hp} {a : Addr} {xs : List V} (s : SqL K H a xs) : Rd H a (.lst xs) := by
  rcases s with s | ⟨o, its, n, hl, hc, _⟩
  · exact s
  · have := List.all_eq_true.mp h _ (lookup_mem hl)
    dsimp only at this
    rw [hc] at this
    exact absurd this (by decide)
theorem reps_ints {K : PySem.W.Frag} {F : Hp} : ∀ ns : List Int, Reps K F (ns.map D.int) (ns.map V.int)
  | [] => rfl
  | n :: ns => ⟨_, _, rfl, rfl, reps_ints ns⟩
/-- the law's promise at the script -/
theorem pr_law {K : PySem.W.Frag} {R : DF} {H : Hp} {a : Addr} {ns : List Int} (h : Rd H a (.lst (ns.map V.int))) (r : ∀ P : PoF, P.ok (.bl true) [] → R [.lst (ns.map D.int)] [] P) : Pr K (NoX R) [.ref a] H (fun v _ => v = .bl true) fun _ _ _ => False := by
  refine ⟨H, [.lst (ns.map D.int)], [], ⟨fun d _ => d = .bl true, fun _ _ _ _ => False⟩, fun _ _ h => h, cells_nil, Reps.one ⟨a, _, rfl, h, reps_ints ns⟩, ⟨r _ rfl, fun _ _ _ _ z => z⟩, fun F' H' d v os' _ rv e => ?_, fun _ _ _ _ _ _ _ _ _ _ _ _ z => z.elim⟩
  subst e
  exact rv
/-! how arguments bind -/
theorem bindsDf {K : PySem.W.Frag} {x qual : Str} {params : Arguments} {body : List Stmt} {scope : Scope} {dvs : List V} {f : Addr} {fd : FuncData} {ps : List Str} (F : FunD K x qual params body scope dvs [] f fd) (hd : dvs ≠ [])
    (h : ∀ (T : Addr) (kV doc pm : Value) (an : Option Addr) (cdv ct : Value) (us its : List Value), us.length = ps.length → its.length = dvs.length →
      ∃ k, bindArgs (PySem.W.fnOf x qual params body scope (.ref T) kV doc pm an cdv ct) ⟨us, []⟩ = seqItems? (.ref T) >>= k ∧ k (some its.toArray) = pure (ps.zip (us ++ its.drop dvs.length))) : Binds K fd ps [] := by
  obtain ⟨ds, r, b⟩ := F.binds1 ps.length dvs.length hd (by omega) h
  rw [List.drop_length] at r
  cases r
  exact b
theorem fnr_mk {P : Program} {w : World} {K : PySem.W.Frag} {mg : Str → Option Value} {base : Heap} {CX : CXT} {k : Nat} {f : Addr} {fd : FuncData} {ps : List Str} {sp : Sp} (F : FnOk P w K mg base CX k f fd ps sp) (hb : Binds K fd ps []) : FnR P w K mg base CX k f sp :=
  (F.raw hb .nil).imp fun vs H Q E h => by rw [List.append_nil]; exact h
theorem kbinds1 {K : PySem.W.Frag} {x qual y : Str} {st : Stmt} {f : Addr} {fd : FuncData} (F : Fun K x qual st f fd)
    (h1 : ∀ (kV doc pm : Value) (an : Option Addr) (cdv ct u : Value), bindArgs (PySem.W.fnOf x qual (defArgs st) (defBody st) (defScope st) .none kV doc pm an cdv ct) ⟨[u], []⟩ = pure [(y, u)])
    (h2 : ∀ (kV doc pm : Value) (an : Option Addr) (cdv ct u : Value), bindArgs (PySem.W.fnOf x qual (defArgs st) (defBody st) (defScope st) .none kV doc pm an cdv ct) ⟨[], [(y, u)]⟩ = pure [(y, u)]) : KBinds K fd [y] [y] (fun us ws => us ++ ws) (fun vs zs => vs ++ zs) := by
  obtain ⟨oc, od, kV, doc, pm, an, cdv, ct, osl, rfl, lk, hcd⟩ := F.ex
  refine ⟨fun s us ws _ hl => ?_, fun r1 r2 => r1.append r2⟩
  match us, ws, hl with
  | [u], [], _ => exact .of_eq (h1 kV doc pm an cdv ct u)
  | [], [u], _ => exact .of_eq (h2 kV doc pm an cdv ct u)
  | _ :: _ :: _, _, hl => exact absurd hl (by simp)
  | [_], _ :: _, hl => exact absurd hl (by simp)
  | [], [], hl => exact absurd hl (by simp)
  | [], _ :: _ :: _, hl => exact absurd hl (by simp)
/-! the Hook -/
section
variable {fa : List (PySem.W.Frag → Bool)} {fn : List DfX} {K : PySem.W.Frag}
theorem SaysX.fact (c : SaysX fa fn K) (i : Nat) {f : PySem.W.Frag → Bool} (h : fa[i]? = some f := by rfl) : f K = true := by
  have c1 := (ba (show ((fa.all fun f => f K) && fn.all fun d => d.ok K) = true from congrArg (fun z : AlX => z.1) c)).1
  exact List.all_eq_true.mp c1 f (List.mem_of_getElem? h)
theorem SaysX.both (c : SaysX fa fn K) (i : Nat) {d : DfX} (h : fn[i]? = some d := by rfl) : fnX K (d.adr K) = d.val ∧ d.ok K = true := by
  have c2 := (ba (show ((fa.all fun f => f K) && fn.all fun d => d.ok K) = true from congrArg (fun z : AlX => z.1) c)).2
  have e : fn.map (fun d => fnX K (d.adr K)) = fn.map DfX.val := congrArg (fun z : AlX => z.2) c
  have e2 : (fn.map fun d => fnX K (d.adr K))[i]? = (fn.map DfX.val)[i]? := by rw [e]
  rw [List.getElem?_map, List.getElem?_map, h] at e2
  exact ⟨Option.some.inj e2, List.all_eq_true.mp c2 d (List.mem_of_getElem? h)⟩
theorem SaysX.def_ (c : SaysX fa fn K) (i : Nat) {d : DfX} (hd : d.dfl = []) (h : fn[i]? = some d := by rfl) : ∃ fd, Fun K d.name d.qual d.st (d.adr K) fd := DfX.fun_ hd (c.both i h).1 (c.both i h).2
theorem SaysX.defD (c : SaysX fa fn K) (i : Nat) {d : DfX} (h : fn[i]? = some d := by rfl) : ∃ fd, FunD K d.name d.qual (defArgs d.st) (defBody d.st) (defScope d.st) (d.dvs K) [] (d.adr K) fd := DfX.funD (c.both i h).1 (c.both i h).2
end
end DL

set_option Elab.async false
set_option linter.all false
set_option maxRecDepth 100000
set_option maxHeartbeats 2000000
namespace DL
open PySem PySem.Spec PyProof PyProof.Rows L2 TL

section
variable {X : Cx} {E : XK} {ρ : Rho} {K : PySem.W.Frag}
/-! ### a tuple of texts of the module -/
theorem px_gtupE {x : Str} {l : List (List Nat)} {pos : Pos} (hm : ∃ a, X.mg x = some (.ref a) ∧ ∀ H, SqT X.K H a (l.map fun s => V.str (mkS s))) (hg : Gl X x := by rfl) (hd : (x == ("__debug__" : Str)) = false := by decide) : PX X E (.Name x pos) (dC (.tup (strsD l))) := by
  obtain ⟨a, hm, hs⟩ := hm
  exact px_c (pe_glob hg hm (show RelV (.ref a) _ from rfl) hd) fun F => ⟨a, _, rfl, hs F, strs_reps l⟩
/-! ### text.removeprefix -/
def rmPre (s t : List Nat) : List Nat := tl (Txt.removeprefix (mkS s) (mkS t))
def rdRemP : DRM := fun _ o ys P => ∃ s t, o = .str s ∧ ys = [.str t] ∧ s.length ≤ 16777216 ∧ P (.str (rmPre s t))
theorem l_remP : LiftM K (fun x xs H Q => ∃ a b, x = .str a ∧ xs = [.str b] ∧ a.length ≤ sizeLine ∧ Q (.str (Txt.removeprefix a b)) H) rdRemP :=
  fun G F H σ ρ d v ds vs P Q env r1 r2 ⟨s, t, e1, e2, h, p⟩ k => by
    subst e1 e2
    cases r1
    obtain ⟨w, ew, rw'⟩ := reps1 r2
    subst ew
    cases rw'
    refine ⟨mkS s, mkS t, rfl, rfl, by rw [mkS_len, sizeLine_eq]; exact h, ?_⟩
    have e : Txt.removeprefix (mkS s) (mkS t) = mkS (rmPre s t) := (mk_tl _).symm
    rw [e]
    exact k F H (.str _) _ (Grow.refl env.fit) rfl p
theorem v_remP {s t : List Nat} (h : s.length ≤ 16777216) : Vm rdRemP ρ (.str s) [.str t] (.str (rmPre s t)) := fun P p => ⟨s, t, rfl, rfl, h, p⟩
/-! ### ints as texts, texts as ints -/
def itx (i : Int) : List Nat := tl ((toString i : String) : Str)
def rdStrI : DRs := fun _ ds P => ∃ i, ds = [.int i] ∧ i.natAbs.log2 < 1920 ∧ P (.str (itx i))
theorem l_strI : LiftC K (fun xs H Q => ∃ i, xs = [.int i] ∧ i.natAbs.log2 < 1920 ∧ Q (.str ((toString i : String) : Str)) H) rdStrI := fun G F H σ ρ ds vs P Q env r ⟨i, e, h, p⟩ k => by
  subst e
  obtain ⟨v, ev, rv⟩ := reps1 r
  cases rv
  refine ⟨i, ev, h, ?_⟩
  have e : ((toString i : String) : Str) = mkS (itx i) := (mk_tl _).symm
  rw [e]
  exact k F H (.str _) _ (Grow.refl env.fit) rfl p
theorem v_strI {i : Int} (h : i.natAbs.log2 < 1920) : Vs rdStrI ρ [.int i] (.str (itx i)) := fun P p => ⟨i, rfl, h, p⟩
def rdIntS : DRs := fun _ ds P => ∃ s n, ds = [.str s] ∧ PySem.intText? (mkS s) = some n ∧ s.length ≤ 640 ∧ P (.int n)
theorem l_intS : LiftC K (fun xs H Q => ∃ a n, xs = [.str a] ∧ PySem.intText? a = some n ∧ a.length ≤ 640 ∧ Q (.int n) H) rdIntS := fun G F H σ ρ ds vs P Q env r ⟨s, n, e, h1, h2, p⟩ k => by
  subst e
  obtain ⟨v, ev, rv⟩ := reps1 r
  cases rv
  exact ⟨mkS s, n, ev, h1, by rw [mkS_len]; exact h2, k F H (.int _) _ (Grow.refl env.fit) rfl p⟩
theorem v_intS {s : List Nat} {n : Int} (h1 : PySem.intText? (mkS s) = some n) (h2 : s.length ≤ 640) : Vs rdIntS ρ [.str s] (.int n) := fun P p => ⟨s, n, rfl, h1, h2, p⟩
/-! ### f'..' -/
def dFmt (t : DX) : DX := fun ρ P => t ρ ⟨fun d ρ1 => (∃ s, d = .str s ∧ s.length ≤ 16777216 ∧ P.ok (.str s) ρ1) ∨ ∃ i, d = .int i ∧ i.natAbs.log2 < 1920 ∧ P.ok (.str (itx i)) ρ1, P.ex⟩
theorem px_fmt {e : Expr} {t : DX} {pos : Pos} (h : PX X E e t) : PX X E (.FormattedValue e (-1) none pos) (dFmt t) :=
  px_of (pe_fmt h) fun G F H σ ρ P Q env q k x => ⟨G, F, ρ, _, env, q, fun F1 H1 d v ρ1 l1 env1 r1 q1 => by
    rcases q1 with ⟨s, e, hl, q1⟩ | ⟨i, e, hl, q1⟩
    · subst e
      cases r1
      exact .inl ⟨mkS s, rfl, by rw [mkS_len, sizeLine_eq]; exact hl, k F1 H1 (.str s) _ ρ1 l1 env1 rfl q1⟩
    · subst e
      cases r1
      refine .inr ⟨i, rfl, hl, ?_⟩
      have e : ((toString i : String) : Str) = mkS (itx i) := (mk_tl _).symm
      rw [e]
      exact k F1 H1 (.str (itx i)) _ ρ1 l1 env1 rfl q1, x⟩
inductive PXJ (X : Cx) (E : XK) : List Expr → List DX → Prop where
  | nil : PXJ X E [] []
  | cons {e : Expr} {t : DX} {es : List Expr} {ts : List DX} (h : PX X E e t) (r : PXJ X E es ts) : PXJ X E (e :: es) (t :: ts)
def dJs : List DX → List Nat → Rho → Po D → Prop
  | [], acc, ρ, P => P.ok (.str acc) ρ
  | t :: ts, acc, ρ, P => t ρ ⟨fun d ρ1 => ∃ s, d = .str s ∧ acc.length + s.length ≤ 16777216 ∧ dJs ts (acc ++ s) ρ1 P, P.ex⟩
theorem pxj_pj {es : List Expr} {ts : List DX} (h : PXJ X E es ts) : PJ X es (ts.map (up X.K E)) := by
  induction h with
  | nil => exact .nil
  | cons h _ ih => exact .cons h ih
theorem js_up : ∀ (ts : List DX) (acc : List Nat) {G : Ent} {F H : Hp} {σ : L2.St} {ρ : Rho} {P : Po D} {Q : VK}, Env K G F H σ ρ → dJs ts acc ρ P → (∀ F' H' d v ρ', Le F F' → Env K G F' H' σ ρ' → Rep K F' d v → P.ok d ρ' → Q v H') → ExW K E G F σ P.ex →
    tJs (ts.map (up K E)) (mkS acc) σ H fun out H1 => Q (.str out) H1
  | [], acc, G, F, H, σ, ρ, P, Q, env, q, k, x => k F H (.str acc) _ ρ (Le.refl F) env rfl q
  | t :: ts, acc, G, F, H, σ, ρ, P, Q, env, q, k, x => ⟨G, F, ρ, _, env, q, fun F1 H1 d v ρ1 l1 env1 r1 ⟨s, e, hl, q1⟩ => by
    subst e
    cases r1
    refine ⟨mkS s, rfl, by rw [mkS_app, mkS_len, List.length_append, sizeLine_eq]; exact hl, ?_⟩
    rw [mkS_app]
    exact js_up ts (acc ++ s) env1 q1 (fun F' H' d v ρ' l => k F' H' d v ρ' (l1.trans l)) (x.le l1), x⟩
theorem px_joined {e1 e2 : Expr} {es : List Expr} {ts : List DX} {pos : Pos} (h : PXJ X E (e1 :: e2 :: es) ts) : PX X E (.JoinedStr (e1 :: e2 :: es) pos) (dJs ts []) :=
  px_of (pe_joined (pxj_pj h)) fun G F H σ ρ P Q env q k x => js_up ts [] env q k x
theorem ev_fmtS {t : DX} {s : List Nat} (h : EvD t ρ (.str s)) (hl : s.length ≤ 16777216) : EvD (dFmt t) ρ (.str s) := fun P p => h _ (.inl ⟨s, rfl, hl, p⟩)
theorem ev_fmtI {t : DX} {i : Int} (h : EvD t ρ (.int i)) (hl : i.natAbs.log2 < 1920) : EvD (dFmt t) ρ (.str (itx i)) := fun P p => h _ (.inr ⟨i, rfl, hl, p⟩)
theorem ev_js0 {acc : List Nat} : EvD (dJs [] acc) ρ (.str acc) := fun P p => p
theorem ev_js {t : DX} {ts : List DX} {acc s r : List Nat} (h : EvD t ρ (.str s)) (hl : acc.length + s.length ≤ 16777216) (h2 : EvD (dJs ts (acc ++ s)) ρ (.str r)) : EvD (dJs (t :: ts) acc) ρ (.str r) := fun P p => h _ ⟨s, rfl, hl, h2 P p⟩
/-! ### list + list as a cell -/
def dCatC (ta tb : DX) : DX := fun ρ P => ta ρ ⟨fun x ρ1 => tb ρ1 ⟨fun y ρ2 => ∃ xs ys, Sees ρ2 x (.lst xs) ∧ Sees ρ2 y (.lst ys) ∧ xs.length + ys.length ≤ 16777216 ∧ ∀ p, Fresh ρ2 p → P.ok (.raw (.ref p)) (ρ2.add p (.lst (xs ++ ys))), P.ex⟩, P.ex⟩
theorem px_catC {a b : Expr} {ta tb : DX} {pos : Pos} (ha : PX X E a ta) (hb : PX X E b tb) : PX X E (.BinOp a .Add b pos) (dCatC ta tb) :=
  px_of (pe_op op_catL ha hb) fun G F H σ ρ P Q env q k x => ⟨G, F, ρ, _, env, q, fun F1 H1 d1 v1 ρ1 l1 env1 r1 q1 => ⟨G, F1, ρ1, _, env1, q1, fun F2 H2 d2 v2 ρ2 l2 env2 r2 ⟨xs, ys, s1, s2, hz, q2⟩ => by
    obtain ⟨a, vs, ev, h1, rs⟩ := env2.lstR s1 (r1.mono l2)
    obtain ⟨b, ws, ew, h2, rs2⟩ := env2.lstR s2 r2
    refine ⟨a, b, vs, ws, ev, ew, h1, h2, by rw [← rs.length, ← rs2.length, sizeLine_eq]; exact hz, fun p hp => ?_⟩
    exact k F2 _ (.raw (.ref p)) _ _ (l1.trans l2) (env2.addC (d := .lst (xs ++ ys)) hp ⟨_, rfl, rs.app rs2⟩) rfl (q2 p (env2.fresh hp)), x.le l1⟩, x⟩
/-! ### list.extend -/
def rExtR : V → List V → Hp → VK → Prop := fun x vs H Q => ∃ l b xs zs, x = .ref l ∧ vs = [.ref b] ∧ H l = some (.lst xs) ∧ Rd H b (.lst zs) ∧ xs.length + zs.length ≤ sizeLine ∧ Q .non (upd H l (.lst (xs ++ zs)))
theorem mt_extendR : MtM X "list.extend" rExtR := by
  intro pins s σ H x vs v us Q I rx rv h
  obtain ⟨l, b, xs, zs, rfl, rfl, hl, hb, hz, q⟩ := h
  cases rx
  obtain ⟨u, rfl, ru⟩ := rv.one
  cases ru
  obtain ⟨z, its, n, r, len1, e⟩ := I.lstM hl
  obtain ⟨z2, its2, n2, r2, e2⟩ := hb.ok I.hok
  have len2 := r2.length
  have hs : its.toArray.size + its2.toArray.size ≤ sizeLine := by
    simp only [List.size_toArray]
    omega
  have room : ¬ (!its.toArray.isEmpty && Builtin.List.listTooLong (its.toArray.size + its2.toArray.size)) = true := by
    rw [notLongL hs]
    simp
  refine call_meets F.slot_list_extend ⟨_, e, rfl⟩ F.entry_list_extend (F.args_list_extend_2 _ _) (AutoSeq1.list_extend_list_list_0 l its.toArray n b its2.toArray n2 room (by rw [List.size_toArray]; omega) (by omega)) ⟨e, e2, .non, _, I.lset (its' := its ++ its2) hl e (by simp) (r.append r2) ?_, rfl, q⟩
  rw [List.length_append]
  omega
theorem px_extend {o e : Expr} {to te : DX} {apos cpos : Pos} (ho : PX X E o to) (he : PX X E e te) (hbase : attributeBase o "extend" X.env (eval o X.env) = eval o X.env := by rfl)
    (hfew : ((backTo cpos (starEach [e] X.env)).all (fun x => !x.1) && (backToKw cpos (keywordEach [] X.env)).all (fun x => x.1.isSome) && decide (([e] : List Expr).length + ([] : List Keyword).length + (if ([] : List Keyword).isEmpty then 0 else 1) < 30)) = true := by rfl)
    (hline : (apos.endLine == cpos.line) = true := by rfl) (hs : starEach [e] X.env = (false, eval e X.env) :: starEach [] X.env := by rfl) (hplain : (backTo cpos (starEach [] X.env)).any (·.1) = false := by rfl) :
    PX X E (.Call (.Attribute o "extend" apos) [e] [] cpos) (dExtend to te) :=
  px_of (pe_bm PySem.F.plainAttrs_list PySem.F.slot_list_extend PySem.F.type_list_extend mt_extendR ho (pa_cons he pa_nil hs) hbase hfew hline hs hplain) fun G F H σ ρ P Q env q k x => ⟨G, F, ρ, _, env, q, fun F1 H1 d v ρ1 l1 env1 r1 ⟨⟨a0, ds0, eo, s⟩, q1⟩ => by
    obtain ⟨a1, vs1, ev1, hs1, _⟩ := env1.lst s r1
    subst ev1
    refine ⟨Or.inl ⟨rfl, _, hs1⟩, G, F1, ρ1, _, env1, q1, fun F2 H2 d2 v2 ρ2 l2 env2 r2 ⟨a, l, r, ds, xs, eo2, ec, ed, hl, q2⟩ => ?_, x.le l1⟩
    subst eo2
    cases r1
    obtain ⟨ho, hH, vs, eh, rs⟩ := env2.at ec
    subst eh
    subst ed
    obtain ⟨b, ws, eb, hb, rs2⟩ := r2
    subst eb
    exact ⟨_, b, vs, ws, rfl, rfl, hH, rd_fit env2.fit hb, by rw [sizeLine_eq, ← rs.length, ← rs2.length]; exact hl, k F2 _ .non .non _ (l1.trans l2) (env2.updC ec (d' := .lst (ds ++ xs)) ⟨vs ++ ws, rfl, rs.app rs2⟩) rfl q2⟩, x⟩
end
end DL

set_option Elab.async false
set_option linter.all false
set_option maxRecDepth 100000
set_option maxHeartbeats 2000000
namespace DL
open PySem PySem.Spec PyProof PyProof.Rows L2 TL

/-! ### xs == [], xs != [], whatever the items -/
def rLE (neg : Bool) : R2 := fun x y H Q => ∃ a b xs, x = .ref a ∧ y = .ref b ∧ Rd H a (.lst xs) ∧ Rd H b (.lst []) ∧ Q (.bl (if neg then !xs.isEmpty else xs.isEmpty)) H
section
variable {X : Cx}
theorem op_neLE (hu : X.A.units < cLine) : OpR X (compareOp .NotEq) (rLE true) := by
  intro pins s σ H x y v u Q I rx ry h
  obtain ⟨a, b, xs, rfl, rfl, ea, eb, q⟩ := h
  obtain rfl : v = Value.ref a := rx
  obtain rfl : u = Value.ref b := ry
  obtain ⟨z, its, n, r, e⟩ := ea.ok I.hok
  obtain ⟨z2, its2, n2, r2, e2⟩ := eb.ok I.hok
  cases r2
  have l1 : s.heap.IsList a its.toArray := ⟨_, e, rfl, _, rfl⟩
  have l2 : s.heap.IsList b (#[] : Array Value) := ⟨_, e2, rfl, _, rfl⟩
  show wpAny (model X.prog X.w) X.A (richCompare .NotEq (.ref a) (.ref b)) _ _ s
  cases xs with
  | nil =>
    cases r
    refine SeqAt.RcNeAt.lists (e := fun _ => true) l1 l2 rfl hu (fun j h1 _ => absurd h1 (by simp)) _ _ _ _ ?_
    exact ⟨.bl false, H, I, rfl, q⟩
  | cons x xs =>
    cases r with
    | cons ra rb =>
      refine SeqAt.RcNeAt.lists_lengths l1 l2 (by simp) hu _ _ _ _ ?_
      exact ⟨.bl true, H, I, rfl, q⟩
theorem op_eqLE (hu : X.A.units < cLine) : OpR X (compareOp .Eq) (rLE false) := by
  intro pins s σ H x y v u Q I rx ry h
  obtain ⟨a, b, xs, rfl, rfl, ea, eb, q⟩ := h
  obtain rfl : v = Value.ref a := rx
  obtain rfl : u = Value.ref b := ry
  obtain ⟨z, its, n, r, e⟩ := ea.ok I.hok
  obtain ⟨z2, its2, n2, r2, e2⟩ := eb.ok I.hok
  cases r2
  have l1 : s.heap.IsList a its.toArray := ⟨_, e, rfl, _, rfl⟩
  have l2 : s.heap.IsList b (#[] : Array Value) := ⟨_, e2, rfl, _, rfl⟩
  cases xs with
  | nil =>
    cases r
    refine SeqAt.eq_listAt (e := fun _ => true) l1 l2 rfl hu (fun j h1 _ => absurd h1 (by simp)) ?_
    exact ⟨.bl true, H, I, rfl, q⟩
  | cons x xs =>
    cases r with
    | cons ra rb =>
      refine SeqAt.eq_list_lengthsAt l1 l2 (by simp) hu ?_
      exact ⟨.bl false, H, I, rfl, q⟩
def rdLE (neg : Bool) : DR2 := fun ρ x y P => ∃ ds, Sees ρ x (.lst ds) ∧ Sees ρ y (.lst []) ∧ P (.bl (if neg then !ds.isEmpty else ds.isEmpty))
theorem l_LE {K : PySem.W.Frag} {neg : Bool} : Lift2 K (rLE neg) (rdLE neg) := l2_of fun G F H σ ρ d1 d2 v1 v2 P Q env r1 r2 ⟨ds, s1, s2, h⟩ k => by
  obtain ⟨a, vs, ea, hd, rs⟩ := env.lstR s1 r1
  obtain ⟨b, ws, eb, hd2, rs2⟩ := env.lstR s2 r2
  cases rs2
  refine ⟨a, b, vs, ea, eb, hd, hd2, ?_⟩
  have e : vs.isEmpty = ds.isEmpty := by
    have hl := rs.length
    cases ds with
    | nil => cases vs with
      | nil => rfl
      | cons v vs => simp at hl
    | cons k ks => cases vs with
      | nil => simp at hl
      | cons v vs => rfl
  rw [e]
  exact k (.bl _) _ rfl h
theorem v_LE {ρ : Rho} {neg : Bool} {x y : D} {ds : List D} (s1 : Sees ρ x (.lst ds)) (s2 : Sees ρ y (.lst [])) : V2 (rdLE neg) ρ x y (.bl (if neg then !ds.isEmpty else ds.isEmpty)) := fun P p => ⟨ds, s1, s2, p⟩
end
/-! ### -i -/
def dNeg (t : DX) : DX := fun ρ P => t ρ ⟨fun d ρ1 => ∃ i, d = .int i ∧ P.ok (.int (-i)) ρ1, P.ex⟩
theorem px_negE {X : Cx} {E : XK} {e : Expr} {t : DX} {pos : Pos} (h : PX X E e t) : PX X E (.UnaryOp .USub e pos) (dNeg t) :=
  px_of (pe_un un_neg h) fun G F H σ ρ P Q env q k x => ⟨G, F, ρ, _, env, q, fun F1 H1 d v ρ1 l1 env1 r1 ⟨i, e, q1⟩ => by
    subst e
    cases r1
    exact ⟨i, rfl, k F1 H1 (.int (-i)) _ ρ1 l1 env1 rfl q1⟩, x⟩
theorem ev_neg {ρ : Rho} {t : DX} {i : Int} (h : EvD t ρ (.int i)) : EvD (dNeg t) ρ (.int (-i)) := fun P p => h _ ⟨i, rfl, p⟩
/-! ### steps -/
section
variable {ρ : Rho} {c : DT} {ta tb to : DX} {u : DA} {P : PoS}
theorem d_if {Q : Po D} {b : Bool} (h : EvT c ρ b) (h1 : b = true → ta ρ Q) (h2 : b = false → tb ρ Q) : dIf c ta tb ρ Q := h _ (by
  cases b with
  | true => (try dsimp only); refine iteT ?_; exact h1 rfl
  | false => (try dsimp only); refine iteF ?_; exact h2 rfl)
end
end DL

set_option Elab.async false
set_option linter.all false
set_option maxRecDepth 100000
set_option maxHeartbeats 2000000
namespace DL
open PySem PySem.Spec PyProof PyProof.Rows L2 TL

/-! ### defs that may ask repr: nothing is being shown around them -/
structure FnG (P : Program) (w : World) (K : PySem.W.Frag) (mg : Str → Option Value) (base : Heap) (k : Nat) (f : Addr) (fd : FuncData) (ps : List Str) (R : DF) : Prop where
  len : ∀ ds os P, R ds os P → ds.length = ps.length
  run : ∀ (A : Around) (outer : List PySem.Env) (s : Shared) (H : Hp) (args : Args) (us : List Value) (vs : List V) (Q : VK), A.guards = some [] → Room k A → Env0 P w K mg base A outer s H → BindsTo s fd args (ps.zip us) → Vals vs us → Pr K (NoX R) vs H Q E0 →
    codeAny (model P w) A (.call (.ref f) args) (CR CX0 outer P w H s Q E0) s
section
variable {P : Program} {w : World} {K : PySem.W.Frag} {mg : Str → Option Value} {base : Heap}
theorem okG {x qual : Str} {st : Stmt} {f : Addr} {fd : FuncData} {N ps : List Str} {k : Nat} {R : DF} (F : Fun K x qual st f fd) (S : FnScope N ps (defScope st)) (len : ∀ ds os P, R ds os P → ds.length = ps.length)
    (hbp : ∃ t : DS, (∀ (cdv : Value) (A : Around) (outer : List PySem.Env) (s : Shared) (H : Hp), (A.deeper (envOfC qual (defScope st) s.heap.objs.size f cdv)).guards = some [] → Room k (A.deeper (envOfC qual (defScope st) s.heap.objs.size f cdv)) →
      PXB (cxOf CX0 P w K mg base N qual (defScope st) f cdv A outer s H E0).nox E0 (defBody st) t) ∧
    ∀ ds os P, R ds os P → (∀ C ns ds' os', ¬ P.ex C ns ds' os') → t (start0 N.length ds os) (bodyP P)) : FnG P w K mg base (k + 1) f fd ps R := by
  obtain ⟨oc, od, kV, doc, pm, ann, cdv, ct, osl, rfl, lk, hcd⟩ := F.ex
  obtain ⟨t, hb, hp⟩ := hbp
  refine ⟨len, fun A outer s H args us vs Q hg hr e0 hbi r hq => ?_⟩
  have hl : vs.length = ps.length := by
    obtain ⟨F0, ds, os, PP, fit, c, rr, ⟨hR, hx⟩, k1, _⟩ := hq
    rw [← rr.length]
    exact len ds os PP hR
  refine StX.run_bnd (G := fun xs H2 => xs = vs ∧ H2 = H) lk hcd S hr e0 (fun A' Ex Q' h => hbi _ _ _ _ (h s H vs us e0 Un.refl rfl (fun e s' q => q.elim) r hl ⟨rfl, rfl⟩)) fun s2 H2 xs ⟨ex, eH⟩ hr' => ?_
  subst ex eH
  obtain ⟨F0, ds, os, PP, fit, c, rr, ⟨hR, hx⟩, k1, _⟩ := hq
  have body := hb cdv A outer s2 H2 hg hr'
  refine ⟨_, PSs.nox body, entOf F0 _ os, F0, _, _, env_start fit c rr, hp ds os PP hR hx, ⟨fun F' H' σ' ρ' l e ⟨os', sb, q⟩ => k1 F' H' .non .non os' (env_after e sb) rfl q,
    fun F' H' σ' d v ρ' l e rv ⟨os', sb, q⟩ => k1 F' H' d v os' (env_after e sb) rv q, fun _ _ _ _ _ _ h => h.elim, fun _ _ _ _ _ _ h => h.elim, fun σ F' H' C ns ds' vs' e ρ' σ' l env _ _ _ ⟨os', _, z⟩ => hx C ns ds' os' z⟩⟩
structure KnG (P : Program) (w : World) (K : PySem.W.Frag) (mg : Str → Option Value) (base : Heap) (x : Str) (k : Nat) (ps : List Str) (R : DF) : Prop where
  ex : ∃ f fd, mg x = some (.ref f) ∧ PySem.W.keepIn K (.ref f) = true ∧ Binds K fd ps [] ∧ FnG P w K mg base k f fd ps R
end
section
variable {X : Cx} {E : XK} {x : Str} {k : Nat} {ps : List Str} {R : DF} {e : Expr} {es : List Expr} {u : DA} {p pos : Pos}
theorem px_callG (G : KnG X.prog X.w X.K X.mg X.base x k ps R) (hG : X.A.guards = some []) (hr : Room k X.A) (ha : PXA X E (e :: es) u) (hg : Gl X x := by rfl) (hdb : (x == ("__debug__" : Str)) = false := by decide)
    (he : starEach (e :: es) X.env = (false, eval e X.env) :: starEach es X.env := by rfl) (hpl : (backTo pos (starEach es X.env)).any (·.1) = false := by rfl) : PX X E (.Call (.Name x p) (e :: es) [] pos) (dCall0 R u) := by
  obtain ⟨f, fd, mf, kp, b, F⟩ := G.ex
  have pe : PE X (.Call (.Name x p) (e :: es) [] pos) (tCall (Pr X.K (NoX R)) [] E0 (upA X.K E u)) := by
    refine ⟨fun pins s σ H Q I h => ?_⟩
    refine wpAny_Call_Name_kw (ld_glob I hg mf ?_ hdb)
    refine PySem.W.callWith_K (h₀ := X.base) I.ok.mod.kin kp (thn (ha.run pos pins s σ H _ I h) fun us s1 ⟨vs, H1, I1, r, q⟩ => ⟨I1.kIn, ?_⟩) he hpl
    replace q : Pr X.K (NoX R) vs H1 Q E0 := by simpa only [List.append_nil] using q
    have hl : us.length = ps.length := by
      obtain ⟨F0, ds, os, PP, fit, c, rr, ⟨hR, hx⟩, k1, _⟩ := q
      rw [← r.length, ← rr.length]
      exact F.len ds os PP hR
    have hb := b s1 us I1.kIn (by rw [List.append_nil]; exact hl)
    rw [List.append_nil] at hb
    refine wpAny_call (codeAny_mono (F.run X.A X.stack s1 H1 ⟨us, []⟩ us vs Q hG hr I1.env0 hb r q) fun r s' hq => ?_)
    cases r with
    | error e => exact hq.elim
    | ok fl =>
      cases fl with
      | ret u => exact I1.after hq
      | next => exact False.elim hq
      | brk => exact False.elim hq
      | cont => exact False.elim hq
  exact px_of pe fun G F H σ ρ P Q env q k x => ⟨G, F, ρ, _, env, q, fun F1 H1 ds vs ρ1 l1 env1 r1 q1 =>
    app0 (P := fun l => Pr X.K (NoX R) l H1 Q E0) (pr_call0 env1 r1 q1 (fun F' H' d v ρ' l => k F' H' d v ρ' (l1.trans l))), x⟩
end

/-! ### repr of tuples -/
section
variable {X : Cx} {ρ : Rho}
theorem cr_repr (hg : X.A.guards = some []) (hu : X.A.units + 64 < cLine) : CallR X (.builtin "repr") (fun xs H Q => ∃ a pd, xs = [V.ref a] ∧ Dp X.K H (.ref a) pd ∧ pd.showable = true ∧ pd.hasDict = false ∧ pd.depth ≤ 32 ∧ pd.shown.length ≤ sizeLine ∧ Q (.str pd.shown) H) := by
  intro pins s σ H xs us Q I r h
  obtain ⟨a, pd, rfl, hd, h1, h2, h3, h4, q⟩ := h
  obtain ⟨u, rfl, ru⟩ := vals1 r
  cases ru
  obtain ⟨as, rd⟩ := Dp.reads I pd _ _ hd (show RelV (.ref a) (.ref a) from rfl)
  exact repr_of_reads' rd h1 (PyData.noDict_hsm h2) hg (by omega) (fun _ _ e => e) (fun h' u tk hk => ⟨.str _, H, I.kept hk, ⟨u, rfl⟩, q⟩) h4
def rdRepr : DRs := fun _ ds P => ∃ d pd, ds = [d] ∧ (∃ xs, d = .tup xs) ∧ toPy d = some pd ∧ pd.showable = true ∧ pd.hasDict = false ∧ pd.depth ≤ 32 ∧ pd.shown.length ≤ sizeLine ∧ P (.str (tl pd.shown))
theorem l_repr {K : PySem.W.Frag} : LiftC K (fun xs H Q => ∃ a pd, xs = [V.ref a] ∧ Dp K H (.ref a) pd ∧ pd.showable = true ∧ pd.hasDict = false ∧ pd.depth ≤ 32 ∧ pd.shown.length ≤ sizeLine ∧ Q (.str pd.shown) H) rdRepr := fun G F H σ ρ ds vs P Q env r ⟨d, pd, e, ⟨xs, ed⟩, hp, h1, h2, h3, h4, p⟩ k => by
  subst e ed
  obtain ⟨v, ev, rv⟩ := reps1 r
  subst ev
  have hd := dp_of env.fit hp rv
  obtain ⟨a, vs, ev, _⟩ := rv
  subst ev
  refine ⟨a, pd, rfl, hd, h1, h2, h3, h4, ?_⟩
  have e : pd.shown = mkS (tl pd.shown) := (mk_tl _).symm
  rw [e]
  exact k F H (.str _) _ (Grow.refl env.fit) rfl p
theorem v_repr {ds : List D} {pd : PyData} (hp : toPy (.tup ds) = some pd) (h1 : pd.showable = true) (h2 : pd.hasDict = false) (h3 : pd.depth ≤ 32) (h4 : pd.shown.length ≤ sizeLine) : Vs rdRepr ρ [.tup ds] (.str (tl pd.shown)) := fun P p => ⟨_, pd, rfl, ⟨ds, rfl⟩, hp, h1, h2, h3, h4, p⟩
end

/-! ### the end: the law is called where nothing is being shown -/
/-- the script alone is known -/
def scrH (a : Addr) (u : HO) : Hp := fun b => if b = a then some u else none
section
variable {a : Addr} {u : HO} {h : Heap}
theorem scrH_self : scrH a u a = some u := if_pos rfl
theorem scrH_ne {b : Addr} (n : b ≠ a) : scrH a u b = none := if_neg n
theorem scrH_inv {b : Addr} {v : HO} (e : scrH a u b = some v) : b = a ∧ v = u := by
  by_cases q : b = a
  · subst q
    rw [scrH_self] at e
    exact ⟨rfl, (Option.some.inj e).symm⟩
  · rw [scrH_ne q] at e
    cases e
theorem scr_keep {b : Addr} {o : Obj} (e : h.get? b = some o) (n : b ≠ a) : (hidT h (scrH a u)).get? b = some o := hidT_get e (scrH_ne n)
theorem scr_ns {ol : Obj} {xs : Array Value} (ha : h.get? a = some ol) (hd : ol.data = .seq xs) {b : Addr} {m : Str → Option Value} (q : h.Ns b m) : (hidT h (scrH a u)).Ns b m := by
  obtain ⟨o, es, ep, e, dd, r⟩ := q
  refine ⟨o, es, ep, scr_keep e fun z => ?_, dd, r⟩
  subst z
  rw [ha] at e
  obtain rfl := Option.some.inj e
  rw [hd] at dd
  cases dd
end
theorem walkG {l : PySem.W.OpenLaw} {n k : Nat} {q : Program} {loose : List Str} {XP : (Str → Option Value) → Heap → Prop} {YP : World → Heap → Prop} {d : DefRec} {x : Str} (hn : l.most = some n) (hz : n ≤ sizeLine) (hdf : d.params.defaults = []) (hr : Room k callerA)
    (body : ∀ (w : World) (mg : Str → Option Value) (fa : Addr) (h : Heap), YP w h → h.Ns mainGlobals mg → mg d.name = some (.ref fa) → ∃ (K : PySem.W.Frag) (fd : FuncData) (R : DF), K.In h ∧ noLst K = true ∧ (∀ (s : Shared) (v : Value), BindsTo s fd ⟨[v], []⟩ [(x, v)]) ∧
      (∀ (H : Hp) (a : Addr) (ns : List Int), ns.length ≤ n → Rd H a (.lst (ns.map V.int)) → Pr K (NoX R) [.ref a] H (fun v _ => v = .bl true) E0) ∧ ∀ base : Heap, K.In base → base.Ns mainGlobals mg → FnG l.prog w K mg base k fa fd [x] R) :
    PySem.W.WalkO q loose XP YP l.row.toRowW d [] (fun f vs => PySem.call f vs) := by
  refine Att.attach_call hn hdf fun w s₀ s mg mb fa o pm cd doc a vs ns G Y _ _ _ hmg ha hi hl hgen => ?_
  obtain ⟨K, fd, R, KX, nl, hbi, law, F⟩ := body w mg fa s.heap Y G.T.g hmg
  have rv := vals_ints hi
  have hn0 : K.lookup a = none := by
    cases e : K.lookup a with
    | none => rfl
    | some o =>
      have e2 := KX a o e
      rw [ha] at e2
      obtain rfl := Option.some.inj e2
      have z := List.all_eq_true.mp nl _ (lookup_mem e)
      exact absurd (show (("list" : String) != "list") = true from z) (by decide)
  generalize hob : ({ cls := .type "list", data := .seq vs.toArray } : Obj) = ob at ha
  have hdat : ob.data = .seq vs.toArray := by rw [← hob]
  let H := scrH a (.frz ob (.lst (ns.map V.int)))
  have hok : HOk l.prog w H s.heap := fun b v e => by
    obtain ⟨rfl, rfl⟩ := scrH_inv e
    exact ⟨ha, by rw [List.length_map]; omega, vs, _, rv, by rw [ha, ← hob]⟩
  have Kb : K.In (hidT s.heap H) := fun b o e => scr_keep (KX b o e) fun z => by
    subst z
    rw [hn0] at e
    cases e
  have ns' : ∀ {b : Addr} {m : Str → Option Value}, s.heap.Ns b m → (hidT s.heap H).Ns b m := fun z => scr_ns ha hdat z
  obtain ⟨mc, c1, c2⟩ := G.T.nolimit
  have e0 : Env0 l.prog w K mg (hidT s.heap H) callerA [] s H := ⟨rfl, ⟨Kb, ns' G.T.g, ⟨mb, ns' G.T.b, G.T.builtins⟩, ⟨mc, ns' c1, c2⟩⟩, fun b o e => of_hidT e, Nat.le_of_eq (hidT_size _ _), trivial, fun b hb => absurd hb (by exact List.not_mem_nil), hok, .of_eq hgen⟩
  refine codeAny_mono ((F _ Kb (ns' G.T.g)).run callerA [] s H ⟨[.ref a], []⟩ [.ref a] [.ref a] _ rfl hr e0 (hbi s (.ref a)) (.cons rfl .nil) (law H a ns hl (.inr ⟨ob, scrH_self⟩))) fun r s' z => ?_
  rcases r with e | fl
  · exact z.elim
  rcases fl with _ | _ | _ | r
  · exact z.elim
  · exact z.elim
  · exact z.elim
  obtain ⟨v, H', os, bare, un, hok', rr, qv⟩ := z
  replace qv : v = .bl true := qv
  subst qv
  obtain rfl : r = Value.bool true := rr
  refine ⟨rfl, OldK.of_keep fun b o e => ?_, os, bare⟩
  by_cases hb : b = a
  · subst hb
    have f1 := (hok' b _ (un.frzs b ob _ scrH_self)).1
    rw [ha] at e
    rw [← Option.some.inj e]
    exact f1
  · exact un.keep b o e (scrH_ne hb) (fun z => absurd z (by exact List.not_mem_nil)) (by exact List.not_mem_nil)
end DL

set_option Elab.async false
set_option linter.all false
set_option maxRecDepth 100000
set_option maxHeartbeats 2000000
namespace K86
open PySem PySem.Spec PyProof PyProof.Rows L2 TL DL
local macro_rules | `(tactic| walk_at "ev") => `(tactic| repeat' (with_reducible first
  | apply ev_c | (apply ev_var; with_unfolding_all exact rfl) | exact v_isStr | apply ev_op | apply ev_test | apply ev_and | apply ev_or | apply ev_not | apply ev_andV | apply ev_orV | apply ev_notV
  | apply ev_ifS | apply ev_ifI | apply ev_chain | apply ev_nil | apply ev_cons | apply ev_tup | apply ev_lst | apply ev_cb | apply ev_m0 | apply ev_m1 | apply ev_m2 | apply ev_sl | apply ev_noPart | apply ev_part | apply ev_revT | apply ev_yes
  | apply v_I0 | apply v_I | apply v_addS | apply v_eqS | apply v_eqI | apply v_eqB | apply v_neS | apply v_neI | apply v_inS | apply v_notInS | apply v_isN0 | apply v_isNS | apply v_isNT | apply v_notN0 | apply v_notNS | apply v_notNT
  | apply v_lenS | apply v_lenL | apply v_lenT | apply v_all | apply v_any | apply v_int1 | apply v_intb | apply v_max2 | apply v_min2 | apply v_join | apply v_split | apply v_part | apply v_lower | apply v_starts | apply v_find | apply v_slS | apply v_slT
  | apply ei_list | apply ei_tup | apply ei_str | apply ei_range1 | apply ei_enumS | apply eg_name | apply eg_nil | apply eg_cons | apply eg_tup
  | (intro _)))
structure Txt (K : PySem.W.Frag) (mg : Str → Option Value) (aN aE aR : Addr) : Prop where
  n_len : mg "len" = none
  n_isinstance : mg "isinstance" = none
  n_all : mg "all" = none
  n_str : mg "str" = none
  n_dict : mg "dict" = none
  n_tuple : mg "tuple" = none
  n_list : mg "list" = none
  n_int : mg "int" = none
  n_max : mg "max" = none
  n_min : mg "min" = none
  n_sorted : mg "sorted" = none
  n_enumerate : mg "enumerate" = none
  n_range : mg "range" = none
  n_repr : mg "repr" = none
  g_MAX_WORD : ∃ t, mg "MAX_WORD" = some (.int 12 t)
  g_MAX_TEXT : ∃ t, mg "MAX_TEXT" = some (.int 60 t)
  g_MAX_PAIRS : ∃ t, mg "MAX_PAIRS" = some (.int 4 t)
  g_MAX_LEAVES : ∃ t, mg "MAX_LEAVES" = some (.int 12 t)
  g_MAX_VALUE : ∃ t, mg "MAX_VALUE" = some (.int 60 t)
  g_MAX_DIGITS : ∃ t, mg "MAX_DIGITS" = some (.int 30 t)
  g_LETTERS : ∃ t, mg "LETTERS" = some (.str ⟨#[97, 98, 99, 100, 101, 102, 103, 104, 105, 106, 107, 108, 109, 110, 111, 112, 113, 114, 115, 116, 117, 118, 119, 120, 121, 122]⟩ t)
  g_BACKSLASH : ∃ t, mg "BACKSLASH" = some (.str ⟨#[92]⟩ t)
  g_ESCAPED : ∃ t, mg "ESCAPED" = some (.str ⟨#[44, 43, 61, 92]⟩ t)
  g_NEWLINE : ∃ t, mg "NEWLINE" = some (.str ⟨#[10]⟩ t)
  g_COLON : ∃ t, mg "COLON" = some (.str ⟨#[58, 32]⟩ t)
  g_DIGITS : ∃ t, mg "DIGITS" = some (.str ⟨#[48, 49, 50, 51, 52, 53, 54, 55, 56, 57]⟩ t)
  g_ADD : ∃ t, mg "ADD" = some (.str ⟨#[97, 100, 100, 58, 32]⟩ t)
  g_DELETE : ∃ t, mg "DELETE" = some (.str ⟨#[100, 101, 108, 101, 116, 101, 58, 32]⟩ t)
  g_MODIFY : ∃ t, mg "MODIFY" = some (.str ⟨#[109, 111, 100, 105, 102, 121, 58, 32]⟩ t)
  g_RENAME : ∃ t, mg "RENAME" = some (.str ⟨#[114, 101, 110, 97, 109, 101, 58, 32]⟩ t)
  g_LEAF : ∃ t, mg "LEAF" = some (.str ⟨#[108, 101, 97, 102, 58, 32]⟩ t)
  g_UNDER : ∃ t, mg "UNDER" = some (.str ⟨#[117, 110, 100, 101, 114, 58, 32]⟩ t)
  g_KEEP : ∃ t, mg "KEEP" = some (.str ⟨#[107, 101, 101, 112, 58, 32, 84, 82, 85, 69]⟩ t)
  g_VALUE : ∃ t, mg "VALUE" = some (.str ⟨#[61, 32]⟩ t)
  g_INCREMENT : ∃ t, mg "INCREMENT" = some (.str ⟨#[105, 110, 99, 114, 101, 109, 101, 110, 116]⟩ t)
  g_CHANGES : ∃ a, mg "CHANGES" = some (.ref a) ∧ ∀ H, SqT K H a ([[97, 100, 100], [100, 101, 108, 101, 116, 101], [114, 101, 112, 108, 97, 99, 101]].map fun s => V.str (mkS s))
  a_Name : mg "Name" = some (.ref aN)
  a_Entry : mg "Entry" = some (.ref aE)
  c_Name : Cls K aN
  c_Entry : Cls K aE
  c_Reading : Cls K aR
  ks_Name : PySem.W.kitOne K (.type "str") (.ref aN) = some false
  s_Name : InsK K aN
  s_Entry : InsK K aE
  na_Name_own_text : NoAttr K aN "own_text"
  na_Name_own_leaves : NoAttr K aN "own_leaves"
  na_Name_own_order : NoAttr K aN "own_order"
  na_Entry_own_name : NoAttr K aE "own_name"
  na_Entry_own_table : NoAttr K aE "own_table"
  na_Entry_own_key : NoAttr K aE "own_key"
  na_Reading_own_lines : NoAttr K aR "own_lines"
  na_Reading_own_at : NoAttr K aR "own_at"
section
variable {P : Program} {w : World} {K : PySem.W.Frag} {mg : Str → Option Value} {base : Heap} {aN aE aR : Addr}

/-! ### is_word -/
def LETTERS : List Nat := [97, 98, 99, 100, 101, 102, 103, 104, 105, 106, 107, 108, 109, 110, 111, 112, 113, 114, 115, 116, 117, 118, 119, 120, 121, 122]
def isWordL (s : List Nat) : Bool := 1 ≤ s.length && s.length ≤ 12 && s ≠ [115, 101, 108, 102] && s.all (· ∈ LETTERS)
abbrev str1 (s : List Nat) : List D := [.str s]
abbrev R_is_word : DF := DL.Fn str1 (fun s => s.length ≤ 1000000) fun s => .bl (isWordL s)
theorem sc_is_word : FnScope ["value", "sign"] ["value"] (defScope (top 14)) := ⟨rfl, rfl, rfl, by decide +kernel, rfl, by decide +kernel, by decide +kernel⟩
theorem ok_is_word {f : Addr} {fd : FuncData} (F : Fun K "is_word" "is_word" (top 14) f fd) (T : Txt K mg aN aE aR) : FnOk P w K mg base CX0 1 f fd ["value"] (Pr K (NoX R_is_word)) := by
  have sc := sc_is_word
  refine okD F sc (fun ds os PP ⟨s, e, _⟩ => by rw [e]; rfl) ?_
  apply Exists.intro
  apply And.intro
  · intro cdv A outer s H hr
    have hu := hr.units
    have hu0 : (A.deeper (envOfC "is_word" (defScope (top 14)) s.heap.objs.size f cdv)).units + 1 < cLine := by omega
    exact (pb_cons (sx_if (PXW.pt (ptw_or (DL.pt_no (pt_v (px_cb call_isi (l_isB (K := K) (T := "str")) T.n_isinstance boot_isinstance (pxa_cons (px_var 0) (pxa_cons (px_ty (T := "str") T.n_str (by decide +kernel)) pxa_nil))))) (ptw_or (DL.pt_no (DL.pt_chain op_le op_le l_le l_le px_int (px_cb call_len l_len T.n_len PySem.boot_len (pxa_cons (px_var 0) pxa_nil)) (px_gintE T.g_MAX_WORD))) (ptw_or1 (DL.pt_cmp op_eq l_eq (px_var 0) (px_str [115, 101, 108, 102])))))) (pb_one (sx_ret px_bl)) pb_nil)
      (pb_one (sx_ret (px_cb (cr_all rfl) l_all T.n_all (by decide +kernel) (pxa_cons (px_lc (own := [("sign", 1)]) (own1 1) rfl sc.nd (DL.ix_str (px_var 0)) (blkOk_by (N := ["value", "sign"]) (sc := defScope (top 14)) (by decide +kernel)) (fun _ _ _ _ _ => pg_name (i := 1) sc.nd rfl (Or.inl rfl)) (fun _ _ _ _ _ => pxts_nil) (fun _ _ _ _ _ => (DL.px_cmp op_in_sign l_inS (px_var 1) (px_gstrE T.g_LETTERS)))) pxa_nil)))))
  · rintro ds os PP ⟨s, rfl, hl, k⟩ hx
    apply q_if
    walk_at "ev"
    · omega
    · apply s_ret; walk_at "ev"
      refine ⟨os, List.Sublist.refl _, ?_⟩
      rename_i e
      have : isWordL s = false := by
        unfold isWordL
        simp only [Bool.not_true, Bool.false_or, Bool.or_eq_true, Bool.not_eq_true', decide_eq_true_eq] at e
        rcases e with e | e
        · rw [Bool.and_eq_false_iff] at e
          rcases e with e | e
          · have : ¬ 1 ≤ s.length := by have := of_decide_eq_false e; omega
            simp [this]
          · have : ¬ s.length ≤ 12 := by have := of_decide_eq_false e; omega
            simp [this]
        · simp [e]
      simp only [this] at k
      exact k
    · apply s_next
      dsimp only
      rename_i e
      apply s_ret
      · apply ev_cb
        · apply ev_cons
          · refine ev_lc' (g := fun c => .bl (decide (c ∈ LETTERS))) (ei_str (s := s) ev_var) rfl (by omega) fun c _ => ?_
            exact ⟨_, eg_name, rfl, rfl, ev_op ev_var ev_c v_inS⟩
          · exact ev_nil
        · have : (s.map fun c => D.bl (decide (c ∈ LETTERS))) = bls (s.map fun c => decide (c ∈ LETTERS)) := by simp [bls]
          rw [this]
          exact v_all
      · refine ⟨os, List.Sublist.refl _, ?_⟩
        have h2 : isWordL s = (s.map fun c => decide (c ∈ LETTERS)).all id := by
          simp only [Bool.not_true, Bool.false_or, Bool.or_eq_false_iff, Bool.not_eq_false', Bool.and_eq_true, decide_eq_true_eq, decide_eq_false_iff_not] at e
          obtain ⟨⟨e1, e2⟩, e3⟩ := e
          have h1 : 1 ≤ s.length := by omega
          have h2 : s.length ≤ 12 := by omega
          unfold isWordL
          simp [h1, h2, e3, List.all_map, Function.comp_def]
        rw [← h2]
        exact k

/-! ### is_value -/
def isValueL (s : List Nat) : Bool := s ≠ [] && !decide (10 ∈ s)
abbrev R_is_value : DF := DL.Fn str1 (fun _ => True) fun s => .bl (isValueL s)
theorem sc_is_value : FnScope ["value"] ["value"] (defScope (top 15)) := ⟨rfl, rfl, rfl, by decide +kernel, rfl, by decide +kernel, by decide +kernel⟩
theorem ok_is_value {f : Addr} {fd : FuncData} (F : Fun K "is_value" "is_value" (top 15) f fd) (T : Txt K mg aN aE aR) : FnOk P w K mg base CX0 1 f fd ["value"] (Pr K (NoX R_is_value)) := by
  have sc := sc_is_value
  refine okD F sc (fun ds os PP ⟨s, e, _⟩ => by rw [e]; rfl) ?_
  apply Exists.intro
  apply And.intro
  · intro cdv A outer s H hr
    have hu := hr.units
    have hu0 : (A.deeper (envOfC "is_value" (defScope (top 15)) s.heap.objs.size f cdv)).units + 1 < cLine := by omega
    exact (pb_one (sx_ret (px_and (px_cb call_isi (l_isB (K := K) (T := "str")) T.n_isinstance boot_isinstance (pxa_cons (px_var 0) (pxa_cons (px_ty (T := "str") T.n_str (by decide +kernel)) pxa_nil))) (px_and (DL.px_cmp op_ne l_ne (px_var 0) (px_str [])) (px_one (DL.px_cmp op_notIn_sign l_notInS (px_str [10]) (px_var 0)))))))
  · rintro ds os PP ⟨s, rfl, _, k⟩ hx
    apply s_ret
    · walk_at "ev"
    · refine ⟨os, List.Sublist.refl _, ?_⟩
      have h : (true && (!decide (s = []) && !decide (10 ∈ s))) = isValueL s := by unfold isValueL; simp
      rw [h]
      exact k
end
end K86

set_option Elab.async false
set_option linter.all false
set_option maxRecDepth 100000
set_option maxHeartbeats 2000000
namespace K86
open PySem PySem.Spec PyProof PyProof.Rows L2 TL DL
local macro_rules | `(tactic| walk_at "ev") => `(tactic| repeat' (with_reducible first
  | apply ev_c | (apply ev_var; with_unfolding_all exact rfl) | exact v_isStr | apply ev_op | apply ev_test | apply ev_and | apply ev_or | apply ev_not | apply ev_andV | apply ev_orV | apply ev_notV
  | apply ev_ifS | apply ev_ifI | apply ev_chain | apply ev_nil | apply ev_cons | apply ev_tup | apply ev_lst | apply ev_cb | apply ev_m0 | apply ev_m1 | apply ev_m2 | apply ev_sl | apply ev_noPart | apply ev_part | apply ev_revT | apply ev_yes
  | apply v_I0 | apply v_I | apply v_addS | apply v_eqS | apply v_eqI | apply v_eqB | apply v_neS | apply v_neI | apply v_inS | apply v_notInS | apply v_isN0 | apply v_isNS | apply v_isNT | apply v_notN0 | apply v_notNS | apply v_notNT
  | apply v_lenS | apply v_lenL | apply v_lenT | apply v_all | apply v_any | apply v_int1 | apply v_intb | apply v_max2 | apply v_min2 | apply v_join | apply v_split | apply v_part | apply v_lower | apply v_starts | apply v_find | apply v_slS | apply v_slT
  | apply ei_list | apply ei_tup | apply ei_str | apply ei_range1 | apply ei_enumS | apply eg_name | apply eg_nil | apply eg_cons | apply eg_tup
  | (intro _)))

theorem spl_size (S : List Nat) : ∀ (s : List Nat) (k : Nat) (acc : List Nat), ((spl S k acc s).map List.length).sum ≤ acc.length + s.length ∧ (spl S k acc s).length ≤ s.length + 1
  | [], k, acc => by cases k <;> simp [spl]
  | c :: r, 0, acc => by
    unfold spl
    split
    · obtain ⟨h1, h2⟩ := spl_size S r (S.length - 1) []
      simp only [List.map_cons, List.sum_cons, List.length_cons, List.length_nil] at *
      omega
    · obtain ⟨h1, h2⟩ := spl_size S r 0 (acc ++ [c])
      simp only [List.length_append, List.length_cons, List.length_nil] at *
      omega
  | c :: r, k + 1, acc => by
    unfold spl
    obtain ⟨h1, h2⟩ := spl_size S r k acc
    simp only [List.length_cons] at *
    omega
theorem sum_filter (f : List Nat → Bool) : ∀ l : List (List Nat), ((l.filter f).map List.length).sum ≤ (l.map List.length).sum
  | [] => by simp
  | x :: l => by
    have := sum_filter f l
    rw [List.filter_cons]
    split
    · simp only [List.map_cons, List.sum_cons]; omega
    · simp only [List.map_cons, List.sum_cons]; omega
theorem lower_len (s : List Nat) : (lowerL s).length ≤ 3 * s.length := by
  have h := PyProof.Rows.len_lower (mkS s)
  rw [mkS_len] at h
  unfold lowerL
  rw [← len_tl]
  exact h
theorem joinL_len (sep : List Nat) : ∀ l : List (List Nat), (joinL sep l).length ≤ (l.map List.length).sum + l.length * sep.length
  | [] => by simp [joinL]
  | [x] => by simp [joinL]
  | x :: y :: l => by
    have h := joinL_len sep (y :: l)
    simp only [joinL, List.length_append, List.map_cons, List.sum_cons, List.length_cons] at *
    have : (l.length + 1 + 1) * sep.length = (l.length + 1) * sep.length + sep.length := by rw [Nat.add_mul (l.length + 1), Nat.one_mul]
    omega
def plainText (s : List Nat) : List Nat := joinL [32] ((spl [32] 0 [] (lowerL s)).filter fun p => !decide (p = []))
def isPlainL (s : List Nat) : Bool := isValueL s && (s.length ≤ 60 && plainText s ≠ [])
theorem plain_sum (s : List Nat) : (((spl [32] 0 [] (lowerL s)).filter fun p => !decide (p = [])).map List.length).sum + ((spl [32] 0 [] (lowerL s)).filter fun p => !decide (p = [])).length * 1 ≤ 6 * s.length + 1 := by
  have h1 := spl_size [32] (lowerL s) 0 []
  have h2 := sum_filter (fun p => !decide (p = [])) (spl [32] 0 [] (lowerL s))
  have h3 := List.length_filter_le (fun p : List Nat => !decide (p = [])) (spl [32] 0 [] (lowerL s))
  have h4 := lower_len s
  simp only [List.length_nil] at h1
  omega
theorem plainText_len (s : List Nat) : (plainText s).length ≤ 6 * s.length + 1 := by
  have h1 := plain_sum s
  have h2 := joinL_len [32] ((spl [32] 0 [] (lowerL s)).filter fun p => !decide (p = []))
  unfold plainText
  simp only [List.length_cons, List.length_nil] at h2
  omega
abbrev R_plain_text : DF := DL.Fn str1 (fun s => s.length ≤ 1000000) fun s => .str (plainText s)
abbrev R_is_plain : DF := DL.Fn str1 (fun s => s.length ≤ 1000000) fun s => .bl (isPlainL s)
section
variable {P : Program} {w : World} {K : PySem.W.Frag} {mg : Str → Option Value} {base : Heap} {aN aE aR : Addr}
theorem sc_plain_text : FnScope ["value", "part"] ["value"] (defScope (top 16)) := ⟨rfl, rfl, rfl, by decide +kernel, rfl, by decide +kernel, by decide +kernel⟩
theorem ok_plain_text {f : Addr} {fd : FuncData} (F : Fun K "plain_text" "plain_text" (top 16) f fd) (T : Txt K mg aN aE aR) : FnOk P w K mg base CX0 1 f fd ["value"] (Pr K (NoX R_plain_text)) := by
  have sc := sc_plain_text
  refine okD F sc (fun ds os PP ⟨s, e, _⟩ => by rw [e]; rfl) ?_
  apply Exists.intro
  apply And.intro
  · intro cdv A outer s H hr
    have hu := hr.units
    have hu0 : (A.deeper (envOfC "plain_text" (defScope (top 16)) s.heap.objs.size f cdv)).units + 1 < cLine := by omega
    exact (pb_one (sx_ret (px_m1 PySem.F.slot_str_join PySem.F.type_str_join mt_join l_join (px_str [32]) (px_lc (own := [("part", 1)]) (own1 1) rfl sc.nd (DL.ix_list (px_m1 PySem.F.slot_str_split PySem.F.type_str_split mt_split l_split (px_m0 PySem.F.slot_str_lower PySem.F.type_str_lower mt_lower l_lower (px_var 0)) (px_str [32]))) (blkOk_by (N := ["value", "part"]) (sc := defScope (top 16)) (by decide +kernel)) (fun _ _ _ _ _ => pg_name (i := 1) sc.nd rfl (Or.inl rfl)) (fun _ _ _ _ _ => pxts_one (DL.pt_cmp op_ne l_ne (px_var 1) (px_str []))) (fun _ _ _ _ _ => (px_var 1))))))
  · rintro ds os PP ⟨s, rfl, hl, k⟩ hx
    have h4 := lower_len s
    have h1 := spl_size [32] (lowerL s) 0 []
    have h2 := plain_sum s
    simp only [List.length_nil] at h1
    apply s_ret
    · apply ev_m1
      · exact ev_c
      · refine ev_lc (f := fun p => !decide (p = [])) (g := D.str) (l := spl [32] 0 [] (lowerL s)) (ds := strsD (spl [32] 0 [] (lowerL s))) (ei_list (ev_m1 (ev_m0 ev_var (v_lower ?_)) ev_c (v_split (by decide) (by decide) ?_))) rfl ?_ fun p _ => ?_
        · omega
        · omega
        · omega
        · exact ⟨_, eg_name, rfl, rfl, ev_test (ev_op ev_var ev_c v_neS), fun _ => ev_var⟩
      · exact v_join (l := (spl [32] 0 [] (lowerL s)).filter fun p => !decide (p = [])) (by simp only [List.length_cons, List.length_nil]; omega)
    · exact ⟨os, List.Sublist.refl _, k⟩
theorem sc_is_plain : FnScope ["value"] ["value"] (defScope (top 17)) := ⟨rfl, rfl, rfl, by decide +kernel, rfl, by decide +kernel, by decide +kernel⟩
theorem ok_is_plain {f : Addr} {fd : FuncData} (F : Fun K "is_plain" "is_plain" (top 17) f fd) (T : Txt K mg aN aE aR) (k_is_value : Kn0 P w K mg base "is_value" 1 ["value"] R_is_value) (k_plain_text : Kn0 P w K mg base "plain_text" 1 ["value"] R_plain_text) : FnOk P w K mg base CX0 2 f fd ["value"] (Pr K (NoX R_is_plain)) := by
  have sc := sc_is_plain
  refine okD F sc (fun ds os PP ⟨s, e, _⟩ => by rw [e]; rfl) ?_
  apply Exists.intro
  apply And.intro
  · intro cdv A outer s H hr
    have hu := hr.units
    have hu0 : (A.deeper (envOfC "is_plain" (defScope (top 17)) s.heap.objs.size f cdv)).units + 1 < cLine := by omega
    exact (pb_one (sx_ret (px_and (px_call0 k_is_value (hr.mono (by decide)) (pxa_cons (px_var 0) pxa_nil)) (px_and (DL.px_cmp op_le l_le (px_cb call_len l_len T.n_len PySem.boot_len (pxa_cons (px_var 0) pxa_nil)) (px_gintE T.g_MAX_TEXT)) (px_one (DL.px_cmp op_ne l_ne (px_call0 k_plain_text (hr.mono (by decide)) (pxa_cons (px_var 0) pxa_nil)) (px_str [])))))))
  · rintro ds os PP ⟨s, rfl, hl, k⟩ hx
    apply s_ret
    · refine ev_andV (b1 := isValueL s) (ev_fn s (ev_cons ev_var ev_nil) trivial) fun _ => ev_andV (b1 := decide ((s.length : Int) ≤ 60)) (ev_op (ev_cb (ev_cons ev_var ev_nil) (v_lenS (by omega))) ev_c v_I0) fun _ => ev_op (ev_fn s (ev_cons ev_var ev_nil) hl) ev_c v_neS
    · refine ⟨os, List.Sublist.refl _, ?_⟩
      have h : (isValueL s && (decide ((s.length : Int) ≤ 60) && !decide (plainText s = []))) = isPlainL s := by
        unfold isPlainL
        have : decide ((s.length : Int) ≤ 60) = decide (s.length ≤ 60) := by
          by_cases z : s.length ≤ 60
          · have : (s.length : Int) ≤ 60 := by omega
            simp [z, this]
          · have : ¬ (s.length : Int) ≤ 60 := by omega
            simp [z, this]
        rw [this]
        simp
      rw [h]
      exact k

/-! ### escaped -/
def ESC : List Nat := [44, 43, 61, 92]
def escAt (n i c : Nat) : List Nat := (if (decide (c ∈ ESC) || (decide (c = 32) && (decide (i = 0) || decide (i + 1 = n)))) = true then [92] else []) ++ [c]
def esc (s : List Nat) : List Nat := (s.mapIdx fun i c => escAt s.length i c).flatten
theorem esc_len_take (n : Nat) (s : List Nat) : ∀ (l : List (List Nat)), (∀ x ∈ l, x.length ≤ 2) → l.flatten.length ≤ 2 * l.length
  | [], _ => by simp
  | x :: l, h => by
    have h1 := esc_len_take n s l fun y hy => h y (by simp [hy])
    have h2 := h x (by simp)
    simp only [List.flatten_cons, List.length_append, List.length_cons]
    omega
theorem escAt_len (n i c : Nat) : (escAt n i c).length ≤ 2 := by
  unfold escAt
  split <;> simp
theorem esc_len (s : List Nat) : (esc s).length ≤ 2 * s.length := by
  have h := esc_len_take 0 [] (s.mapIdx fun i c => escAt s.length i c) fun x hx => by
    obtain ⟨i, c, hi, rfl⟩ := List.mem_mapIdx.mp hx
    exact escAt_len _ _ _
  rw [List.length_mapIdx] at h
  exact h
abbrev R_escaped : DF := DL.Fn str1 (fun s => s.length ≤ 1000000) fun s => .str (esc s)
theorem sc_escaped : FnScope ["value", "found", "at", "sign", "is_end"] ["value"] (defScope (top 18)) := ⟨rfl, rfl, rfl, by decide +kernel, rfl, by decide +kernel, by decide +kernel⟩
theorem ok_escaped {f : Addr} {fd : FuncData} (F : Fun K "escaped" "escaped" (top 18) f fd) (T : Txt K mg aN aE aR) : FnOk P w K mg base CX0 1 f fd ["value"] (Pr K (NoX R_escaped)) := by
  have sc := sc_escaped
  refine okD F sc (fun ds os PP ⟨s, e, _⟩ => by rw [e]; rfl) ?_
  apply Exists.intro
  apply And.intro
  · intro cdv A outer s H hr
    have hu := hr.units
    have hu0 : (A.deeper (envOfC "escaped" (defScope (top 18)) s.heap.objs.size f cdv)).units + 1 < cLine := by omega
    exact (pb_cons (sx_set 1 sc.nd (px_str []))
      (pb_cons (sx_for PassesOwn.never rfl (DL.ix_enumS T.n_enumerate (pxa_cons (px_var 0) pxa_nil)) (gx_tup (n := 2) rfl (gxs_cons (gx_name 2 sc.nd) (gxs_cons (gx_name 3 sc.nd) gxs_nil))) (pb_cons (sx_set 4 sc.nd (px_or (DL.px_cmp op_eq l_eq (px_var 2) px_int) (px_one (DL.px_cmp op_eq l_eq (px_var 2) (px_op op_sub l_sub (px_cb call_len l_len T.n_len PySem.boot_len (pxa_cons (px_var 0) pxa_nil)) px_int)))))
      (pb_one (sx_set 1 sc.nd (px_op op_add_str l_addS (px_op op_add_str l_addS (px_var 1) (px_if (PXW.pt (ptw_or (DL.pt_cmp op_in_sign l_inS (px_var 3) (px_gstrE T.g_ESCAPED)) (ptw_or1 (PXW.pt (ptw_and (DL.pt_cmp op_eq l_eq (px_var 3) (px_str [32])) (ptw_and1 (pt_v (px_var 4)))))))) (px_gstrE T.g_BACKSLASH) (px_str []))) (px_var 3))))))
      (pb_one (sx_ret (px_var 1)))))
  · rintro ds os PP ⟨s, rfl, hl, k⟩ hx
    have hlen : ∀ i, ((s.mapIdx fun i c => escAt s.length i c).take i).flatten.length ≤ 2 * s.length := fun i => by
      have h := esc_len_take 0 [] ((s.mapIdx fun i c => escAt s.length i c).take i) fun x hx => by
        obtain ⟨i, c, hi, rfl⟩ := List.mem_mapIdx.mp (List.mem_of_mem_take hx)
        exact escAt_len _ _ _
      rw [List.length_take, List.length_mapIdx] at h
      omega
    refine q_set ev_c eg_name ?_
    apply q_seq
    refine s_for (ei_enumS (ev_cons ev_var ev_nil)) (fun i ρ => ∃ a b c, ρ = ⟨[some (.str s), some (.str ((s.mapIdx fun i c => escAt s.length i c).take i).flatten), a, b, c], os, fun _ => False⟩) ⟨none, none, none, rfl⟩ ?_ ?_
    · rintro i d ρ hd ⟨a, b, c, rfl⟩
      unfold enumD at hd
      rw [List.getElem?_mapIdx] at hd
      cases hc : s[i]? with
      | none => rw [hc] at hd; cases hd
      | some ch =>
        rw [hc] at hd
        cases hd
        have hi : i < s.length := (List.getElem?_eq_some_iff.mp hc).1
        refine eg_tup (eg_cons eg_name (eg_cons eg_name eg_nil)) rfl _ ?_
        refine q_set (d := .bl (decide (i = 0) || decide (i + 1 = s.length))) ?_ eg_name ?_
        · refine ev_orV (b1 := decide (i = 0)) ?_ fun _ => ?_
          · have e : decide ((i : Int) = 0) = decide (i = 0) := by
              by_cases z : i = 0
              · subst z; simp
              · have : ¬ (i : Int) = 0 := by omega
                simp [z, this]
            rw [← e]
            exact ev_op ev_var ev_c v_eqI
          · have e : decide ((i : Int) = (s.length : Int) - 1) = decide (i + 1 = s.length) := by
              by_cases z : i + 1 = s.length
              · have : (i : Int) = (s.length : Int) - 1 := by omega
                simp [z, this]
              · have : ¬ (i : Int) = (s.length : Int) - 1 := by omega
                simp [z, this]
            rw [← e]
            exact ev_op ev_var (ev_op (ev_cb (ev_cons ev_var ev_nil) (v_lenS (by omega))) ev_c v_I0) v_eqI
        · have hl2 := hlen i
          have tks : (s.mapIdx fun i c => escAt s.length i c).take (i + 1) = (s.mapIdx fun i c => escAt s.length i c).take i ++ [escAt s.length i ch] := by
            rw [List.take_add_one, List.getElem?_mapIdx, hc]
            rfl
          refine s_set (d := .str ((((s.mapIdx fun i c => escAt s.length i c).take i).flatten ++ (if (decide (ch ∈ ESC) || (decide ([ch] = [32]) && (decide (i = 0) || decide (i + 1 = s.length)))) = true then [92] else [])) ++ [ch])) ?_ eg_name ?_
          · refine ev_op (ev_op ev_var (ev_ifS (ev_or (ev_test (ev_op ev_var ev_c v_inS)) fun _ => ev_and (ev_test (ev_op ev_var ev_c v_eqS)) fun _ => ev_test ev_var) (fun _ => ev_c) fun _ => ev_c) (v_addS ?_)) ev_var (v_addS ?_)
            · have h92 : (tl { cps := #[92] }).length = 1 := rfl
              split <;> (try simp only [List.length_nil]) <;> omega
            · have h92 : (tl { cps := #[92] }).length = 1 := rfl
              rw [List.length_append]
              have hc1 : [ch].length = 1 := rfl
              split <;> (try simp only [List.length_nil]) <;> omega
          · refine ⟨some (.int i), some (.str [ch]), some (.bl (decide (i = 0) || decide (i + 1 = s.length))), ?_⟩
            rw [tks, List.flatten_append]
            have : decide ([ch] = [32]) = decide (ch = 32) := by simp
            rw [this]
            unfold escAt
            simp only [List.flatten_cons, List.flatten_nil, List.append_nil, List.append_assoc]
            rfl
    · rintro ρ ⟨a, b, c, rfl⟩
      dsimp only
      have hn : (enumD s).length = s.length := by simp [enumD]
      refine s_ret (ev_var) ⟨os, List.Sublist.refl _, ?_⟩
      rw [hn, List.take_of_length_le (by simp)]
      exact k
end
end K86

set_option Elab.async false
set_option linter.all false
set_option maxRecDepth 100000
set_option maxHeartbeats 2000000
namespace K86
open PySem PySem.Spec PyProof PyProof.Rows L2 TL DL
local macro_rules | `(tactic| walk_at "ev") => `(tactic| repeat' (with_reducible first
  | apply ev_c | (apply ev_var; with_unfolding_all exact rfl) | exact v_isStr | apply ev_op | apply ev_test | apply ev_and | apply ev_or | apply ev_not | apply ev_andV | apply ev_orV | apply ev_notV
  | apply ev_ifS | apply ev_ifI | apply ev_chain | apply ev_nil | apply ev_cons | apply ev_tup | apply ev_lst | apply ev_cb | apply ev_m0 | apply ev_m1 | apply ev_m2 | apply ev_sl | apply ev_noPart | apply ev_part | apply ev_revT | apply ev_yes
  | apply v_I0 | apply v_I | apply v_addS | apply v_eqS | apply v_eqI | apply v_eqB | apply v_neS | apply v_neI | apply v_inS | apply v_notInS | apply v_isN0 | apply v_isNS | apply v_isNT | apply v_notN0 | apply v_notNS | apply v_notNT
  | apply v_lenS | apply v_lenL | apply v_lenT | apply v_all | apply v_any | apply v_int1 | apply v_intb | apply v_max2 | apply v_min2 | apply v_join | apply v_split | apply v_part | apply v_lower | apply v_starts | apply v_find | apply v_slS | apply v_slT
  | apply ei_list | apply ei_tup | apply ei_str | apply ei_range1 | apply ei_enumS | apply eg_name | apply eg_nil | apply eg_cons | apply eg_tup
  | (intro _)))

/-! ### value_at, where an escaped value stands -/
def stopOk (post : List Nat) : Prop := post = [] ∨ ∃ c r, post = c :: r ∧ (c = 44 ∨ c = 43)
structure VA where
  pre : List Nat
  v : List Nat
  post : List Nat
def VA.text (x : VA) : List Nat := x.pre ++ (esc x.v ++ x.post)
abbrev R_value_at : DF := DL.Fn (fun x : VA => [.str x.text, .int (x.pre.length : Int)]) (fun x => x.text.length ≤ 1000000 ∧ stopOk x.post) fun x => .tup [.str x.v, .int ((x.pre.length + (esc x.v).length : Nat) : Int)]
theorem get_mid {A B : List Nat} {c : Nat} {n : Nat} (h : n = A.length) : (A ++ c :: B)[n]? = some c := by
  subst h
  rw [List.getElem?_append_right (Nat.le_refl _), Nat.sub_self]
  rfl
theorem cut_mid {A B C : List Nat} {i j : Nat} (hi : i = A.length) (hj : j = A.length + B.length) : cutL (A ++ (B ++ C)) (some (i : Int)) (some (j : Int)) = B := by
  subst hi hj
  unfold cutL
  rw [HT.sIx_nat, HT.sIx_nat]
  simp only [List.length_append]
  rw [Nat.min_eq_left (by omega), Nat.min_eq_left (by omega), List.drop_left, Nat.add_sub_cancel_left, List.take_left]
theorem va_step (x : VA) {j : Nat} {c : Nat} (hc : x.v[j]? = some c) : ∃ A B, x.text = A ++ (escAt x.v.length j c ++ B) ∧ A.length = x.pre.length + ((x.v.mapIdx fun i c => escAt x.v.length i c).take j).flatten.length := by
  refine ⟨x.pre ++ ((x.v.mapIdx fun i c => escAt x.v.length i c).take j).flatten, ((x.v.mapIdx fun i c => escAt x.v.length i c).drop (j + 1)).flatten ++ x.post, ?_, by simp only [List.length_append]⟩
  have e : esc x.v = ((x.v.mapIdx fun i c => escAt x.v.length i c).take j).flatten ++ (escAt x.v.length j c ++ ((x.v.mapIdx fun i c => escAt x.v.length i c).drop (j + 1)).flatten) := by
    unfold esc
    have h1 : (x.v.mapIdx fun i c => escAt x.v.length i c)[j]? = some (escAt x.v.length j c) := by rw [List.getElem?_mapIdx, hc]; rfl
    conv => lhs; rw [← List.take_append_drop j (x.v.mapIdx fun i c => escAt x.v.length i c)]
    rw [List.flatten_append]
    congr 1
    have hj : j < (x.v.mapIdx fun i c => escAt x.v.length i c).length := (List.getElem?_eq_some_iff.mp h1).1
    rw [List.drop_eq_getElem_cons hj, List.flatten_cons]
    rw [List.getElem?_eq_getElem hj] at h1
    rw [Option.some.inj h1]
  unfold VA.text
  rw [e]
  simp only [List.append_assoc]
theorem va_end (x : VA) : ((x.v.mapIdx fun i c => escAt x.v.length i c).take x.v.length).flatten = esc x.v := by
  unfold esc
  rw [List.take_of_length_le (by rw [List.length_mapIdx]; exact Nat.le_refl _)]
section
variable {P : Program} {w : World} {K : PySem.W.Frag} {mg : Str → Option Value} {base : Heap} {aN aE aR : Addr}
theorem sc_value_at : FnScope ["text", "begin", "found", "at"] ["text", "begin"] (defScope (top 19)) := ⟨rfl, rfl, rfl, by decide +kernel, rfl, by decide +kernel, by decide +kernel⟩
theorem ok_value_at {f : Addr} {fd : FuncData} (F : Fun K "value_at" "value_at" (top 19) f fd) (T : Txt K mg aN aE aR) (k_escaped : Kn0 P w K mg base "escaped" 1 ["value"] R_escaped) : FnOk P w K mg base CX0 2 f fd ["text", "begin"] (Pr K (NoX R_value_at)) := by
  have sc := sc_value_at
  refine okD F sc (fun ds os PP ⟨s, e, _⟩ => by rw [e]; rfl) ?_
  apply Exists.intro
  apply And.intro
  · intro cdv A outer s H hr
    have hu := hr.units
    have hu0 : (A.deeper (envOfC "value_at" (defScope (top 19)) s.heap.objs.size f cdv)).units + 1 < cLine := by omega
    exact (pb_cons (sx_par 2 3 rfl sc.nd (pxa_cons (px_str []) (pxa_cons (px_var 1) pxa_nil)) rfl (by decide))
      (pb_cons (sx_while PassesOwn.never (PXW.pt (ptw_and (DL.pt_cmp op_lt l_lt (px_var 3) (px_cb call_len l_len T.n_len PySem.boot_len (pxa_cons (px_var 0) pxa_nil))) (ptw_and1 (DL.pt_cmp op_notIn_sign l_notInS (px_ix L2.ix_str l_ixS (px_var 0) (px_var 3)) (px_str [44, 43]))))) (pb_cons (sx_if (PXW.pt (ptw_and (DL.pt_cmp op_eq l_eq (px_ix L2.ix_str l_ixS (px_var 0) (px_var 3)) (px_gstrE T.g_BACKSLASH)) (ptw_and1 (DL.pt_cmp op_lt l_lt (px_op op_add l_add (px_var 3) px_int) (px_cb call_len l_len T.n_len PySem.boot_len (pxa_cons (px_var 0) pxa_nil)))))) (pb_one (sx_set 3 sc.nd (px_op op_add l_add (px_var 3) px_int))) pb_nil)
      (pb_cons (sx_set 2 sc.nd (px_op op_add_str l_addS (px_var 2) (px_ix L2.ix_str l_ixS (px_var 0) (px_var 3))))
      (pb_one (sx_set 3 sc.nd (px_op op_add l_add (px_var 3) px_int))))))
      (pb_one (sx_ret (px_tup (pxa_cons (px_if (DL.pt_cmp op_eq l_eq (px_call0 k_escaped (hr.mono (by decide)) (pxa_cons (px_var 2) pxa_nil)) (px_sl sl_str l_slS (px_var 0) (pxo_some (px_var 1)) (pxo_some (px_var 3)))) (px_var 2) px_non) (pxa_cons (px_var 3) pxa_nil)))))))
  · rintro ds os PP ⟨x, rfl, ⟨hl, hst⟩, k⟩ hx
    have hesc := esc_len x.v
    have htl : x.text.length = x.pre.length + ((esc x.v).length + x.post.length) := by unfold VA.text; simp only [List.length_append]
    have hv : x.v.length ≤ 1000000 := by
      have : x.v.length ≤ (esc x.v).length := by
        unfold esc
        have : ∀ (n : Nat) (v : List Nat) (k : Nat), v.length ≤ (v.mapIdx fun i c => escAt n (i + k) c).flatten.length := by
          intro n v
          induction v with
          | nil => intro k; simp
          | cons c v ih =>
            intro k
            rw [List.mapIdx_cons, List.flatten_cons, List.length_append, List.length_cons]
            have h1 := ih (k + 1)
            have h2 : 1 ≤ (escAt n (0 + k) c).length := by unfold escAt; simp
            have e : (v.mapIdx fun i c => escAt n (i + 1 + k) c) = v.mapIdx fun i c => escAt n (i + (k + 1)) c := by
              congr 1; funext i c; congr 1; omega
            rw [e]
            omega
        exact this x.v.length x.v 0
      omega
    have hA : ∀ j, j ≤ x.v.length → ((x.v.mapIdx fun i c => escAt x.v.length i c).take j).flatten.length ≤ (esc x.v).length := fun j _ => by
      unfold esc
      conv => rhs; rw [← List.take_append_drop j (x.v.mapIdx fun i c => escAt x.v.length i c)]
      rw [List.flatten_append, List.length_append]
      omega
    refine q_par (ev_cons ev_c (ev_cons ev_var ev_nil)) ?_
    apply q_seq
    refine s_while (fun m ρ => ∃ j, m = x.v.length - j ∧ j ≤ x.v.length ∧ ρ = ⟨[some (.str x.text), some (.int (x.pre.length : Int)), some (.str (x.v.take j)), some (.int ((x.pre.length + ((x.v.mapIdx fun i c => escAt x.v.length i c).take j).flatten.length : Nat) : Int))], os, fun _ => False⟩) x.v.length ⟨0, rfl, Nat.zero_le _, rfl⟩ ?_
    rintro m ρ ⟨j, rfl, hj, rfl⟩
    by_cases hjn : j < x.v.length
    · obtain ⟨c, hc⟩ : ∃ c, x.v[j]? = some c := ⟨x.v[j], List.getElem?_eq_getElem hjn⟩
      obtain ⟨A, B, ht, hAl⟩ := va_step x hc
      have tks : (x.v.mapIdx fun i c => escAt x.v.length i c).take (j + 1) = (x.v.mapIdx fun i c => escAt x.v.length i c).take j ++ [escAt x.v.length j c] := by
        rw [List.take_add_one, List.getElem?_mapIdx, hc]
        rfl
      have vks : x.v.take (j + 1) = x.v.take j ++ [c] := by rw [List.take_add_one, hc]; rfl
      rw [← hAl]
      by_cases q : (decide (c ∈ ESC) || (decide (c = 32) && (decide (j = 0) || decide (j + 1 = x.v.length)))) = true
      · have eA : escAt x.v.length j c = [92, c] := by unfold escAt; rw [if_pos q]; rfl
        rw [eA] at ht tks
        have hlen : A.length + 2 + B.length = x.text.length := by rw [ht]; simp; omega
        have g1 : x.text[A.length]? = some 92 := by rw [ht]; exact get_mid rfl
        have g2 : x.text[A.length + 1]? = some c := by
          have : x.text = (A ++ [92]) ++ c :: B := by rw [ht]; simp
          rw [this]
          exact get_mid (by simp)
        have i1 : ((A.length : Int) < (x.text.length : Int)) := by omega
        have i2 : ((A.length : Int) + 1 < (x.text.length : Int)) := by omega
        refine ⟨true, ?_, fun _ => ?_, fun h => by cases h⟩
        · refine evt_eq (ev_and (ev_test (ev_op ev_var (ev_cb (ev_cons ev_var ev_nil) (v_lenS (by omega))) v_I0)) fun _ => ev_test (ev_op (ev_op ev_var ev_var (v_ixS (by omega) (atI_nat g1))) ev_c v_notInS)) ?_
          simp [i1]
        · refine q_if (b := true) (evt_eq (ev_and (ev_test (ev_op (ev_op ev_var ev_var (v_ixS (by omega) (atI_nat g1))) ev_c v_eqS)) fun _ => ev_test (ev_op (ev_op ev_var ev_c v_I0) (ev_cb (ev_cons ev_var ev_nil) (v_lenS (by omega))) v_I0)) ?_) (fun _ => ?_) (fun h => by cases h)
          · have : decide ([92] = tl { cps := #[92] }) = true := by decide
            rw [this]
            simp [i2]
          · refine s_set (ev_op ev_var ev_c v_I0) eg_name ?_
            refine q_set (d := .str (x.v.take j ++ [c])) (ev_op ev_var (ev_op ev_var ev_var (v_ixS (by omega) (atI_nat (j := A.length + 1) g2))) (v_addS ?_)) eg_name ?_
            · rw [List.length_take]; simp only [List.length_cons, List.length_nil]; omega
            · refine s_set (ev_op ev_var ev_c v_I0) eg_name ⟨x.v.length - (j + 1), by omega, j + 1, rfl, hjn, ?_⟩
              rw [tks, vks, List.flatten_append, List.length_append, ← Nat.add_assoc, ← hAl]
              rfl
      · have q' := Bool.not_eq_true _ ▸ q
        have eA : escAt x.v.length j c = [c] := by unfold escAt; rw [if_neg q]; rfl
        rw [eA] at ht tks
        have hce : ¬ c ∈ ESC := fun z => q (by simp [z])
        have hc1 : c ≠ 92 := fun z => hce (by rw [z]; decide)
        have hc2 : ¬ c ∈ [44, 43] := fun z => hce (by
          simp only [List.mem_cons, List.not_mem_nil, or_false] at z
          rcases z with z | z <;> (rw [z]; decide))
        have hlen : A.length + 1 + B.length = x.text.length := by rw [ht]; simp; omega
        have g1 : x.text[A.length]? = some c := by rw [ht]; exact get_mid rfl
        have i1 : ((A.length : Int) < (x.text.length : Int)) := by omega
        refine ⟨true, ?_, fun _ => ?_, fun h => by cases h⟩
        · refine evt_eq (ev_and (ev_test (ev_op ev_var (ev_cb (ev_cons ev_var ev_nil) (v_lenS (by omega))) v_I0)) fun _ => ev_test (ev_op (ev_op ev_var ev_var (v_ixS (by omega) (atI_nat g1))) ev_c v_notInS)) ?_
          rw [decide_eq_true i1, decide_eq_false hc2]; rfl
        · refine q_if (b := false) (evt_eq (ev_and (b2 := false) (ev_test (ev_op (ev_op ev_var ev_var (v_ixS (by omega) (atI_nat g1))) ev_c v_eqS)) fun h => ?_) ?_) (fun h => by cases h) (fun _ => ?_)
          · exact absurd (of_decide_eq_true h) (fun z => hc1 (by simpa using (show [c] = [92] from z)))
          · have : decide ([c] = tl { cps := #[92] }) = false := decide_eq_false (fun z => hc1 (by simpa using (show [c] = [92] from z)))
            rw [this]; rfl
          · refine s_next ?_
            refine q_set (d := .str (x.v.take j ++ [c])) (ev_op ev_var (ev_op ev_var ev_var (v_ixS (by omega) (atI_nat g1))) (v_addS ?_)) eg_name ?_
            · rw [List.length_take]; simp only [List.length_cons, List.length_nil]; omega
            · refine s_set (ev_op ev_var ev_c v_I0) eg_name ⟨x.v.length - (j + 1), by omega, j + 1, rfl, hjn, ?_⟩
              rw [tks, vks, List.flatten_append, List.length_append, ← Nat.add_assoc, ← hAl]
              rfl
    · have ej : j = x.v.length := by omega
      subst ej
      have hvt : x.v.take x.v.length = x.v := List.take_length
      rw [va_end, hvt]
      refine ⟨false, ?_, fun h => (by cases h), fun _ => ?_⟩
      · rcases hst with hp | ⟨c, r, hp, hc⟩
        · have i1 : ¬ (((x.pre.length + (esc x.v).length : Nat) : Int) < (x.text.length : Int)) := by rw [htl, hp]; simp
          refine evt_eq (ev_and (b2 := false) (ev_test (ev_op ev_var (ev_cb (ev_cons ev_var ev_nil) (v_lenS (by omega))) v_I0)) fun h => absurd (of_decide_eq_true h) i1) ?_
          simp
        · have g1 : x.text[x.pre.length + (esc x.v).length]? = some c := by
            have : x.text = (x.pre ++ esc x.v) ++ c :: r := by unfold VA.text; rw [hp]; simp
            rw [this]
            exact get_mid (by simp)
          refine evt_eq (ev_and (ev_test (ev_op ev_var (ev_cb (ev_cons ev_var ev_nil) (v_lenS (by omega))) v_I0)) fun h => ev_test (ev_op (ev_op ev_var ev_var (v_ixS (by omega) (atI_nat g1))) ev_c v_notInS)) ?_
          have : c ∈ [44, 43] := by rcases hc with z | z <;> simp [z]
          rw [decide_eq_true this]
          simp
      · have fin : EvD (dTup (dCons (dIf (dTest (dOp rdEq (dCall0 R_escaped (dCons (dVar 2) dNil)) (dSl rdSlS (dVar 0) (dPart (dVar 1)) (dPart (dVar 3))))) (dVar 2) (dC .non)) (dCons (dVar 3) dNil)))
            ⟨[some (.str x.text), some (.int (x.pre.length : Int)), some (.str x.v), some (.int ((x.pre.length + (esc x.v).length : Nat) : Int))], os, fun _ => False⟩ (.tup [.str x.v, .int ((x.pre.length + (esc x.v).length : Nat) : Int)]) := by
          refine ev_tup (ev_cons (ev_if (b := true) (evt_eq (ev_test (ev_op (ev_fn x.v (ev_cons ev_var ev_nil) (by omega)) (ev_sl ev_var (ev_part ev_var) (ev_part ev_var) (v_slS (by omega))) v_eqS)) ?_) (fun _ => ev_var) (fun h => by cases h)) (ev_cons ev_var ev_nil)) (by simp)
          refine decide_eq_true ?_
          exact (cut_mid rfl rfl).symm
        exact fin _ ⟨os, List.Sublist.refl _, k⟩
end
end K86

set_option Elab.async false
set_option linter.all false
set_option maxRecDepth 100000
set_option maxHeartbeats 2000000
namespace K86
open PySem PySem.Spec PyProof PyProof.Rows L2 TL DL
local macro_rules | `(tactic| walk_at "ev") => `(tactic| repeat' (with_reducible first
  | apply ev_c | (apply ev_var; with_unfolding_all exact rfl) | exact v_isStr | apply ev_op | apply ev_test | apply ev_and | apply ev_or | apply ev_not | apply ev_andV | apply ev_orV | apply ev_notV
  | apply ev_ifS | apply ev_ifI | apply ev_chain | apply ev_nil | apply ev_cons | apply ev_tup | apply ev_lst | apply ev_cb | apply ev_m0 | apply ev_m1 | apply ev_m2 | apply ev_sl | apply ev_noPart | apply ev_part | apply ev_revT | apply ev_yes
  | apply v_I0 | apply v_I | apply v_addS | apply v_eqS | apply v_eqI | apply v_eqB | apply v_neS | apply v_neI | apply v_inS | apply v_notInS | apply v_isN0 | apply v_isNS | apply v_isNT | apply v_notN0 | apply v_notNS | apply v_notNT
  | apply v_lenS | apply v_lenL | apply v_lenT | apply v_all | apply v_any | apply v_int1 | apply v_intb | apply v_max2 | apply v_min2 | apply v_join | apply v_split | apply v_part | apply v_lower | apply v_starts | apply v_find | apply v_slS | apply v_slT
  | apply ei_list | apply ei_tup | apply ei_str | apply ei_range1 | apply ei_enumS | apply eg_name | apply eg_nil | apply eg_cons | apply eg_tup
  | (intro _)))

/-! ### read_name, where a name stands -/
abbrev Pr2 := List Nat × List Nat
def pairD (p : Pr2) : D := .tup [.str p.1, .str p.2]
def leafD (l : List Pr2) : D := .tup (l.map pairD)
def nameD (L : List (List Pr2)) : D := .tup (L.map leafD)
def pairText (p : Pr2) : List Nat := p.1 ++ (61 :: esc p.2)
def leafText (l : List Pr2) : List Nat := joinL [43] (l.map pairText)
def nameText (L : List (List Pr2)) : List Nat := joinL [44] (L.map leafText)
structure GoodLeaf (l : List Pr2) : Prop where
  ne : l ≠ []
  len : l.length ≤ 4
  nd : (l.map Prod.fst).Nodup
  wd : ∀ p ∈ l, isWordL p.1 = true
  vl : ∀ p ∈ l, isPlainL p.2 = true
structure GoodName (L : List (List Pr2)) : Prop where
  lf : ∀ l ∈ L, GoodLeaf l
  len : L.length ≤ 12
  sz : (nameText L).length ≤ 100000
abbrev R_read_name : DF := DL.Fn (fun L : List (List Pr2) => [.str (nameText L)]) GoodName nameD
/-- what is left: pairs of a leaf, leaves -/
def remT (pr : List Pr2) (Lr : List (List Pr2)) : List Nat := joinL [44] (leafText pr :: Lr.map leafText)
def postT (pr : List Pr2) (Lr : List (List Pr2)) : List Nat := match pr, Lr with
  | [], [] => []
  | [], l :: r => 44 :: remT l r
  | p :: r, Lr => 43 :: remT (p :: r) Lr
theorem remT_cons (p : Pr2) (pr : List Pr2) (Lr : List (List Pr2)) : remT (p :: pr) Lr = pairText p ++ postT pr Lr := by
  unfold remT
  cases pr with
  | nil =>
    cases Lr with
    | nil => simp [leafText, joinL, postT]
    | cons l r => simp [leafText, joinL, postT, remT]
  | cons q r =>
    have e : leafText (p :: q :: r) = pairText p ++ (43 :: leafText (q :: r)) := by simp [leafText, joinL]
    rw [e]
    cases Lr with
    | nil => simp [joinL, postT, remT]
    | cons l r2 => simp [joinL, postT, remT]
theorem nameText_cons (l : List Pr2) (Lr : List (List Pr2)) : nameText (l :: Lr) = remT l Lr := rfl
theorem word_letters {s : List Nat} (h : isWordL s = true) : ∀ c ∈ s, c ∈ LETTERS := by
  unfold isWordL at h
  simp only [Bool.and_eq_true, List.all_eq_true, decide_eq_true_eq] at h
  exact h.2
theorem word_len {s : List Nat} (h : isWordL s = true) : 1 ≤ s.length ∧ s.length ≤ 12 := by
  unfold isWordL at h
  simp only [Bool.and_eq_true, decide_eq_true_eq] at h
  exact ⟨h.1.1.1, h.1.1.2⟩
theorem plain_len {s : List Nat} (h : isPlainL s = true) : s.length ≤ 60 := by
  unfold isPlainL at h
  simp only [Bool.and_eq_true, decide_eq_true_eq] at h
  exact h.2.1
theorem find_word {pre w r : List Nat} (h : 61 ∉ w) : findL (pre ++ (w ++ 61 :: r)) 61 pre.length = ((pre.length + w.length : Nat) : Int) := by
  unfold findL
  rw [List.drop_left]
  have : (w ++ 61 :: r).findIdx? (· == 61) = some w.length := by
    induction w with
    | nil => simp [List.findIdx?_cons]
    | cons c w ih =>
      have h1 : c ≠ 61 := fun z => h (by simp [z])
      have h2 : 61 ∉ w := fun z => h (by simp [z])
      rw [List.cons_append, List.findIdx?_cons]
      have : (c == 61) = false := by simpa using h1
      rw [this]
      simp [ih h2]
  rw [this]
theorem post_ok (pr : List Pr2) (Lr : List (List Pr2)) : stopOk (postT pr Lr) := by
  unfold postT stopOk
  cases pr with
  | nil =>
    cases Lr with
    | nil => exact .inl rfl
    | cons l r => exact .inr ⟨44, _, rfl, .inl rfl⟩
  | cons p r => exact .inr ⟨43, _, rfl, .inr rfl⟩
theorem ev_fnE {ρ : Rho} {u : DA} {ds : List D} {α : Type} {enc : α → List D} {pr : α → Prop} {out : α → D} (a : α) (h : EvA u ρ ds) (e : ds = enc a) (p : pr a) : EvD (dCall0 (DL.Fn enc pr out) u) ρ (out a) := ev_fn a (e ▸ h) p
def todo (pr : List Pr2) (Lr : List (List Pr2)) : Nat := pr.length + (Lr.map List.length).sum
section
variable {P : Program} {w : World} {K : PySem.W.Frag} {mg : Str → Option Value} {base : Heap} {aN aE aR : Addr}
theorem sc_read_name : FnScope ["text", "leaves", "pairs", "at", "equals", "word", "pair", "value", "is_short", "leaf"] ["text"] (defScope (top 20)) := ⟨rfl, rfl, rfl, by decide +kernel, rfl, by decide +kernel, by decide +kernel⟩
theorem ok_read_name {f : Addr} {fd : FuncData} (F : Fun K "read_name" "read_name" (top 20) f fd) (T : Txt K mg aN aE aR) (k_is_word : Kn0 P w K mg base "is_word" 1 ["value"] R_is_word) (k_value_at : Kn0 P w K mg base "value_at" 2 ["text", "begin"] R_value_at) (k_is_plain : Kn0 P w K mg base "is_plain" 2 ["value"] R_is_plain) : FnOk P w K mg base CX0 3 f fd ["text"] (Pr K (NoX R_read_name)) := by
  have sc := sc_read_name
  refine okD F sc (fun ds os PP ⟨s, e, _⟩ => by rw [e]; rfl) ?_
  apply Exists.intro
  apply And.intro
  · intro cdv A outer s H hr
    have hu := hr.units
    have hu0 : (A.deeper (envOfC "read_name" (defScope (top 20)) s.heap.objs.size f cdv)).units + 1 < cLine := by omega
    exact (pb_cons (sx_if (DL.pt_no (pt_v (px_cb call_isi (l_isB (K := K) (T := "str")) T.n_isinstance boot_isinstance (pxa_cons (px_var 0) (pxa_cons (px_ty (T := "str") T.n_str (by decide +kernel)) pxa_nil))))) (pb_one (sx_ret px_non)) pb_nil)
      (pb_cons (sx_set 1 sc.nd (px_lstC pxa_nil))
      (pb_cons (sx_set 2 sc.nd (px_lstC pxa_nil))
      (pb_cons (sx_set 3 sc.nd px_int)
      (pb_cons (sx_while PassesOwn.never (PXW.pt (ptw_and (DL.pt_cmp op_ne l_ne (px_var 0) (px_str [])) (ptw_and1 (DL.pt_cmp op_le l_le (px_var 3) (px_cb call_len l_len T.n_len PySem.boot_len (pxa_cons (px_var 0) pxa_nil)))))) (pb_cons (sx_set 4 sc.nd (px_m2 PySem.F.slot_str_find PySem.F.type_str_find mt_find3 l_find (px_var 0) (pxa_cons (px_str [61]) (pxa_cons (px_var 3) pxa_nil))))
      (pb_cons (sx_set 5 sc.nd (px_if (DL.pt_cmp op_ge l_ge (px_var 4) px_int) (px_sl sl_str l_slS (px_var 0) (pxo_some (px_var 3)) (pxo_some (px_var 4))) (px_str [])))
      (pb_cons (sx_if (PXW.pt (ptw_or (DL.pt_no (pt_v (px_call0 k_is_word (hr.mono (by decide)) (pxa_cons (px_var 5) pxa_nil)))) (ptw_or1 (pt_frz (DL.pt_cmp op_in_seq (l_inL (neg := false)) (px_var 5) (px_lc (own := [("pair", 6)]) (own1 6) rfl sc.nd (DL.ix_list (px_var 2)) (blkOk_by (N := ["text", "leaves", "pairs", "at", "equals", "word", "pair", "value", "is_short", "leaf"]) (sc := defScope (top 20)) (by decide +kernel)) (fun _ _ _ _ _ => pg_name (i := 6) sc.nd rfl (Or.inl rfl)) (fun _ _ _ _ _ => pxts_nil) (fun _ _ _ _ _ => (px_ix L2.ix_tup l_ixT (px_var 6) px_int)))))))) (pb_one (sx_ret px_non)) pb_nil)
      (pb_cons (sx_asg (px_call0 k_value_at (hr.mono (by decide)) (pxa_cons (px_var 0) (pxa_cons (px_op op_add l_add (px_var 4) px_int) pxa_nil))) (gx_tup (n := 2) rfl (gxs_cons (gx_name 7 sc.nd) (gxs_cons (gx_name 3 sc.nd) gxs_nil))))
      (pb_cons (sx_if (DL.pt_no (pt_v (px_call0 k_is_plain (hr.mono (by decide)) (pxa_cons (px_var 7) pxa_nil)))) (pb_one (sx_ret px_non)) pb_nil)
      (pb_cons (sx_expr (px_append (px_var 2) (px_tup (pxa_cons (px_var 5) (pxa_cons (px_var 7) pxa_nil)))))
      (pb_cons (sx_if (PXW.pt (ptw_or (DL.pt_cmp op_eq l_eq (px_var 3) (px_cb call_len l_len T.n_len PySem.boot_len (pxa_cons (px_var 0) pxa_nil))) (ptw_or1 (DL.pt_cmp op_eq l_eq (px_ix L2.ix_str l_ixS (px_var 0) (px_var 3)) (px_str [44]))))) (pb_cons (sx_expr (px_append (px_var 1) (px_ct call_tuple_of l_tupOf T.n_tuple (by decide +kernel) (pxa_cons (px_var 2) pxa_nil))))
      (pb_one (sx_set 2 sc.nd (px_lstC pxa_nil)))) pb_nil)
      (pb_one (sx_set 3 sc.nd (px_op op_add l_add (px_var 3) px_int)))))))))))
      (pb_cons (sx_set 8 sc.nd (px_and (DL.px_cmp op_le l_le (px_cb call_len l_len T.n_len PySem.boot_len (pxa_cons (px_var 1) pxa_nil)) (px_gintE T.g_MAX_LEAVES)) (px_one (px_frz (px_cb (cr_all rfl) l_all T.n_all (by decide +kernel) (pxa_cons (px_lc (own := [("leaf", 9)]) (own1 9) rfl sc.nd (DL.ix_list (px_var 1)) (blkOk_by (N := ["text", "leaves", "pairs", "at", "equals", "word", "pair", "value", "is_short", "leaf"]) (sc := defScope (top 20)) (by decide +kernel)) (fun _ _ _ _ _ => pg_name (i := 9) sc.nd rfl (Or.inl rfl)) (fun _ _ _ _ _ => pxts_nil) (fun _ _ _ _ _ => (DL.px_cmp op_le l_le (px_cb call_len l_len T.n_len PySem.boot_len (pxa_cons (px_var 9) pxa_nil)) (px_gintE T.g_MAX_PAIRS)))) pxa_nil))))))
      (pb_one (sx_ret (px_if (PXW.pt (ptw_and (pt_v (px_var 8)) (ptw_and1 (pt_frz (DL.pt_cmp (op_eqD hu) l_eqD (px_var 2) (px_lst pxa_nil)))))) (px_ct call_tuple_of l_tupOf T.n_tuple (by decide +kernel) (pxa_cons (px_var 1) pxa_nil)) px_non)))))))))
  · rintro ds os PP ⟨L, rfl, hg, k⟩ hx
    have hsz := hg.sz
    refine q_if (b := false) (evt_eq (ev_not (ev_test (ev_cb (ev_cons ev_var (ev_cons ev_c ev_nil)) v_isStr))) rfl) (fun h => by cases h) fun _ => ?_
    refine q_next ?_
    refine q_lstC ev_nil (by simp) fun la hla => ?_
    refine q_lstC ev_nil (by simp) fun pa hpa => ?_
    refine q_set ev_c eg_name ?_
    apply q_seq
    refine s_while (fun m ρ => ∃ (Ld : List (List Pr2)) (pd pr : List Pr2) (Lr : List (List Pr2)) (pre : List Nat) (pa : Addr) (junk : List Cell) (lo : Addr → Prop) (s4 s5 s6 s7 s8 s9 : Option D) (at_ : Nat),
      ρ = ⟨[some (.str (nameText L)), some (.raw (.ref la)), some (.raw (.ref pa)), some (.int (at_ : Int)), s4, s5, s6, s7, s8, s9], ⟨pa, .lst (pd.map pairD)⟩ :: (junk ++ ⟨la, .lst (Ld.map leafD)⟩ :: os), lo⟩ ∧ m = todo pr Lr ∧
      ((pr ≠ [] ∧ L = Ld ++ (pd ++ pr) :: Lr ∧ nameText L = pre ++ remT pr Lr ∧ at_ = pre.length) ∨ (pr = [] ∧ Lr = [] ∧ pd = [] ∧ Ld = L ∧ (L = [] ∨ at_ = (nameText L).length + 1)))) (todo (L.headD []) L.tail) ?_ ?_
    · cases hL : L with
      | nil => exact ⟨[], [], [], [], [], pa, [], _, none, none, none, none, none, none, 0, rfl, rfl, .inr ⟨rfl, rfl, rfl, rfl, .inl rfl⟩⟩
      | cons l Lr =>
        refine ⟨[], [], l, Lr, [], pa, [], _, none, none, none, none, none, none, 0, rfl, rfl, .inl ⟨(hg.lf l (by rw [hL]; simp)).ne, rfl, rfl, rfl⟩⟩
    rintro m ρ ⟨Ld, pd, pr, Lr, pre, pa, junk, lo, s4, s5, s6, s7, s8, s9, at_, rfl, rfl, hcase⟩
    rcases hcase with ⟨hne, hL, ht, rfl⟩ | ⟨rfl, rfl, rfl, rfl, hat⟩
    · obtain ⟨p, pr, rfl⟩ := List.exists_cons_of_ne_nil hne
      have gl : GoodLeaf (pd ++ p :: pr) := hg.lf _ (by rw [hL]; simp)
      have hw : isWordL p.1 = true := gl.wd p (by simp)
      have hv : isPlainL p.2 = true := gl.vl p (by simp)
      have hwl := word_len hw
      have hvl := plain_len hv
      have h61 : 61 ∉ p.1 := fun z => absurd (word_letters hw 61 z) (by decide)
      have hnin : p.1 ∉ pd.map Prod.fst := fun z => by
        have nd := gl.nd
        rw [List.map_append, List.map_cons] at nd
        exact (List.nodup_append.mp nd).2.2 p.1 z p.1 (by simp) rfl
      have ht2 : nameText L = pre ++ (p.1 ++ 61 :: (esc p.2 ++ postT pr Lr)) := by
        rw [ht, remT_cons]
        unfold pairText
        simp
      have hlen : (nameText L).length = pre.length + p.1.length + 1 + (esc p.2).length + (postT pr Lr).length := by
        rw [ht2]
        simp only [List.length_append, List.length_cons]
        omega
      have hne0 : nameText L ≠ [] := by rw [ht2]; simp
      generalize hT : nameText L = T at *
      have hTs : T.length ≤ 16777216 := by omega
      refine ⟨true, ?_, fun _ => ?_, fun h => by cases h⟩
      · refine evt_eq (ev_and (ev_test (ev_op ev_var ev_c v_neS)) fun _ => ev_test (ev_op ev_var (ev_cb (ev_cons ev_var ev_nil) (v_lenS hTs)) v_I0)) ?_
        have : ((pre.length : Int) ≤ (T.length : Int)) := by omega
        simp [hne0, this]
      refine q_set (d := .int ((pre.length + p.1.length : Nat) : Int)) (evd_eq (ev_m2 ev_var (ev_cons ev_c (ev_cons ev_var ev_nil)) v_find) ?_) eg_name ?_
      · rw [ht2, find_word h61]
      refine q_set (d := .str p.1) (ev_if (b := true) (evt_eq (ev_test (ev_op ev_var ev_c v_I0)) (by simp; omega)) (fun _ => evd_eq (ev_sl ev_var (ev_part ev_var) (ev_part ev_var) (v_slS hTs)) ?_) (fun h => by cases h)) eg_name ?_
      · rw [ht2, cut_mid rfl rfl]
      refine q_if (b := false) (evt_eq (ev_or (b2 := false) (ev_not (ev_test (ev_fn p.1 (ev_cons ev_var ev_nil) (by omega)))) fun _ => ?_) ?_) (fun h => by cases h) fun _ => ?_
      · refine ev_frzT 2 [] _ pa (pd.map pairD) rfl rfl (evt_eq (ev_test (ev_op ev_var (evd_eq (ev_lc' (l := pd) (enc := pairD) (g := fun q => .str q.1) (ei_list ev_var) rfl ?_ fun q _ => ⟨_, eg_name, rfl, rfl, ev_op ev_var ev_c (v_ixT (atI_nat (j := 0) rfl))⟩) (b := .lst (strsD (pd.map Prod.fst))) ?_) (v_inL (neg := false) (l := pd.map Prod.fst)))) ?_)
        · have := gl.len
          rw [List.length_append] at this
          omega
        · unfold strsD; rw [List.map_map]; rfl
        · simp only [Bool.false_eq_true, if_false]; exact decide_eq_false hnin
      · rw [hw]; rfl
      refine q_next ?_
      have hx : (VA.mk (pre ++ (p.1 ++ [61])) p.2 (postT pr Lr)).text = T := by unfold VA.text; rw [ht2]; simp
      have hxl : ((pre ++ (p.1 ++ [61])).length : Int) = ((pre.length + p.1.length : Nat) : Int) + 1 := by simp only [List.length_append, List.length_cons, List.length_nil]; omega
      refine q_set (ev_fnE (VA.mk (pre ++ (p.1 ++ [61])) p.2 (postT pr Lr)) (ev_cons ev_var (ev_cons (ev_op ev_var ev_c v_I0) ev_nil)) (by show [D.str _, D.int _] = [D.str _, D.int _]; rw [hx, hxl]) ⟨by rw [hx]; omega, post_ok pr Lr⟩) (eg_tup (eg_cons eg_name (eg_cons eg_name eg_nil))) ?_
      have hat : (pre ++ (p.1 ++ [61])).length + (esc p.2).length = pre.length + p.1.length + 1 + (esc p.2).length := by simp only [List.length_append, List.length_cons, List.length_nil]; omega
      dsimp only
      rw [hat]
      refine q_if (b := false) (evt_eq (ev_not (ev_test (ev_fn p.2 (ev_cons ev_var ev_nil) (by omega)))) (by rw [hv]; rfl)) (fun h => by cases h) fun _ => ?_
      refine q_next ?_
      refine q_append (l := []) ev_var (ev_tup (ev_cons ev_var (ev_cons ev_var ev_nil)) (by simp)) rfl ?_ ?_
      · have := gl.len
        rw [List.length_append, List.length_cons] at this
        rw [List.length_map]; omega
      have hpd : pd.map pairD ++ [D.tup [D.str p.1, D.str p.2]] = (pd ++ [p]).map pairD := by simp [pairD]
      rw [hpd]
      cases pr with
      | cons q pr =>
        have g1 : T[pre.length + p.1.length + 1 + (esc p.2).length]? = some 43 := by
          have : T = (pre ++ (p.1 ++ 61 :: esc p.2)) ++ 43 :: remT (q :: pr) Lr := by rw [ht2]; simp [postT]
          rw [this]
          exact get_mid (by simp only [List.length_append, List.length_cons]; omega)
        refine q_if (b := false) (evt_eq (ev_or (ev_test (ev_op ev_var (ev_cb (ev_cons ev_var ev_nil) (v_lenS hTs)) v_eqI)) fun _ => ev_test (ev_op (ev_op ev_var ev_var (v_ixS hTs (atI_nat g1))) ev_c v_eqS)) ?_) (fun h => by cases h) fun _ => ?_
        · have : (postT (q :: pr) Lr).length ≥ 1 := by simp [postT]
          have h1 : ¬ (((pre.length + p.1.length + 1 + (esc p.2).length : Nat) : Int) = (T.length : Int)) := by omega
          rw [decide_eq_false h1]
          decide
        · refine q_next ?_
          refine s_set (ev_op ev_var ev_c v_I0) eg_name ?_
          refine ⟨todo (q :: pr) Lr, by unfold todo; simp, Ld, pd ++ [p], q :: pr, Lr, pre ++ (p.1 ++ 61 :: (esc p.2 ++ [43])), pa, junk, lo, _, _, s6, _, s8, s9, pre.length + p.1.length + 1 + (esc p.2).length + 1, rfl, rfl, .inl ⟨by simp, by rw [hL]; simp, ?_, ?_⟩⟩
          · rw [ht2]; simp [postT]
          · simp only [List.length_append, List.length_cons, List.length_nil]; omega
      | nil =>
        refine q_if (b := true) ?_ (fun _ => ?_) (fun h => by cases h)
        · cases Lr with
          | nil =>
            have h1 : ((pre.length + p.1.length + 1 + (esc p.2).length : Nat) : Int) = (T.length : Int) := by
              have : (postT ([] : List Pr2) ([] : List (List Pr2))).length = 0 := rfl
              omega
            exact evt_eq (ev_or (b2 := false) (ev_test (ev_op ev_var (ev_cb (ev_cons ev_var ev_nil) (v_lenS hTs)) v_eqI)) fun h => absurd h1 (of_decide_eq_false h)) (by rw [decide_eq_true h1]; rfl)
          | cons l Lr =>
            have g1 : T[pre.length + p.1.length + 1 + (esc p.2).length]? = some 44 := by
              have : T = (pre ++ (p.1 ++ 61 :: esc p.2)) ++ 44 :: remT l Lr := by rw [ht2]; simp [postT]
              rw [this]
              exact get_mid (by simp only [List.length_append, List.length_cons]; omega)
            refine evt_eq (ev_or (ev_test (ev_op ev_var (ev_cb (ev_cons ev_var ev_nil) (v_lenS hTs)) v_eqI)) fun _ => ev_test (ev_op (ev_op ev_var ev_var (v_ixS hTs (atI_nat g1))) ev_c v_eqS)) ?_
            simp
        · refine q_append (l := ⟨pa, .lst ((pd ++ [p]).map pairD)⟩ :: junk) ev_var (ev_cb (ev_cons ev_var ev_nil) (v_tupOf (.inl (sees_cell (l := []) rfl)))) rfl ?_ ?_
          · have := hg.len
            rw [hL, List.length_append, List.length_cons] at this
            rw [List.length_map]; omega
          · refine s_lstC ev_nil (by simp) fun p3 hp3 => ?_
            dsimp only
            refine s_set (ev_op ev_var ev_c v_I0) eg_name ?_
            have hld : Ld.map leafD ++ [D.tup ((pd ++ [p]).map pairD)] = (Ld ++ [pd ++ [p]]).map leafD := by simp [leafD]
            rw [hld]
            cases Lr with
            | nil =>
              exact ⟨0, by unfold todo; simp, Ld ++ [pd ++ [p]], [], [], [], [], p3, ⟨pa, .lst ((pd ++ [p]).map pairD)⟩ :: junk, _, _, _, s6, _, s8, s9, pre.length + p.1.length + 1 + (esc p.2).length + 1, rfl, rfl, .inr ⟨rfl, rfl, rfl, hL.symm, .inr (by
                have : (postT ([] : List Pr2) ([] : List (List Pr2))).length = 0 := rfl
                omega)⟩⟩
            | cons l Lr =>
              refine ⟨todo l Lr, by unfold todo; simp only [List.map_cons, List.sum_cons, List.length_cons, List.length_nil]; omega, Ld ++ [pd ++ [p]], [], l, Lr, pre ++ (p.1 ++ 61 :: (esc p.2 ++ [44])), p3, ⟨pa, .lst ((pd ++ [p]).map pairD)⟩ :: junk, _, _, _, s6, _, s8, s9, pre.length + p.1.length + 1 + (esc p.2).length + 1, rfl, rfl, .inl ⟨(hg.lf l (by rw [hL]; simp)).ne, by rw [hL]; simp, ?_, ?_⟩⟩
              · rw [ht2]; simp [postT]
              · simp only [List.length_append, List.length_cons, List.length_nil]; omega
    · have hTs : (nameText Ld).length ≤ 16777216 := by omega
      refine ⟨false, ?_, fun h => (by cases h), fun _ => ?_⟩
      · rcases hat with hL | hat
        · subst hL
          exact evt_eq (ev_and (b2 := false) (ev_test (ev_op ev_var ev_c v_neS)) fun h => by cases h) (by rfl)
        · subst hat
          refine evt_eq (ev_and (ev_test (ev_op ev_var ev_c v_neS)) fun _ => ev_test (ev_op ev_var (ev_cb (ev_cons ev_var ev_nil) (v_lenS hTs)) v_I0)) ?_
          have : ¬ (((nameText Ld).length + 1 : Nat) : Int) ≤ ((nameText Ld).length : Int) := by omega
          rw [decide_eq_false this]
          simp
      · dsimp only
        have hlenL := hg.len
        have hb : ((Ld.map fun l => decide ((l.length : Int) ≤ 4)).all id) = true := by
          rw [List.all_map, List.all_eq_true]
          intro l hl
          have := (hg.lf l hl).len
          exact decide_eq_true (by omega)
        refine q_set (d := .bl true) (evd_eq (ev_andV (ev_op (ev_cb (ev_cons ev_var ev_nil) (v_lenC (sees_cell (l := ⟨pa, .lst (([] : List Pr2).map pairD)⟩ :: junk) rfl))) ev_c v_I0) fun _ => ev_frz 1 (⟨pa, .lst (([] : List Pr2).map pairD)⟩ :: junk) os la (Ld.map leafD) rfl rfl trivial
          (ev_cb (ev_cons (evd_eq (ev_lc' (l := Ld) (enc := leafD) (g := fun l => .bl (decide ((l.length : Int) ≤ 4))) (ei_list ev_var) rfl (by omega) fun l _ => ⟨_, eg_name, rfl, rfl, evd_eq (ev_op (ev_cb (ev_cons ev_var ev_nil) v_lenT) ev_c v_I0) ?_⟩) (b := .lst (bls (Ld.map fun l => decide ((l.length : Int) ≤ 4)))) ?_) ev_nil) v_all)) ?_) eg_name ?_
        · rw [List.length_map]
        · unfold bls; rw [List.map_map]; rfl
        · rw [hb, List.length_map]
          have : ((Ld.length : Int) ≤ 12) := by omega
          rw [decide_eq_true this]
          rfl
        · have fin : EvD (dIf (dAnd (dTest (dVar 8)) (dFrzT (dTest (dOp rdEqD (dVar 2) (dLst dNil))))) (dCB rdTupOf (dCons (dVar 1) dNil)) (dC .non))
              ⟨[some (.str (nameText Ld)), some (.raw (.ref la)), some (.raw (.ref pa)), some (.int (at_ : Int)), s4, s5, s6, s7, some (.bl true), s9], ⟨pa, .lst (([] : List Pr2).map pairD)⟩ :: (junk ++ ⟨la, .lst (Ld.map leafD)⟩ :: os), lo⟩ (.tup (Ld.map leafD)) := by
            refine ev_if (b := true) (evt_eq (ev_and (ev_test ev_var) fun _ => ev_frzT 2 [] _ pa [] rfl rfl (ev_test (ev_op ev_var (ev_lst ev_nil (by simp)) (v_eqD (p := .list []) (q := .list []) rfl rfl rfl rfl)))) ?_) (fun _ => ev_cb (ev_cons ev_var ev_nil) (v_tupOf (.inl (sees_cell (l := ⟨pa, .lst (([] : List Pr2).map pairD)⟩ :: junk) rfl)))) (fun h => by cases h)
            rfl
          refine fin _ ⟨os, ?_, k⟩
          exact (((List.sublist_cons_self _ os).trans (List.sublist_append_right junk _)).trans (List.sublist_cons_self _ _))
end
end K86

set_option Elab.async false
set_option linter.all false
set_option maxRecDepth 100000
set_option maxHeartbeats 2000000
namespace K86
open PySem PySem.Spec PyProof PyProof.Rows L2 TL DL
local macro_rules | `(tactic| walk_at "ev") => `(tactic| repeat' (with_reducible first
  | apply ev_c | (apply ev_var; with_unfolding_all exact rfl) | exact v_isStr | apply ev_op | apply ev_test | apply ev_and | apply ev_or | apply ev_not | apply ev_andV | apply ev_orV | apply ev_notV
  | apply ev_ifS | apply ev_ifI | apply ev_chain | apply ev_nil | apply ev_cons | apply ev_tup | apply ev_lst | apply ev_cb | apply ev_m0 | apply ev_m1 | apply ev_m2 | apply ev_sl | apply ev_noPart | apply ev_part | apply ev_revT | apply ev_yes
  | apply v_I0 | apply v_I | apply v_addS | apply v_eqS | apply v_eqI | apply v_eqB | apply v_neS | apply v_neI | apply v_inS | apply v_notInS | apply v_isN0 | apply v_isNS | apply v_isNT | apply v_notN0 | apply v_notNS | apply v_notNT
  | apply v_lenS | apply v_lenL | apply v_lenT | apply v_all | apply v_any | apply v_int1 | apply v_intb | apply v_max2 | apply v_min2 | apply v_join | apply v_split | apply v_part | apply v_lower | apply v_starts | apply v_find | apply v_slS | apply v_slT
  | apply ei_list | apply ei_tup | apply ei_str | apply ei_range1 | apply ei_enumS | apply eg_name | apply eg_nil | apply eg_cons | apply eg_tup
  | (intro _)))

/-! ### leaf_text, normal_leaf, order_of -/
structure OkPairs (l : List Pr2) : Prop where
  len : l.length ≤ 4
  sz : ∀ p ∈ l, p.1.length ≤ 100 ∧ p.2.length ≤ 10000
abbrev R_leaf_text : DF := DL.Fn (fun l : List Pr2 => [.lst (pairsD l)]) OkPairs fun l => .str (leafText l)
def normPairs (l : List Pr2) : List Pr2 := (l.map fun p => (p.1, plainText p.2)).mergeSort (PySem.W.dataLe false encP)
def normText (l : List Pr2) : List Nat := leafText (normPairs l)
abbrev R_normal_leaf : DF := DL.Fn (fun l : List Pr2 => [leafD l]) GoodLeaf fun l => .str (normText l)
def orderD (L : List (List Pr2)) : D := .tup (strsD (L.reverse.map normText))
abbrev R_order_of : DF := DL.Fn (fun L : List (List Pr2) => [nameD L]) GoodName orderD
theorem leaf_sum : ∀ (l : List Pr2) (b : Nat), (∀ p ∈ l, p.1.length ≤ 100 ∧ p.2.length ≤ 10000) → ((l.map pairText).map List.length).sum ≤ 20101 * l.length
  | [], _, _ => by simp
  | p :: l, b, h => by
    have ih := leaf_sum l b fun q hq => h q (by simp [hq])
    obtain ⟨h1, h2⟩ := h p (by simp)
    have h3 := esc_len p.2
    simp only [List.map_cons, List.sum_cons, List.length_cons]
    have e : (pairText p).length = p.1.length + ((esc p.2).length + 1) := by unfold pairText; simp only [List.length_append, List.length_cons]
    rw [e]
    omega
theorem normPairs_ok {l : List Pr2} (h : GoodLeaf l) : OkPairs (normPairs l) := by
  have pm := List.mergeSort_perm (l.map fun p => (p.1, plainText p.2)) (PySem.W.dataLe false encP)
  refine ⟨?_, fun p hp => ?_⟩
  · unfold normPairs
    rw [pm.length_eq, List.length_map]
    exact h.len
  · obtain ⟨q, hq, e⟩ := List.mem_map.mp (pm.mem_iff.mp hp)
    subst e
    have h1 := (word_len (h.wd q hq)).2
    have h2 := plain_len (h.vl q hq)
    have h3 := plainText_len q.2
    exact ⟨by show q.1.length ≤ 100; omega, by show (plainText q.2).length ≤ 10000; omega⟩
section
variable {P : Program} {w : World} {K : PySem.W.Frag} {mg : Str → Option Value} {base : Heap} {aN aE aR : Addr}
theorem sc_leaf_text : FnScope ["pairs", "word", "value"] ["pairs"] (defScope (top 21)) := ⟨rfl, rfl, rfl, by decide +kernel, rfl, by decide +kernel, by decide +kernel⟩
theorem ok_leaf_text {f : Addr} {fd : FuncData} (F : Fun K "leaf_text" "leaf_text" (top 21) f fd) (T : Txt K mg aN aE aR) (k_escaped : Kn0 P w K mg base "escaped" 1 ["value"] R_escaped) : FnOk P w K mg base CX0 2 f fd ["pairs"] (Pr K (NoX R_leaf_text)) := by
  have sc := sc_leaf_text
  refine okD F sc (fun ds os PP ⟨s, e, _⟩ => by rw [e]; rfl) ?_
  apply Exists.intro
  apply And.intro
  · intro cdv A outer s H hr
    have hu := hr.units
    have hu0 : (A.deeper (envOfC "leaf_text" (defScope (top 21)) s.heap.objs.size f cdv)).units + 1 < cLine := by omega
    exact (pb_one (sx_ret (px_m1 PySem.F.slot_str_join PySem.F.type_str_join mt_join l_join (px_str [43]) (px_lc (own := [("word", 1), ("value", 2)]) (own2 1 2 (by decide)) rfl sc.nd (DL.ix_list (px_var 0)) (blkOk_by (N := ["pairs", "word", "value"]) (sc := defScope (top 21)) (by decide +kernel)) (fun _ _ _ _ _ => pg_tup rfl (pgs_cons (pg_name (i := 1) sc.nd rfl (Or.inl rfl)) (pgs_cons (pg_name (i := 2) sc.nd rfl (Or.inl rfl)) pgs_nil rfl) rfl) rfl rfl) (fun _ _ _ _ _ => pxts_nil) (fun _ _ _ _ _ => (px_op op_add_str l_addS (px_op op_add_str l_addS (px_var 1) (px_str [61])) (px_call0 k_escaped (hr.mono (by decide)) (pxa_cons (px_var 2) pxa_nil))))))))
  · rintro ds os PP ⟨l, rfl, hg, k⟩ hx
    have hl := hg.len
    have hs := leaf_sum l 0 hg.sz
    refine s_ret (d := .str (leafText l)) ?_ ⟨os, List.Sublist.refl _, k⟩
    refine ev_m1 ev_c (evd_eq (ev_lc' (l := l) (enc := pairD) (g := fun p => .str (pairText p)) (ei_list ev_var) rfl (by omega) fun p hp => ⟨_, eg_tup (eg_cons eg_name (eg_cons eg_name eg_nil)), rfl, rfl, evd_eq (ev_op (ev_op ev_var ev_c (v_addS ?_)) (ev_fn p.2 (ev_cons ev_var ev_nil) ?_) (v_addS ?_)) ?_⟩) (b := .lst (strsD (l.map pairText))) ?_) (v_join ?_)
    · have := (hg.sz p hp).1
      simp only [List.length_cons, List.length_nil]; omega
    · have := (hg.sz p hp).2
      omega
    · have := hg.sz p hp
      have h3 := esc_len p.2
      simp only [List.length_append, List.length_cons, List.length_nil]; omega
    · unfold pairText; simp
    · unfold strsD; rw [List.map_map]; rfl
    · rw [List.length_map]; simp only [List.length_cons, List.length_nil]; omega
theorem sc_normal_leaf : FnScope ["pairs", "word", "value"] ["pairs"] (defScope (top 22)) := ⟨rfl, rfl, rfl, by decide +kernel, rfl, by decide +kernel, by decide +kernel⟩
theorem ok_normal_leaf {f : Addr} {fd : FuncData} (F : Fun K "normal_leaf" "normal_leaf" (top 22) f fd) (T : Txt K mg aN aE aR) (k_leaf_text : Kn0 P w K mg base "leaf_text" 2 ["pairs"] R_leaf_text) (k_plain_text : Kn0 P w K mg base "plain_text" 1 ["value"] R_plain_text) : FnOk P w K mg base CX0 3 f fd ["pairs"] (Pr K (NoX R_normal_leaf)) := by
  have sc := sc_normal_leaf
  refine okD F sc (fun ds os PP ⟨s, e, _⟩ => by rw [e]; rfl) ?_
  apply Exists.intro
  apply And.intro
  · intro cdv A outer s H hr
    have hu := hr.units
    have hu0 : (A.deeper (envOfC "normal_leaf" (defScope (top 22)) s.heap.objs.size f cdv)).units + 1 < cLine := by omega
    exact (pb_one (sx_ret (px_call0 k_leaf_text (hr.mono (by decide)) (pxa_cons (px_cb (cr_sortedP2 hu) l_sortP T.n_sorted (by decide +kernel) (pxa_cons (px_lc (own := [("word", 1), ("value", 2)]) (own2 1 2 (by decide)) rfl sc.nd (DL.ix_tup (px_var 0)) (blkOk_by (N := ["pairs", "word", "value"]) (sc := defScope (top 22)) (by decide +kernel)) (fun _ _ _ _ _ => pg_tup rfl (pgs_cons (pg_name (i := 1) sc.nd rfl (Or.inl rfl)) (pgs_cons (pg_name (i := 2) sc.nd rfl (Or.inl rfl)) pgs_nil rfl) rfl) rfl rfl) (fun _ _ _ _ _ => pxts_nil) (fun _ _ _ _ _ => (px_tup (pxa_cons (px_var 1) (pxa_cons (px_call0 k_plain_text (hr.mono (by decide)) (pxa_cons (px_var 2) pxa_nil)) pxa_nil))))) pxa_nil)) pxa_nil))))
  · rintro ds os PP ⟨l, rfl, hg, k⟩ hx
    have hl := hg.len
    refine s_ret (d := .str (normText l)) ?_ ⟨os, List.Sublist.refl _, k⟩
    refine ev_fn (normPairs l) (ev_cons (ev_cb (ev_cons (evd_eq (ev_lc' (l := l) (enc := pairD) (g := fun p => .tup [.str p.1, .str (plainText p.2)]) (ei_tup ev_var) rfl (by omega) fun p hp => ⟨_, eg_tup (eg_cons eg_name (eg_cons eg_name eg_nil)), rfl, rfl, ev_tup (ev_cons ev_var (ev_cons (ev_fn p.2 (ev_cons ev_var ev_nil) ?_) ev_nil)) (by simp)⟩) (b := .lst (pairsD (l.map fun p => (p.1, plainText p.2)))) ?_) ev_nil) (v_sortP (.inl rfl))) ev_nil) (normPairs_ok hg)
    · have := plain_len (hg.vl p hp)
      omega
    · unfold pairsD; rw [List.map_map]; rfl
theorem sc_order_of : FnScope ["leaves", "pairs"] ["leaves"] (defScope (top 23)) := ⟨rfl, rfl, rfl, by decide +kernel, rfl, by decide +kernel, by decide +kernel⟩
theorem ok_order_of {f : Addr} {fd : FuncData} (F : Fun K "order_of" "order_of" (top 23) f fd) (T : Txt K mg aN aE aR) (k_normal_leaf : Kn0 P w K mg base "normal_leaf" 3 ["pairs"] R_normal_leaf) : FnOk P w K mg base CX0 4 f fd ["leaves"] (Pr K (NoX R_order_of)) := by
  have sc := sc_order_of
  refine okD F sc (fun ds os PP ⟨s, e, _⟩ => by rw [e]; rfl) ?_
  apply Exists.intro
  apply And.intro
  · intro cdv A outer s H hr
    have hu := hr.units
    have hu0 : (A.deeper (envOfC "order_of" (defScope (top 23)) s.heap.objs.size f cdv)).units + 1 < cLine := by omega
    exact (pb_one (sx_ret (px_ct call_tuple_of l_tupOf T.n_tuple (by decide +kernel) (pxa_cons (px_lc (own := [("pairs", 1)]) (own1 1) rfl sc.nd (DL.ix_tup (px_revT (px_var 0))) (blkOk_by (N := ["leaves", "pairs"]) (sc := defScope (top 23)) (by decide +kernel)) (fun _ _ _ _ _ => pg_name (i := 1) sc.nd rfl (Or.inl rfl)) (fun _ _ _ _ _ => pxts_nil) (fun _ _ _ _ _ => (px_call0 k_normal_leaf (hr.mono (by decide)) (pxa_cons (px_var 1) pxa_nil)))) pxa_nil))))
  · rintro ds os PP ⟨L, rfl, hg, k⟩ hx
    have hl := hg.len
    refine s_ret (d := orderD L) ?_ ⟨os, List.Sublist.refl _, k⟩
    refine ev_cb (ev_cons (evd_eq (ev_lc' (l := L.reverse) (enc := leafD) (g := fun l => .str (normText l)) (ei_tup (ev_revT ev_var)) ?_ (by rw [List.length_reverse]; omega) fun l hl => ⟨_, eg_name, rfl, rfl, ev_fn l (ev_cons ev_var ev_nil) (hg.lf l (List.mem_reverse.mp hl))⟩) (b := .lst (strsD (L.reverse.map normText))) ?_) ev_nil) v_tupOf
    · rw [List.map_reverse]
    · unfold strsD; rw [List.map_map]; rfl
end
end K86

set_option Elab.async false
set_option linter.all false
set_option maxRecDepth 100000
set_option maxHeartbeats 2000000
namespace K86
open PySem PySem.Spec PyProof PyProof.Rows L2 TL DL
local macro_rules | `(tactic| walk_at "ev") => `(tactic| repeat' (with_reducible first
  | apply ev_c | (apply ev_var; with_unfolding_all exact rfl) | exact v_isStr | apply ev_op | apply ev_test | apply ev_and | apply ev_or | apply ev_not | apply ev_andV | apply ev_orV | apply ev_notV
  | apply ev_ifS | apply ev_ifI | apply ev_chain | apply ev_nil | apply ev_cons | apply ev_tup | apply ev_lst | apply ev_cb | apply ev_m0 | apply ev_m1 | apply ev_m2 | apply ev_sl | apply ev_noPart | apply ev_part | apply ev_revT | apply ev_yes
  | apply v_I0 | apply v_I | apply v_addS | apply v_eqS | apply v_eqI | apply v_eqB | apply v_neS | apply v_neI | apply v_inS | apply v_notInS | apply v_isN0 | apply v_isNS | apply v_isNT | apply v_notN0 | apply v_notNS | apply v_notNT
  | apply v_lenS | apply v_lenL | apply v_lenT | apply v_all | apply v_any | apply v_int1 | apply v_intb | apply v_max2 | apply v_min2 | apply v_join | apply v_split | apply v_part | apply v_lower | apply v_starts | apply v_find | apply v_slS | apply v_slT
  | apply ei_list | apply ei_tup | apply ei_str | apply ei_range1 | apply ei_enumS | apply eg_name | apply eg_nil | apply eg_cons | apply eg_tup
  | (intro _)))

/-! ### Name -/
def nameNs : List Str := ["own_text", "own_leaves", "own_order"]
def nameObj (aN : Addr) (L : List (List Pr2)) : D := .obj aN nameNs [.str (nameText L), nameD L, orderD L]
def R_Name_init (aN : Addr) : DF := fun ds os P => ∃ L p, ds = [.raw (.ref p), .str (nameText L)] ∧ GoodName L ∧ os = [⟨p, .obj aN [] []⟩] ∧ P.ok .non [⟨p, nameObj aN L⟩]
abbrev R_Name_text (aN : Addr) : DF := DL.Fn (fun L : List (List Pr2) => [nameObj aN L]) (fun _ => True) fun L => .str (nameText L)
def R_need_name (aN : Addr) : DF := fun ds os P => ∃ L, GoodName L ∧ (ds = [.str (nameText L)] ∨ ds = [nameObj aN L]) ∧ P.ok (nameObj aN L) os
section
variable {P : Program} {w : World} {K : PySem.W.Frag} {mg : Str → Option Value} {base : Heap} {aN aE aR : Addr}
theorem sc_Name___init__ : FnScope ["self", "text", "leaves"] ["self", "text"] (defScope (inClass (top 26) 0)) := ⟨rfl, rfl, rfl, by decide +kernel, rfl, by decide +kernel, by decide +kernel⟩
theorem ok_Name___init__ {f : Addr} {fd : FuncData} (F : FunD K "__init__" "Name.__init__" (defArgs (inClass (top 26) 0)) (defBody (inClass (top 26) 0)) (defScope (inClass (top 26) 0)) [V.str ⟨#[]⟩] [] f fd) (T : Txt K mg aN aE aR) (k_read_name : Kn0 P w K mg base "read_name" 3 ["text"] R_read_name) (k_order_of : Kn0 P w K mg base "order_of" 4 ["leaves"] R_order_of) : FnOk P w K mg base CX0 5 f fd ["self", "text"] (Pr K (NoX (R_Name_init aN))) := by
  have sc := sc_Name___init__
  refine okDD F sc (fun ds os PP ⟨L, p, e, _⟩ => by rw [e]; rfl) ?_
  apply Exists.intro
  apply And.intro
  · intro cdv A outer s H hr
    have hu := hr.units
    have hu0 : (A.deeper (envOfC "Name.__init__" (defScope (inClass (top 26) 0)) s.heap.objs.size f cdv)).units + 1 < cLine := by omega
    exact (pb_cons (sx_set 2 sc.nd (px_call0 k_read_name (hr.mono (by decide)) (pxa_cons (px_var 1) pxa_nil)))
      (pb_cons (sx_if (DL.pt_cmp op_isN l_isN (px_var 2) px_non) (pb_one sx_never) pb_nil)
      (pb_cons (sx_fld T.c_Name T.na_Name_own_text (px_var 0) (px_var 1))
      (pb_cons (sx_fld T.c_Name T.na_Name_own_leaves (px_var 0) (px_var 2))
      (pb_one (sx_fld T.c_Name T.na_Name_own_order (px_var 0) (px_call0 k_order_of (hr.mono (by decide)) (pxa_cons (px_var 2) pxa_nil))))))))
  · rintro ds os PP ⟨L, p, rfl, hg, rfl, k⟩ hx
    refine q_set (ev_fn L (ev_cons ev_var ev_nil) hg) eg_name ?_
    refine q_if (b := false) (ev_test (ev_op ev_var ev_c (v_isN rfl))) (fun h => by cases h) fun _ => ?_
    refine q_next ?_
    refine q_fld (l := []) ev_var ev_var rfl (by decide) ?_
    refine q_fld (l := []) ev_var ev_var rfl (by decide) ?_
    refine s_fld (l := []) (ev_fn L (ev_cons ev_var ev_nil) hg) ev_var rfl (by decide) ?_
    exact ⟨_, List.Sublist.refl _, k⟩
theorem sc_Name_text : FnScope ["self"] ["self"] (defScope (inClass (top 26) 2)) := ⟨rfl, rfl, rfl, by decide +kernel, rfl, by decide +kernel, by decide +kernel⟩
theorem ok_Name_text {f : Addr} {fd : FuncData} (F : Fun K "text" "Name.text" (inClass (top 26) 2) f fd) (T : Txt K mg aN aE aR) : FnOk P w K mg base CX0 1 f fd ["self"] (Pr K (NoX (R_Name_text aN))) := by
  have sc := sc_Name_text
  refine okD F sc (fun ds os PP ⟨L, e, _⟩ => by rw [e]; rfl) ?_
  apply Exists.intro
  apply And.intro
  · intro cdv A outer s H hr
    have hu := hr.units
    have hu0 : (A.deeper (envOfC "Name.text" (defScope (inClass (top 26) 2)) s.heap.objs.size f cdv)).units + 1 < cLine := by omega
    exact (pb_one (sx_ret (px_fld T.c_Name T.na_Name_own_text (px_var 0))))
  · rintro ds os PP ⟨L, rfl, _, k⟩ hx
    exact s_ret (ev_fld (k := 0) ev_var (.inl rfl) rfl rfl) ⟨os, List.Sublist.refl _, k⟩
theorem sc_need_name : FnScope ["value"] ["value"] (defScope (top 28)) := ⟨rfl, rfl, rfl, by decide +kernel, rfl, by decide +kernel, by decide +kernel⟩
theorem ok_need_name {f : Addr} {fd : FuncData} (F : Fun K "need_name" "need_name" (top 28) f fd) (T : Txt K mg aN aE aR) (i_Name : KnI P w K mg base CX0 "Name" aN 5 ["self", "text"] (NoX (R_Name_init aN))) : FnOk P w K mg base CX0 7 f fd ["value"] (Pr K (NoX (R_need_name aN))) := by
  have sc := sc_need_name
  refine okD F sc (fun ds os PP ⟨L, _, e, _⟩ => by rcases e with e | e <;> (rw [e]; rfl)) ?_
  apply Exists.intro
  apply And.intro
  · intro cdv A outer s H hr
    have hu := hr.units
    have hu0 : (A.deeper (envOfC "need_name" (defScope (top 28)) s.heap.objs.size f cdv)).units + 1 < cLine := by omega
    exact (pb_cons (sx_if (pt_v (px_cb call_isi (l_isO (K := K)) T.n_isinstance boot_isinstance (pxa_cons (px_var 0) (pxa_cons (px_gref T.a_Name) pxa_nil)))) (pb_one (sx_ret (px_var 0))) pb_nil)
      (pb_one (sx_ret (px_make_0 i_Name (hr.mono (by decide)) (pxa_cons (px_var 0) pxa_nil)))))
  · rintro ds os PP ⟨L, hg, e | e, k⟩ hx
    · subst e
      refine q_if (b := false) (ev_test (ev_cb (ev_cons ev_var (ev_cons ev_c ev_nil)) (v_isO (x := .str (nameText L)) (t := .type "str") rfl T.ks_Name))) (fun h => by cases h) fun _ => ?_
      refine q_next ?_
      refine (show dRet _ _ _ from ?_)
      refine (ev_cons ev_var ev_nil : EvA _ _ [.str (nameText L)]) _ ?_
      intro p hp
      exact ⟨L, p, rfl, hg, rfl, rfl, _, _, [], rfl, os, List.Sublist.refl _, k⟩
    · subst e
      refine q_if (b := true) (ev_test (ev_cb (ev_cons ev_var (ev_cons ev_c ev_nil)) (v_isOself T.s_Name))) (fun _ => ?_) (fun h => by cases h)
      exact s_ret (ev_var) ⟨os, List.Sublist.refl _, k⟩
end
end K86

set_option Elab.async false
set_option linter.all false
set_option maxRecDepth 100000
set_option maxHeartbeats 2000000
namespace K86
open PySem PySem.Spec PyProof PyProof.Rows L2 TL DL

def strP (s : List Nat) : PyData := .str (mkS s)
theorem str_beq (s t : List Nat) : (mkS s == mkS t) = decide (s = t) := by
  by_cases h : s = t
  · subst h; simp
  · have : mkS s ≠ mkS t := fun z => h (mkS_inj.mp z)
    rw [decide_eq_false h]
    exact beq_eq_false_iff_ne.mpr this
theorem eqv_str (s t : List Nat) : PyData.eqv (strP s) (strP t) = decide (s = t) := by
  show PyData.eqv (.str _) (.str _) = _
  rw [PyData.eqv]
  exact str_beq s t
theorem eqvAll_map {α : Type} [DecidableEq α] {f : α → PyData} (h : ∀ x y, PyData.eqv (f x) (f y) = decide (x = y)) : ∀ l m : List α, PyData.eqvAll (l.map f) (m.map f) = decide (l = m)
  | [], [] => rfl
  | [], _ :: _ => rfl
  | _ :: _, [] => rfl
  | x :: l, y :: m => by
    rw [List.map_cons, List.map_cons, PyData.eqvAll, h, eqvAll_map h l m]
    by_cases h1 : x = y
    · by_cases h2 : l = m
      · simp [h1, h2]
      · simp [h1, h2]
    · simp [h1]
def tupP (l : List (List Nat)) : PyData := .tuple (l.map strP)
theorem eqv_tup (l m : List (List Nat)) : PyData.eqv (tupP l) (tupP m) = decide (l = m) := by
  show PyData.eqv (.tuple _) (.tuple _) = _
  rw [PyData.eqv]
  exact eqvAll_map eqv_str l m
theorem lay_map {α : Type} {f : α → PyData} : ∀ l : List α, (∀ x ∈ l, (f x).canLay0 = true) → PyData.canLayAll0 (l.map f) = true
  | [], _ => rfl
  | x :: l, h => by rw [List.map_cons, PyData.canLayAll0, h x (by simp), lay_map l fun y hy => h y (by simp [hy])]; rfl
theorem depth_map {α : Type} {f : α → PyData} {n : Nat} (h : ∀ x, (f x).depth ≤ n) : ∀ l : List α, PyData.depthAll (l.map f) ≤ n
  | [] => by simp [PyData.depthAll]
  | x :: l => by
    rw [List.map_cons, PyData.depthAll]
    have := h x
    have := depth_map h l
    omega
def charsOk (s : List Nat) : Prop := ∀ c ∈ s, c < 128
theorem strOk_of {s : List Nat} (h : charsOk s) : (strP s).canLay0 = true := by
  show PyData.canLay0 (.str (mkS s)) = true
  rw [PyData.canLay0]
  unfold PyData.strOk
  rw [← Array.all_toList, List.all_eq_true]
  intro c hc
  have := h c hc
  exact decide_eq_true (by omega)
theorem tup_shaped {l : List (List Nat)} (h : ∀ s ∈ l, charsOk s) : SeqAt.shaped (tupP l) = true := by
  unfold SeqAt.shaped tupP
  rw [PyData.canLay0, lay_map l fun s hs => strOk_of (h s hs)]
  have : PyData.depthAll (l.map strP) ≤ 0 := depth_map (n := 0) (fun s => by show PyData.depth (.str _) ≤ 0; rw [PyData.depth]; exact Nat.le_refl _) l
  rw [PyData.depth]
  simp; omega
end K86

set_option Elab.async false
set_option linter.all false
set_option maxRecDepth 100000
set_option maxHeartbeats 2000000
namespace K86
open PySem PySem.Spec PyProof PyProof.Rows L2 TL DL
local macro_rules | `(tactic| walk_at "ev") => `(tactic| repeat' (with_reducible first
  | apply ev_c | (apply ev_var; with_unfolding_all exact rfl) | exact v_isStr | apply ev_op | apply ev_test | apply ev_and | apply ev_or | apply ev_not | apply ev_andV | apply ev_orV | apply ev_notV
  | apply ev_ifS | apply ev_ifI | apply ev_chain | apply ev_nil | apply ev_cons | apply ev_tup | apply ev_lst | apply ev_cb | apply ev_m0 | apply ev_m1 | apply ev_m2 | apply ev_sl | apply ev_noPart | apply ev_part | apply ev_revT | apply ev_yes
  | apply v_I0 | apply v_I | apply v_addS | apply v_eqS | apply v_eqI | apply v_eqB | apply v_neS | apply v_neI | apply v_inS | apply v_notInS | apply v_isN0 | apply v_isNS | apply v_isNT | apply v_notN0 | apply v_notNS | apply v_notNT
  | apply v_lenS | apply v_lenL | apply v_lenT | apply v_all | apply v_any | apply v_int1 | apply v_intb | apply v_max2 | apply v_min2 | apply v_join | apply v_split | apply v_part | apply v_lower | apply v_starts | apply v_find | apply v_slS | apply v_slT
  | apply ei_list | apply ei_tup | apply ei_str | apply ei_range1 | apply ei_enumS | apply eg_name | apply eg_nil | apply eg_cons | apply eg_tup
  | (intro _)))

/-! ### tables -/
abbrev Tab := List (List Nat × List (List Nat))
def tupS (l : List (List Nat)) : D := .tup (strsD l)
def tabD (T : Tab) : D := .dct (T.map Prod.fst) (T.map fun x => tupS x.2)
def look (T : Tab) (k : List Nat) : List (List Nat) := ((T.find? fun x => x.1 == k).map Prod.snd).getD []
def sortT (T : Tab) : Tab := (sortK (T.map Prod.fst)).map fun k => (k, look T k)
structure GoodTab (T : Tab) : Prop where
  nd : (T.map Prod.fst).Nodup
  wd : ∀ x ∈ T, isWordL x.1 = true
  ne : ∀ x ∈ T, x.2 ≠ []
  cnt : ∀ x ∈ T, x.2.length ≤ 50
  sz : ∀ x ∈ T, ∀ v ∈ x.2, v.length ≤ 1000
  vl : ∀ x ∈ T, ∀ v ∈ x.2, isValueL v = true
  ch : ∀ x ∈ T, ∀ v ∈ x.2, charsOk v
  len : T.length < 64
theorem dlook_tab : ∀ (T : Tab) (k : List Nat), dlook (T.map Prod.fst) (T.map fun x => tupS x.2) k = (T.find? fun x => x.1 == k).map fun x => tupS x.2
  | [], _ => rfl
  | x :: T, k => by
    unfold dlook kix
    rw [List.map_cons, List.map_cons, List.findIdx?_cons, List.find?_cons]
    cases h : x.1 == k with
    | true => rfl
    | false =>
      simp only [Bool.false_eq_true, if_false]
      have ih := dlook_tab T k
      unfold dlook kix at ih
      rw [← ih]
      cases List.findIdx? (fun x => x == k) (List.map Prod.fst T) with
      | none => rfl
      | some j => rfl
theorem find_mem {T : Tab} {k : List Nat} (h : k ∈ T.map Prod.fst) : ∃ x ∈ T, x.1 = k ∧ (T.find? fun x => x.1 == k) = some x := by
  obtain ⟨x, hx, e⟩ := List.mem_map.mp h
  have : (T.find? fun x => x.1 == k).isSome = true := by
    rw [List.find?_isSome]
    exact ⟨x, hx, by simpa using e⟩
  obtain ⟨y, hy⟩ := Option.isSome_iff_exists.mp this
  refine ⟨y, List.mem_of_find?_eq_some hy, by simpa using List.find?_some hy, hy⟩
theorem dlook_is {T : Tab} {k : List Nat} (h : k ∈ T.map Prod.fst) : dlook (T.map Prod.fst) (T.map fun x => tupS x.2) k = some (tupS (look T k)) := by
  obtain ⟨x, _, _, e⟩ := find_mem h
  rw [dlook_tab, e]
  unfold look
  rw [e]
  rfl
theorem look_mem {T : Tab} {x : List Nat × List (List Nat)} (nd : (T.map Prod.fst).Nodup) (h : x ∈ T) : look T x.1 = x.2 := by
  obtain ⟨y, hy, e1, e2⟩ := find_mem (T := T) (k := x.1) (List.mem_map_of_mem h)
  unfold look
  rw [e2]
  have : y = x := by
    clear e2
    induction T with
    | nil => cases h
    | cons z T ih =>
      obtain ⟨n1, n2⟩ := List.nodup_cons.mp nd
      rcases List.mem_cons.mp h with q | q
      · rcases List.mem_cons.mp hy with r | r
        · rw [q, r]
        · exact absurd (by rw [← q, ← e1]; exact List.mem_map_of_mem r) n1
      · rcases List.mem_cons.mp hy with r | r
        · exact absurd (by rw [← r, e1]; exact List.mem_map_of_mem q) n1
        · exact ih n2 q r
  rw [this]
  rfl
theorem sortT_mem {T : Tab} {x : List Nat × List (List Nat)} (nd : (T.map Prod.fst).Nodup) : x ∈ sortT T ↔ x ∈ T := by
  unfold sortT
  constructor
  · intro h
    obtain ⟨k, hk, e⟩ := List.mem_map.mp h
    obtain ⟨y, hy, e1, _⟩ := find_mem ((sortK_perm _).mem_iff.mp hk)
    rw [← e, ← e1, look_mem nd hy]
    exact hy
  · intro h
    refine List.mem_map.mpr ⟨x.1, (sortK_perm _).mem_iff.mpr (List.mem_map_of_mem h), ?_⟩
    rw [look_mem nd h]
theorem sortT_keys (T : Tab) : (sortT T).map Prod.fst = sortK (T.map Prod.fst) := by
  unfold sortT
  rw [List.map_map]
  conv => rhs; rw [← List.map_id (sortK (T.map Prod.fst))]
  rfl
theorem sortT_good {T : Tab} (h : GoodTab T) : GoodTab (sortT T) := by
  have hm := fun x => sortT_mem (x := x) h.nd
  refine ⟨?_, fun x hx => h.wd x ((hm x).mp hx), fun x hx => h.ne x ((hm x).mp hx), fun x hx => h.cnt x ((hm x).mp hx), fun x hx => h.sz x ((hm x).mp hx), fun x hx => h.vl x ((hm x).mp hx), fun x hx => h.ch x ((hm x).mp hx), ?_⟩
  · rw [sortT_keys]; exact (sortK_perm _).nodup_iff.mpr h.nd
  · have e : (sortT T).length = T.length := by
      unfold sortT
      rw [List.length_map, (sortK_perm _).length_eq, List.length_map]
    rw [e]; exact h.len
/-! no locks in it -/
theorem unL_strs : ∀ l : List (List Nat), unLs (strsD l) = strsD l
  | [] => rfl
  | _ :: l => by show unLs (_ :: strsD l) = _; rw [unLs, unL_strs l]; rfl
theorem unL_tupS (l : List (List Nat)) : unL (tupS l) = tupS l := by unfold tupS; rw [unL, unL_strs]
theorem unL_map {α : Type} {f : α → D} (h : ∀ x, unL (f x) = f x) : ∀ l : List α, unLs (l.map f) = l.map f
  | [] => rfl
  | x :: l => by rw [List.map_cons, unLs, h, unL_map h l]
theorem unL_tab (T : Tab) : unL (tabD T) = tabD T := by unfold tabD; rw [unL, unL_map fun x => unL_tupS x.2]
theorem unL_leaf (l : List Pr2) : unL (leafD l) = leafD l := by unfold leafD; rw [unL, unL_map fun p => rfl]
theorem unL_name (L : List (List Pr2)) : unL (nameD L) = nameD L := by unfold nameD; rw [unL, unL_map unL_leaf]
theorem unL_order (L : List (List Pr2)) : unL (orderD L) = orderD L := by unfold orderD; rw [unL, unL_strs]
theorem unL_nameObj (a : Addr) (L : List (List Pr2)) : unL (nameObj a L) = nameObj a L := by
  unfold nameObj
  rw [unL, unLs, unLs, unLs, unLs, unL_name, unL_order]
  rfl
/-- defs that walk a dict under a lock: no cells -/
def FnN {α : Type} (enc : α → List D) (pr : α → Prop) (out : α → D) : DF := fun ds os P => os = [] ∧ ∃ x, ds = enc x ∧ pr x ∧ P.ok (out x) os
theorem ev_fnN {ρ : Rho} {u : DA} {α : Type} {enc : α → List D} {pr : α → Prop} {out : α → D} (a : α) (h : EvA u ρ (enc a)) (p : pr a) : EvD (dCall0 (FnN enc pr out) u) ρ (out a) := fun P q => h _ ⟨rfl, a, rfl, p, q⟩
theorem ei_items {ρ : Rho} {te : DX} {ks : List (List Nat)} {ds : List D} (h : EvD te ρ (.ldct ks ds)) : EvA (dItemsI te) ρ (itemsD ks ds) := fun P p => h _ ⟨ks, ds, rfl, p⟩
theorem ei_keys {ρ : Rho} {te : DX} {ks : List (List Nat)} {ds : List D} (h : EvD te ρ (.ldct ks ds)) : EvA (dKeysI te) ρ (strsD ks) := fun P p => h _ ⟨ks, ds, rfl, p⟩
theorem items_tab (T : Tab) : itemsD (T.map Prod.fst) (T.map fun x => tupS x.2) = T.map fun x => D.tup [.str x.1, tupS x.2] := by
  unfold itemsD
  induction T with
  | nil => rfl
  | cons x T ih => simp only [List.map_cons, List.zip_cons_cons]; rw [ih]
theorem toPy_strs : ∀ l : List (List Nat), toPys (strsD l) = some (l.map fun s => .str (mkS s))
  | [] => rfl
  | s :: l => by
    show toPys (.str s :: strsD l) = _
    rw [toPys, toPy_strs l]
    rfl
abbrev R_need_table : DF := FnN (fun T : Tab => [tabD T]) GoodTab fun T => tabD (sortT T)
section
variable {P : Program} {w : World} {K : PySem.W.Frag} {mg : Str → Option Value} {base : Heap} {aN aE aR : Addr}
theorem sc_need_table : FnScope ["attributes", "word", "values", "value"] ["attributes"] (defScope (top 30)) := ⟨rfl, rfl, rfl, by decide +kernel, rfl, by decide +kernel, by decide +kernel⟩
theorem ok_need_table {f : Addr} {fd : FuncData} (F : Fun K "need_table" "need_table" (top 30) f fd) (T : Txt K mg aN aE aR) (k_is_word : Kn0 P w K mg base "is_word" 1 ["value"] R_is_word) (k_is_value : Kn0 P w K mg base "is_value" 1 ["value"] R_is_value) : FnOk P w K mg base CX0 3 f fd ["attributes"] (Pr K (NoX R_need_table)) := by
  have sc := sc_need_table
  refine okD F sc (fun ds os PP ⟨_, s, e, _⟩ => by rw [e]; rfl) ?_
  apply Exists.intro
  apply And.intro
  · intro cdv A outer s H hr
    have hu := hr.units
    have hu0 : (A.deeper (envOfC "need_table" (defScope (top 30)) s.heap.objs.size f cdv)).units + 1 < cLine := by omega
    exact (pb_cons (sx_if (DL.pt_no (pt_v (px_cb call_isi (l_isB (K := K) (T := "dict")) T.n_isinstance boot_isinstance (pxa_cons (px_var 0) (pxa_cons (px_ty (T := "dict") T.n_dict (by decide +kernel)) pxa_nil))))) (pb_one sx_never) pb_nil)
      (pb_cons (sx_lockK (K := K) (sx_for PassesOwn.never rfl (DL.ix_items (px_var 0)) (gx_tup (n := 2) rfl (gxs_cons (gx_name 1 sc.nd) (gxs_cons (gx_name 2 sc.nd) gxs_nil))) (pb_one (sx_if (PXW.pt (ptw_or (DL.pt_no (pt_v (px_call0 k_is_word (hr.mono (by decide)) (pxa_cons (px_var 1) pxa_nil)))) (ptw_or (DL.pt_no (pt_v (px_cb call_isi (l_isB (K := K) (T := "tuple")) T.n_isinstance boot_isinstance (pxa_cons (px_var 2) (pxa_cons (px_ty (T := "tuple") T.n_tuple (by decide +kernel)) pxa_nil))))) (ptw_or1 (DL.pt_no (pt_v (px_cb (cr_all rfl) l_all T.n_all (by decide +kernel) (pxa_cons (px_lc (own := [("value", 3)]) (own1 3) rfl sc.nd (DL.ix_tup (px_var 2)) (blkOk_by (N := ["attributes", "word", "values", "value"]) (sc := defScope (top 30)) (by decide +kernel)) (fun _ _ _ _ _ => pg_name (i := 3) sc.nd rfl (Or.inl rfl)) (fun _ _ _ _ _ => pxts_nil) (fun _ _ _ _ _ => (px_call0 k_is_value (hr.mono (by decide)) (pxa_cons (px_var 3) pxa_nil)))) pxa_nil)))))))) (pb_one sx_never) pb_nil))))
      (pb_one (sx_ret (px_dc (own := [("word", 1)]) (own1 1) rfl sc.nd (DL.ix_list (px_cb (call_sortedD rfl) l_sortD T.n_sorted (by decide +kernel) (pxa_cons (px_var 0) pxa_nil))) (blkOk_by (N := ["attributes", "word", "values", "value"]) (sc := defScope (top 30)) (by decide +kernel)) (fun _ _ _ _ _ => pg_name (i := 1) sc.nd rfl (Or.inl rfl)) (fun _ _ _ _ _ => pxts_one (DL.pt_cmp (op_neD hu) l_neD (px_dget hu0 (px_var 0) (px_var 1)) (px_tup pxa_nil))) (fun _ _ _ _ _ => (px_var 1)) (fun _ _ _ _ _ => (px_dget hu0 (px_var 0) (px_var 1))))))))
  · rintro ds os PP ⟨rfl, T, rfl, hg, k⟩ hx
    have hlen := hg.len
    refine q_if (b := false) (evt_eq (ev_not (ev_test (ev_cb (ev_cons ev_var (ev_cons ev_c ev_nil)) v_isDct))) rfl) (fun h => by cases h) fun _ => ?_
    refine q_next ?_
    refine q_seq ⟨_, relk_slot (ks := T.map Prod.fst) (ds := T.map fun x => tupS x.2) 0 rfl, ?_⟩
    refine s_for (ei_items (ks := T.map Prod.fst) (ds := T.map fun x => tupS x.2) ev_var) (fun i ρ => ∃ a b c, ρ = ⟨[some (.ldct (T.map Prod.fst) (T.map fun x => tupS x.2)), a, b, c], [], fun _ => False⟩) ⟨none, none, none, rfl⟩ ?_ ?_
    · rintro i d ρ hd ⟨a, b, c, rfl⟩
      rw [items_tab, List.getElem?_map] at hd
      cases hc : T[i]? with
      | none => rw [hc] at hd; cases hd
      | some x =>
        rw [hc] at hd
        cases hd
        have hx : x ∈ T := List.mem_of_getElem? hc
        have hw := hg.wd x hx
        have hwl := word_len hw
        have hcnt := hg.cnt x hx
        refine eg_tup (eg_cons eg_name (eg_cons eg_name eg_nil)) rfl _ ?_
        refine s_if (b := false) (evt_eq (ev_or (b2 := false) (ev_not (ev_test (ev_fn x.1 (ev_cons ev_var ev_nil) (by omega)))) fun _ => evt_eq (ev_or (b1 := false) (evt_eq (ev_not (ev_test (ev_cb (ev_cons ev_var (ev_cons ev_c ev_nil)) v_isTup))) rfl) fun _ => ev_not (ev_test (ev_cb (ev_cons (evd_eq (ev_lc' (l := x.2) (enc := D.str) (g := fun v => .bl (isValueL v)) (ei_tup ev_var) rfl (by omega) fun v hv => ⟨_, eg_name, rfl, rfl, ev_fn v (ev_cons ev_var ev_nil) trivial⟩) (b := .lst (bls (x.2.map isValueL))) ?_) ev_nil) v_all))) ?_) ?_) (fun h => by cases h) fun _ => ?_
        · unfold bls; rw [List.map_map]; rfl
        · have : (x.2.map isValueL).all id = true := by
            rw [List.all_map, List.all_eq_true]
            intro v hv
            exact hg.vl x hx v hv
          rw [this]; rfl
        · rw [hw]; rfl
        · exact s_next ⟨_, _, _, rfl⟩
    · rintro ρ ⟨a, b, c, rfl⟩
      dsimp only
      have keys_mem : ∀ k ∈ sortK (T.map Prod.fst), k ∈ T.map Prod.fst := fun k hk => (sortK_perm _).mem_iff.mp hk
      have e0 : unLs (T.map fun x => tupS x.2) = T.map fun x => tupS x.2 := unL_map (fun x => unL_tupS x.2) T
      have st : unlRho (start0 4 [tabD T] []) ⟨[some (.ldct (T.map Prod.fst) (T.map fun x => tupS x.2)), a, b, c], [], fun _ => False⟩ = ⟨[some (tabD T), a.map unL, b.map unL, c.map unL], [], fun _ => False⟩ := by
        unfold unlRho tabD
        simp only [List.map_cons, List.map_nil, Option.map_some, unL, e0]
        rfl
      have fin : EvD (dDc (dSeqI (dCB rdSortD (dCons (dVar 0) dNil))) (dgName 1) (dTest (dOp rdNeD (dGet (dVar 0) (dVar 1)) (dTup dNil))) (dVar 1) (dGet (dVar 0) (dVar 1))) ⟨[some (tabD T), a.map unL, b.map unL, c.map unL], [], fun _ => False⟩ (tabD (sortT T)) := by
        refine evd_eq (ev_dc (l := sortK (T.map Prod.fst)) (f := fun _ => true) (h := fun k => tupS (look T k)) (ei_list (ev_cb (ev_cons ev_var ev_nil) (v_sortD (ks := T.map Prod.fst) (.inl rfl) (by rw [List.length_map]; exact hlen)))) rfl ?_ ?_ fun k hk => ⟨_, eg_name, rfl, rfl, ?_, fun _ => ev_var, fun _ => ev_dget ev_var ev_var (.inl rfl) (dlook_is (keys_mem k hk))⟩) ?_
        · exact (sortK_perm _).nodup_iff.mpr hg.nd
        · rw [(sortK_perm _).length_eq, List.length_map]; omega
        · refine evt_eq (ev_test (ev_op (ev_dget ev_var ev_var (.inl rfl) (dlook_is (keys_mem k hk))) (ev_tup ev_nil (by simp)) (v_neD (p := tupP (look T k)) (q := tupP []) ?_ rfl ?_ rfl))) ?_
          · show (toPys (strsD (look T k))).map PyData.tuple = _
            rw [toPy_strs]; rfl
          · obtain ⟨y, hy, e1, _⟩ := find_mem (keys_mem k hk)
            rw [← e1, look_mem hg.nd hy]
            exact tup_shaped (hg.ch y hy)
          · obtain ⟨y, hy, e1, _⟩ := find_mem (keys_mem k hk)
            have hne : look T k ≠ [] := by
              rw [← e1, look_mem hg.nd hy]
              exact hg.ne y hy
            rw [eqv_tup, decide_eq_false hne]
            rfl
        · rw [List.filter_eq_self.mpr (fun _ _ => rfl)]
          unfold tabD
          rw [sortT_keys]
          unfold sortT
          rw [List.map_map]
          rfl
      have fin2 := fin
      rw [← st] at fin2
      exact s_ret fin2 ⟨[], List.Sublist.refl _, k⟩
end
end K86

set_option Elab.async false
set_option linter.all false
set_option maxRecDepth 100000
set_option maxHeartbeats 2000000
namespace K86
open PySem PySem.Spec PyProof PyProof.Rows L2 TL DL
local macro_rules | `(tactic| walk_at "ev") => `(tactic| repeat' (with_reducible first
  | apply ev_c | (apply ev_var; with_unfolding_all exact rfl) | exact v_isStr | apply ev_op | apply ev_test | apply ev_and | apply ev_or | apply ev_not | apply ev_andV | apply ev_orV | apply ev_notV
  | apply ev_ifS | apply ev_ifI | apply ev_chain | apply ev_nil | apply ev_cons | apply ev_tup | apply ev_lst | apply ev_cb | apply ev_m0 | apply ev_m1 | apply ev_m2 | apply ev_sl | apply ev_noPart | apply ev_part | apply ev_revT | apply ev_yes
  | apply v_I0 | apply v_I | apply v_addS | apply v_eqS | apply v_eqI | apply v_eqB | apply v_neS | apply v_neI | apply v_inS | apply v_notInS | apply v_isN0 | apply v_isNS | apply v_isNT | apply v_notN0 | apply v_notNS | apply v_notNT
  | apply v_lenS | apply v_lenL | apply v_lenT | apply v_all | apply v_any | apply v_int1 | apply v_intb | apply v_max2 | apply v_min2 | apply v_join | apply v_split | apply v_part | apply v_lower | apply v_starts | apply v_find | apply v_slS | apply v_slT
  | apply ei_list | apply ei_tup | apply ei_str | apply ei_range1 | apply ei_enumS | apply eg_name | apply eg_nil | apply eg_cons | apply eg_tup
  | (intro _)))

/-! ### Entry -/
def entNs : List Str := ["own_name", "own_table", "own_key"]
def rowD (x : List Nat × List (List Nat)) : D := .tup [.str x.1, tupS x.2]
def keyD (L : List (List Pr2)) (T : Tab) : D := .tup [.str (nameText L), .tup (T.map rowD)]
def entObj (aN aE : Addr) (L : List (List Pr2)) (T : Tab) : D := .obj aE entNs [nameObj aN L, tabD T, keyD L T]
def nameOr (aN : Addr) (L : List (List Pr2)) (d : D) : Prop := d = .str (nameText L) ∨ d = nameObj aN L
def R_Entry_init (aN aE : Addr) : DF := fun ds os P => ∃ L T p d, ds = [.raw (.ref p), d, tabD T] ∧ nameOr aN L d ∧ GoodName L ∧ GoodTab T ∧ os = [⟨p, .obj aE [] []⟩] ∧ P.ok .non [⟨p, entObj aN aE L (sortT T)⟩]
theorem ev_need_name {aN : Addr} {ρ : Rho} {u : DA} {d : D} (L : List (List Pr2)) (h : EvA u ρ [d]) (hd : nameOr aN L d) (hg : GoodName L) : EvD (dCall0 (R_need_name aN) u) ρ (nameObj aN L) := fun P p => h _ ⟨L, hg, hd.imp (fun e => by rw [e]) (fun e => by rw [e]), p⟩
theorem unL_nameOr {aN : Addr} {L : List (List Pr2)} {d : D} (h : nameOr aN L d) : unL d = d := by
  rcases h with h | h
  · rw [h]; rfl
  · rw [h]; exact unL_nameObj aN L
theorem unL_row (x : List Nat × List (List Nat)) : unL (rowD x) = rowD x := by
  unfold rowD
  rw [unL, unLs, unLs, unLs, unL_tupS]
  rfl
section
variable {P : Program} {w : World} {K : PySem.W.Frag} {mg : Str → Option Value} {base : Heap} {aN aE aR : Addr}
theorem sc_Entry___init__ : FnScope ["self", "entry_name", "attributes", "word"] ["self", "entry_name", "attributes"] (defScope (inClass (top 31) 0)) := ⟨rfl, rfl, rfl, by decide +kernel, rfl, by decide +kernel, by decide +kernel⟩
theorem ok_Entry___init__ {f : Addr} {fd : FuncData} (F : Fun K "__init__" "Entry.__init__" (inClass (top 31) 0) f fd) (T : Txt K mg aN aE aR) (k_need_name : Kn0 P w K mg base "need_name" 7 ["value"] (R_need_name aN)) (k_need_table : Kn0 P w K mg base "need_table" 3 ["attributes"] R_need_table) (p_Name_text : KnP P w K mg base CX0 aN "text" 1 ["self"] (NoX (R_Name_text aN))) : FnKw P w K mg base 8 f ["self", "entry_name"] (Pr K (NoX (R_Entry_init aN aE))) := by
  have sc := sc_Entry___init__
  obtain ⟨an, h5, ean⟩ : ∃ an, (defArgs (inClass (top 31) 0)).kwarg = some an ∧ an.arg = "attributes" := ⟨_, rfl, rfl⟩
  have sc' : FnScope ["self", "entry_name", "attributes", "word"] ((["self", "entry_name"] : List Str) ++ [an.arg]) (defScope (inClass (top 31) 0)) := by rw [ean]; exact sc
  refine okKw F sc' (by decide) rfl rfl rfl rfl h5 ?_
  apply Exists.intro
  apply And.intro
  · intro cdv A outer s H hr
    have hu := hr.units
    have hu0 : (A.deeper (envOfC "Entry.__init__" (defScope (inClass (top 31) 0)) s.heap.objs.size f cdv)).units + 1 < cLine := by omega
    exact (pb_cons (sx_fld T.c_Entry T.na_Entry_own_name (px_var 0) (px_call0 k_need_name (hr.mono (by decide)) (pxa_cons (px_var 1) pxa_nil)))
      (pb_cons (sx_fld T.c_Entry T.na_Entry_own_table (px_var 0) (px_call0 k_need_table (hr.mono (by decide)) (pxa_cons (px_var 2) pxa_nil)))
      (pb_one (sx_fld T.c_Entry T.na_Entry_own_key (px_var 0) (px_tup (pxa_cons (px_prop_0 p_Name_text (hr.mono (by decide)) (px_fld T.c_Entry T.na_Entry_own_name (px_var 0))) (pxa_cons (px_ct call_tuple_of l_tupOf T.n_tuple (by decide +kernel) (pxa_cons (px_lockK (K := K) (px_lc (own := [("word", 3)]) (own1 3) rfl sc.nd (DL.ix_keys (px_fld T.c_Entry T.na_Entry_own_table (px_var 0))) (blkOk_by (N := ["self", "entry_name", "attributes", "word"]) (sc := defScope (inClass (top 31) 0)) (by decide +kernel)) (fun _ _ _ _ _ => pg_name (i := 3) sc.nd rfl (Or.inl rfl)) (fun _ _ _ _ _ => pxts_nil) (fun _ _ _ _ _ => (px_tup (pxa_cons (px_var 3) (pxa_cons (px_dget hu0 (px_fld T.c_Entry T.na_Entry_own_table (px_var 0)) (px_var 3)) pxa_nil)))))) pxa_nil)) pxa_nil)))))))
  · rintro ds os PP ⟨L, T0, p, d, rfl, hd, hg, hT, rfl, k⟩ hx
    have hT2 := sortT_good hT
    refine q_fld (l := []) (ev_need_name L (ev_cons ev_var ev_nil) hd hg) ev_var rfl (by decide) ?_
    refine q_fld (l := []) (ev_fnN T0 (ev_cons ev_var ev_nil) hT) ev_var rfl (by decide) ?_
    have hk0 : ([nameObj aN L, tabD (sortT T0)] : List D)[1]? = some (.dct ((sortT T0).map Prod.fst) ((sortT T0).map fun x => tupS x.2)) := rfl
    refine s_fld (l := []) (d := keyD L (sortT T0)) (ns := ["own_name", "own_table"]) (ds := [nameObj aN L, tabD (sortT T0)]) (r := []) ?_ ev_var rfl (by decide) ?_
    · refine ev_tup (ev_cons (ev_prop L (ev_fld (k := 0) ev_var (sees_cell (l := []) rfl) rfl rfl) (.inl rfl) rfl trivial) (ev_cons (ev_cb (ev_cons (ev_lock (relk_cell (l := []) (r := []) 1 rfl hk0) (d := .lst ((sortT T0).map rowD)) (d' := .lst ((sortT T0).map rowD)) ?_ ?_ ?_) ev_nil) v_tupOf) ev_nil)) (by simp)
      · refine evd_eq (ev_lc' (l := (sortT T0).map Prod.fst) (enc := D.str) (g := fun w => .tup [.str w, tupS (look (sortT T0) w)]) (ei_keys (ks := (sortT T0).map Prod.fst) (ds := (sortT T0).map fun x => tupS x.2) (ev_fld (k := 1) ev_var (sees_cell (l := []) rfl) rfl rfl)) rfl ?_ fun w hw => ⟨_, eg_name, rfl, rfl, ev_tup (ev_cons ev_var (ev_cons (ev_dget (ks := (sortT T0).map Prod.fst) (xs := (sortT T0).map fun x => tupS x.2) (ev_fld (k := 1) ev_var (sees_cell (l := []) rfl) rfl rfl) ev_var (.inr (.inr ⟨_, _, rfl, rfl⟩)) (dlook_is hw)) ev_nil)) (by simp)⟩) ?_
        · have := hT2.len
          rw [List.length_map]; omega
        · rw [List.map_map]
          congr 1
          refine List.map_congr_left fun x hx => ?_
          show D.tup [.str x.1, tupS (look (sortT T0) x.1)] = rowD x
          rw [look_mem hT2.nd hx]
          rfl
      · rw [unL, unL_map unL_row]
      · have e1 : unL d = d := unL_nameOr hd
        have e2 : unL (tabD T0) = tabD T0 := unL_tab T0
        have e3 : unL (nameObj aN L) = nameObj aN L := unL_nameObj aN L
        have e4 : unLs ((sortT T0).map fun x => tupS x.2) = (sortT T0).map fun x => tupS x.2 := unL_map (fun x => unL_tupS x.2) _
        have c : Cell.unl ⟨p, .obj aE ["own_name", "own_table"] (([nameObj aN L, tabD (sortT T0)] : List D).set 1 (.ldct ((sortT T0).map Prod.fst) ((sortT T0).map fun x => tupS x.2)))⟩ = ⟨p, .obj aE ["own_name", "own_table"] [nameObj aN L, tabD (sortT T0)]⟩ := by
          unfold Cell.unl
          simp only [List.set_cons_succ, List.set_cons_zero, unL, unLs, e3, e4]
          rfl
        have sl : ([some (.raw (.ref p)), some d, some (tabD T0), none] : List (Option D)).map (Option.map unL) = [some (.raw (.ref p)), some d, some (tabD T0), none] := by
          simp only [List.map_cons, List.map_nil, Option.map_some, Option.map_none, e1, e2, unL]
        unfold unlRho
        refine congrArg (fun x => Rho.mk x _ _) ?_ |>.trans (congrArg (fun x => Rho.mk _ x _) ?_)
        · exact sl
        · exact congrArg (fun x => [x]) c
    · exact ⟨_, List.Sublist.refl _, k⟩
end
end K86

set_option Elab.async false
set_option linter.all false
set_option maxRecDepth 100000
set_option maxHeartbeats 2000000
namespace K86
open PySem PySem.Spec PyProof PyProof.Rows L2 TL DL
local macro_rules | `(tactic| walk_at "ev") => `(tactic| repeat' (with_reducible first
  | apply ev_c | (apply ev_var; with_unfolding_all exact rfl) | exact v_isStr | apply ev_op | apply ev_test | apply ev_and | apply ev_or | apply ev_not | apply ev_andV | apply ev_orV | apply ev_notV
  | apply ev_ifS | apply ev_ifI | apply ev_chain | apply ev_nil | apply ev_cons | apply ev_tup | apply ev_lst | apply ev_cb | apply ev_m0 | apply ev_m1 | apply ev_m2 | apply ev_sl | apply ev_noPart | apply ev_part | apply ev_revT | apply ev_yes
  | apply v_I0 | apply v_I | apply v_addS | apply v_eqS | apply v_eqI | apply v_eqB | apply v_neS | apply v_neI | apply v_inS | apply v_notInS | apply v_isN0 | apply v_isNS | apply v_isNT | apply v_notN0 | apply v_notNS | apply v_notNT
  | apply v_lenS | apply v_lenL | apply v_lenT | apply v_all | apply v_any | apply v_int1 | apply v_intb | apply v_max2 | apply v_min2 | apply v_join | apply v_split | apply v_part | apply v_lower | apply v_starts | apply v_find | apply v_slS | apply v_slT
  | apply ei_list | apply ei_tup | apply ei_str | apply ei_range1 | apply ei_enumS | apply eg_name | apply eg_nil | apply eg_cons | apply eg_tup
  | (intro _)))

theorem sortK_idem (ks : List (List Nat)) : sortK (sortK ks) = sortK ks :=
  List.Perm.eq_of_pairwise (fun a b _ _ h1 h2 => List.le_antisymm h1 h2) (sortK_pairwise _) (sortK_pairwise _) (sortK_perm _)
theorem sortT_idem {T : Tab} (h : GoodTab T) : sortT (sortT T) = sortT T := by
  have h2 := sortT_good h
  have e : sortT (sortT T) = (sortK ((sortT T).map Prod.fst)).map fun k => (k, look (sortT T) k) := rfl
  rw [e, sortT_keys, sortK_idem]
  conv => rhs; unfold sortT
  refine List.map_congr_left fun k hk => ?_
  have hk2 : k ∈ (sortT T).map Prod.fst := by rw [sortT_keys]; exact hk
  obtain ⟨x, hx, e1⟩ := List.mem_map.mp hk2
  rw [← e1, look_mem h2.nd hx, look_mem h.nd ((sortT_mem h.nd).mp hx)]
theorem word_not {y : List Nat} (h : isWordL y = true) : mkS y ∉ ((["self", "entry_name"] : List Str)) := by
  intro z
  have z : mkS y = "self" ∨ mkS y = "entry_name" := by simpa using z
  have hl := word_letters h
  rcases z with z | z
  · have e : y = [115, 101, 108, 102] := congrArg tl z
    rw [e] at h
    exact absurd h (by decide)
  · have e : y = [101, 110, 116, 114, 121, 95, 110, 97, 109, 101] := congrArg tl z
    rw [e] at hl
    exact absurd (hl 95 (by decide)) (by decide)
def R_Entry_of (aN aE : Addr) : DF := fun ds os P => ∃ L T d, ds = [.raw (.ref aE), d, tabD T] ∧ nameOr aN L d ∧ GoodName L ∧ GoodTab T ∧ P.ok (entObj aN aE L (sortT T)) os
structure Ent2 where
  L : List (List Pr2)
  T : Tab
abbrev R_Entry_name (aN aE : Addr) : DF := DL.Fn (fun x : Ent2 => [entObj aN aE x.L x.T]) (fun _ => True) fun x => nameObj aN x.L
abbrev R_Entry_words (aN aE : Addr) : DF := DL.Fn (fun x : Ent2 => [entObj aN aE x.L x.T]) (fun _ => True) fun x => tupS (x.T.map Prod.fst)
abbrev R_Entry_getitem (aN aE : Addr) : DF := DL.Fn (fun x : Ent2 × List Nat => [entObj aN aE x.1.L x.1.T, .str x.2]) (fun _ => True) fun x => tupS (look x.1.T x.2)
structure OkEnt (x : Ent2) : Prop where
  nm : charsOk (nameText x.L)
  ky : ∀ y ∈ x.T, charsOk y.1
  vl : ∀ y ∈ x.T, ∀ v ∈ y.2, charsOk v
def eqEnt (x y : Ent2) : Bool := decide (nameText x.L = nameText y.L) && decide (x.T = y.T)
abbrev R_Entry_eq (aN aE : Addr) : DF := DL.Fn (fun x : Ent2 × Ent2 => [entObj aN aE x.1.L x.1.T, entObj aN aE x.2.L x.2.T]) (fun x => OkEnt x.1 ∧ OkEnt x.2) fun x => .bl (eqEnt x.1 x.2)
def rowP (x : List Nat × List (List Nat)) : PyData := .tuple [strP x.1, tupP x.2]
def keyP (x : Ent2) : PyData := .tuple [strP (nameText x.L), .tuple (x.T.map rowP)]
theorem toPy_row (x : List Nat × List (List Nat)) : toPy (rowD x) = some (rowP x) := by
  unfold rowD tupS
  rw [toPy, toPys, toPys, toPys]
  rw [toPy, toPy, toPy_strs]
  rfl
theorem toPy_rows : ∀ T : Tab, toPys (T.map rowD) = some (T.map rowP)
  | [] => rfl
  | x :: T => by
    rw [List.map_cons, toPys, toPy_row, toPy_rows T]
    rfl
theorem toPy_key (x : Ent2) : toPy (keyD x.L x.T) = some (keyP x) := by
  unfold keyD
  rw [toPy, toPys, toPys, toPys, toPy, toPy, toPy_rows]
  rfl
theorem eqv_row (x y : List Nat × List (List Nat)) : PyData.eqv (rowP x) (rowP y) = decide (x = y) := by
  unfold rowP
  rw [PyData.eqv, PyData.eqvAll, PyData.eqvAll, PyData.eqvAll, eqv_str, eqv_tup]
  obtain ⟨a, b⟩ := x
  obtain ⟨c, d⟩ := y
  by_cases h1 : a = c
  · by_cases h2 : b = d
    · simp [h1, h2]
    · simp [h1, h2]
  · simp [h1]
theorem eqv_key (x y : Ent2) : PyData.eqv (keyP x) (keyP y) = eqEnt x y := by
  unfold keyP eqEnt
  rw [PyData.eqv, PyData.eqvAll, PyData.eqvAll, PyData.eqvAll, eqv_str, PyData.eqv, eqvAll_map eqv_row, Bool.and_true]
theorem key_shaped {x : Ent2} (h : OkEnt x) : SeqAt.shaped (keyP x) = true := by
  have lay : ∀ l : List (List Nat), (∀ s ∈ l, charsOk s) → (tupP l).canLay0 = true := fun l hl => by
    unfold tupP
    rw [PyData.canLay0]
    exact lay_map l fun s hs => strOk_of (hl s hs)
  have l1 : PyData.canLayAll0 (x.T.map rowP) = true := lay_map x.T fun y hy => by
    unfold rowP
    rw [PyData.canLay0, PyData.canLayAll0, PyData.canLayAll0, PyData.canLayAll0, strOk_of (h.ky y hy), lay _ (h.vl y hy)]
    rfl
  have ds : ∀ s, PyData.depth (strP s) = 0 := fun s => by show PyData.depth (.str _) = 0; rw [PyData.depth]
  have dt : ∀ l, PyData.depth (tupP l) ≤ 1 := fun l => by
    unfold tupP
    rw [PyData.depth]
    have := depth_map (f := strP) (n := 0) (fun s => by rw [ds]; exact Nat.le_refl _) l
    omega
  have d1 : PyData.depthAll (x.T.map rowP) ≤ 2 := depth_map (fun y => by
    unfold rowP
    rw [PyData.depth, PyData.depthAll, PyData.depthAll, PyData.depthAll, ds]
    have := dt y.2
    omega) x.T
  unfold SeqAt.shaped keyP
  rw [PyData.canLay0, PyData.canLayAll0, PyData.canLayAll0, PyData.canLayAll0, strOk_of h.nm, PyData.canLay0, l1, PyData.depth, PyData.depthAll, PyData.depthAll, PyData.depthAll, ds, PyData.depth]
  simp
  omega
section
variable {P : Program} {w : World} {K : PySem.W.Frag} {mg : Str → Option Value} {base : Heap} {aN aE aR : Addr}
theorem sc_Entry_of : FnScope ["cls", "entry_name", "attributes", "name", "table"] ["cls", "entry_name", "attributes"] (defScope (inClass (top 31) 1)) := ⟨rfl, rfl, rfl, by decide +kernel, rfl, by decide +kernel, by decide +kernel⟩
theorem ok_Entry_of {f : Addr} {fd : FuncData} (F : Fun K "of" "Entry.of" (inClass (top 31) 1) f fd) (T : Txt K mg aN aE aR) (k_need_name : Kn0 P w K mg base "need_name" 7 ["value"] (R_need_name aN)) (k_need_table : Kn0 P w K mg base "need_table" 3 ["attributes"] R_need_table) (w_Entry : KnW P w K mg base aE 8 ["self", "entry_name"] (R_Entry_init aN aE)) : FnOk P w K mg base CX0 10 f fd ["cls", "entry_name", "attributes"] (Pr K (NoX (R_Entry_of aN aE))) := by
  have sc := sc_Entry_of
  refine okD F sc (fun ds os PP ⟨_, _, _, e, _⟩ => by rw [e]; rfl) ?_
  apply Exists.intro
  apply And.intro
  · intro cdv A outer s H hr
    have hu := hr.units
    have hu0 : (A.deeper (envOfC "Entry.of" (defScope (inClass (top 31) 1)) s.heap.objs.size f cdv)).units + 1 < cLine := by omega
    exact (pb_cons (sx_set 3 sc.nd (px_call0 k_need_name (hr.mono (by decide)) (pxa_cons (px_var 1) pxa_nil)))
      (pb_cons (sx_set 4 sc.nd (px_call0 k_need_table (hr.mono (by decide)) (pxa_cons (px_var 2) pxa_nil)))
      (pb_one (sx_ret (px_makeKw w_Entry (hr.mono (by decide)) (px_var 0) (pxa_cons (px_var 3) pxa_nil) (px_var 4))))))
  · rintro ds os PP ⟨L, T0, d, rfl, hd, hg, hT, k⟩ hx
    have hT2 := sortT_good hT
    refine q_set (ev_need_name L (ev_cons ev_var ev_nil) hd hg) eg_name ?_
    refine q_set (ev_fnN T0 (ev_cons ev_var ev_nil) hT) eg_name ?_
    refine s_ret (d := entObj aN aE L (sortT T0)) ?_ ⟨os, List.Sublist.refl _, k⟩
    intro Q q
    refine (ev_var : EvD (dVar 0) _ (.raw (.ref aE))) _ ⟨rfl, ?_⟩
    refine (ev_cons ev_var ev_nil : EvA (dCons (dVar 3) dNil) _ [nameObj aN L]) _ ?_
    refine (ev_var : EvD (dVar 4) _ (tabD (sortT T0))) _ ⟨_, _, .inl rfl, rfl, fun y hy => ?_, fun p hp => ?_⟩
    · obtain ⟨x, hx2, e⟩ := List.mem_map.mp hy
      rw [← e]
      exact word_not (hT2.wd x hx2)
    · refine ⟨L, sortT T0, p, nameObj aN L, rfl, .inr rfl, hg, hT2, rfl, rfl, _, _, [], rfl, ?_⟩
      have := sortT_idem hT
      rw [this]
      exact q
theorem sc_Entry_name : FnScope ["self"] ["self"] (defScope (inClass (top 31) 2)) := ⟨rfl, rfl, rfl, by decide +kernel, rfl, by decide +kernel, by decide +kernel⟩
theorem ok_Entry_name {f : Addr} {fd : FuncData} (F : Fun K "name" "Entry.name" (inClass (top 31) 2) f fd) (T : Txt K mg aN aE aR) : FnOk P w K mg base CX0 1 f fd ["self"] (Pr K (NoX (R_Entry_name aN aE))) := by
  have sc := sc_Entry_name
  refine okD F sc (fun ds os PP ⟨_, e, _⟩ => by rw [e]; rfl) ?_
  apply Exists.intro
  apply And.intro
  · intro cdv A outer s H hr
    have hu := hr.units
    have hu0 : (A.deeper (envOfC "Entry.name" (defScope (inClass (top 31) 2)) s.heap.objs.size f cdv)).units + 1 < cLine := by omega
    exact (pb_one (sx_ret (px_fld T.c_Entry T.na_Entry_own_name (px_var 0))))
  · rintro ds os PP ⟨x, rfl, _, k⟩ hx
    exact s_ret (ev_fld (k := 0) ev_var (.inl rfl) rfl rfl) ⟨os, List.Sublist.refl _, k⟩
theorem sc_Entry_words : FnScope ["self"] ["self"] (defScope (inClass (top 31) 3)) := ⟨rfl, rfl, rfl, by decide +kernel, rfl, by decide +kernel, by decide +kernel⟩
theorem ok_Entry_words {f : Addr} {fd : FuncData} (F : Fun K "words" "Entry.words" (inClass (top 31) 3) f fd) (T : Txt K mg aN aE aR) : FnOk P w K mg base CX0 1 f fd ["self"] (Pr K (NoX (R_Entry_words aN aE))) := by
  have sc := sc_Entry_words
  refine okD F sc (fun ds os PP ⟨_, e, _⟩ => by rw [e]; rfl) ?_
  apply Exists.intro
  apply And.intro
  · intro cdv A outer s H hr
    have hu := hr.units
    have hu0 : (A.deeper (envOfC "Entry.words" (defScope (inClass (top 31) 3)) s.heap.objs.size f cdv)).units + 1 < cLine := by omega
    exact (pb_one (sx_ret (px_ct call_tuple_of l_tupOf T.n_tuple (by decide +kernel) (pxa_cons (px_ct (call_listD rfl) l_lstD T.n_list (by decide +kernel) (pxa_cons (px_fld T.c_Entry T.na_Entry_own_table (px_var 0)) pxa_nil)) pxa_nil))))
  · rintro ds os PP ⟨x, rfl, _, k⟩ hx
    refine s_ret (d := tupS (x.T.map Prod.fst)) ?_ ⟨os, List.Sublist.refl _, k⟩
    exact ev_cb (ev_cons (ev_cb (ev_cons (ev_fld (k := 1) (d := tabD x.T) ev_var (.inl rfl) rfl rfl) ev_nil) (v_lstD (ks := x.T.map Prod.fst) (.inl rfl))) ev_nil) v_tupOf
theorem sc_Entry___getitem__ : FnScope ["self", "word"] ["self", "word"] (defScope (inClass (top 31) 4)) := ⟨rfl, rfl, rfl, by decide +kernel, rfl, by decide +kernel, by decide +kernel⟩
theorem ok_Entry___getitem__ {f : Addr} {fd : FuncData} (F : Fun K "__getitem__" "Entry.__getitem__" (inClass (top 31) 4) f fd) (T : Txt K mg aN aE aR) : FnOk P w K mg base CX0 1 f fd ["self", "word"] (Pr K (NoX (R_Entry_getitem aN aE))) := by
  have sc := sc_Entry___getitem__
  refine okD F sc (fun ds os PP ⟨_, e, _⟩ => by rw [e]; rfl) ?_
  apply Exists.intro
  apply And.intro
  · intro cdv A outer s H hr
    have hu := hr.units
    have hu0 : (A.deeper (envOfC "Entry.__getitem__" (defScope (inClass (top 31) 4)) s.heap.objs.size f cdv)).units + 1 < cLine := by omega
    exact (pb_one (sx_ret (px_if (pt_v (px_cb call_isi (l_isB (K := K) (T := "str")) T.n_isinstance boot_isinstance (pxa_cons (px_var 1) (pxa_cons (px_ty (T := "str") T.n_str (by decide +kernel)) pxa_nil)))) (px_dget2 hu0 (px_fld T.c_Entry T.na_Entry_own_table (px_var 0)) (px_var 1) (px_tup pxa_nil)) (px_tup pxa_nil))))
  · rintro ds os PP ⟨x, rfl, _, k⟩ hx
    refine s_ret (d := tupS (look x.1.T x.2)) ?_ ⟨os, List.Sublist.refl _, k⟩
    refine ev_if (b := true) (ev_test (ev_cb (ev_cons ev_var (ev_cons ev_c ev_nil)) v_isStr)) (fun _ => evd_eq (ev_dget2 (ks := x.1.T.map Prod.fst) (xs := x.1.T.map fun y => tupS y.2) (ev_fld (k := 1) (d := tabD x.1.T) ev_var (.inl rfl) rfl rfl) ev_var (ev_tup ev_nil (by simp)) (.inl rfl)) ?_) (fun h => by cases h)
    rw [dlook_tab]
    unfold look
    cases x.1.T.find? fun y => y.1 == x.2 with
    | none => rfl
    | some y => rfl
theorem sc_Entry___eq__ : FnScope ["self", "other"] ["self", "other"] (defScope (inClass (top 31) 7)) := ⟨rfl, rfl, rfl, by decide +kernel, rfl, by decide +kernel, by decide +kernel⟩
theorem ok_Entry___eq__ {f : Addr} {fd : FuncData} (F : Fun K "__eq__" "Entry.__eq__" (inClass (top 31) 7) f fd) (T : Txt K mg aN aE aR) : FnOk P w K mg base CX0 1 f fd ["self", "other"] (Pr K (NoX (R_Entry_eq aN aE))) := by
  have sc := sc_Entry___eq__
  refine okD F sc (fun ds os PP ⟨_, e, _⟩ => by rw [e]; rfl) ?_
  apply Exists.intro
  apply And.intro
  · intro cdv A outer s H hr
    have hu := hr.units
    have hu0 : (A.deeper (envOfC "Entry.__eq__" (defScope (inClass (top 31) 7)) s.heap.objs.size f cdv)).units + 1 < cLine := by omega
    exact (pb_one (sx_ret (px_and (px_cb call_isi (l_isO (K := K)) T.n_isinstance boot_isinstance (pxa_cons (px_var 1) (pxa_cons (px_gref T.a_Entry) pxa_nil))) (px_one (DL.px_cmp (op_eqD hu) l_eqD (px_fld T.c_Entry T.na_Entry_own_key (px_var 0)) (px_fld T.c_Entry T.na_Entry_own_key (px_var 1)))))))
  · rintro ds os PP ⟨x, rfl, ⟨h1, h2⟩, k⟩ hx
    refine s_ret (d := .bl (eqEnt x.1 x.2)) ?_ ⟨os, List.Sublist.refl _, k⟩
    refine evd_eq (ev_andV (b1 := true) (ev_cb (ev_cons ev_var (ev_cons ev_c ev_nil)) (v_isOself T.s_Entry)) fun _ => ev_op (ev_fld (k := 2) ev_var (.inl rfl) rfl rfl) (ev_fld (k := 2) ev_var (.inl rfl) rfl rfl) (v_eqD (toPy_key x.1) (toPy_key x.2) (key_shaped h1) (key_shaped h2))) ?_
    rw [eqv_key]
    rfl
end
end K86

set_option Elab.async false
set_option linter.all false
set_option maxRecDepth 100000
set_option maxHeartbeats 2000000
namespace K86
open PySem PySem.Spec PyProof PyProof.Rows L2 TL DL
local macro_rules | `(tactic| walk_at "ev") => `(tactic| repeat' (with_reducible first
  | apply ev_c | (apply ev_var; with_unfolding_all exact rfl) | exact v_isStr | apply ev_op | apply ev_test | apply ev_and | apply ev_or | apply ev_not | apply ev_andV | apply ev_orV | apply ev_notV
  | apply ev_ifS | apply ev_ifI | apply ev_chain | apply ev_nil | apply ev_cons | apply ev_tup | apply ev_lst | apply ev_cb | apply ev_m0 | apply ev_m1 | apply ev_m2 | apply ev_sl | apply ev_noPart | apply ev_part | apply ev_revT | apply ev_yes
  | apply v_I0 | apply v_I | apply v_addS | apply v_eqS | apply v_eqI | apply v_eqB | apply v_neS | apply v_neI | apply v_inS | apply v_notInS | apply v_isN0 | apply v_isNS | apply v_isNT | apply v_notN0 | apply v_notNS | apply v_notNT
  | apply v_lenS | apply v_lenL | apply v_lenT | apply v_all | apply v_any | apply v_int1 | apply v_intb | apply v_max2 | apply v_min2 | apply v_join | apply v_split | apply v_part | apply v_lower | apply v_starts | apply v_find | apply v_slS | apply v_slT
  | apply ei_list | apply ei_tup | apply ei_str | apply ei_range1 | apply ei_enumS | apply eg_name | apply eg_nil | apply eg_cons | apply eg_tup
  | (intro _)))

/-! ### two clauses -/
def dgNameW (i j : Nat) : DG := fun d ρ P => P (({ ρ with sl := ρ.sl.set j none } : Rho).set i d)
theorem own12 {K : PySem.W.Frag} (i j : Nat) (hij : i ≠ j) : OwnG K [i, j] (gName i) (dgNameW i j) := ⟨fun G F H σ ρ d v P Q e r p k => by
  have h1 : (wipe σ [i, j]).set i (some v) = (σ.set j none).set i (some v) := by
    show ((σ.set j none).set i none).set i (some v) = _
    rw [List.set_set]
  show Q ((wipe σ [i, j]).set i (some v)) H
  rw [h1]
  have e2 : Env K G F H (σ.set j none) { ρ with sl := ρ.sl.set j none } := by
    refine ⟨e.fit, e.ext, e.keep, e.new, e.there, fun a x hx => ?_, ?_, e.cells, e.mine, e.lo⟩
    · have hx : (ρ.sl.set j none)[a]? = some (some x) := hx
      by_cases q : j = a
      · subst q
        by_cases hl : j < ρ.sl.length
        · rw [List.getElem?_set_self hl] at hx; cases hx
        · rw [List.getElem?_eq_none (by simpa using hl)] at hx; cases hx
      · rw [List.getElem?_set_ne q] at hx
        obtain ⟨w, g1, g2⟩ := e.slots a x hx
        exact ⟨w, by rw [List.getElem?_set_ne q]; exact g1, g2⟩
    · show (ρ.sl.set j none).length = _
      rw [List.length_set, List.length_set]; exact e.len
  refine k _ _ ?_ (e2.set i r) p
  show (((σ.set j none).set i (some v)).set j none).set i none = (σ.set j none).set i none
  rw [List.set_comm _ _ (Ne.symm hij), List.set_set, List.set_comm _ _ hij, List.set_set]⟩
theorem eg_nameW {i j : Nat} {d : D} {ρ : Rho} : EvG (dgNameW i j) d ρ (({ ρ with sl := ρ.sl.set j none } : Rho).set i d) := fun P p => p
theorem ev_lc2 {ρ : Rho} {α β : Type} {wi wi1 : DI} {gd gd1 : DG} {te : DX} {l : List α} {ds : List D} {enc : α → D} {fs : α → List β} {enc1 : β → D} {g : α → β → D} (hi : EvA wi ρ ds) (e : ds = l.map enc) (hl : (l.flatMap fun x => (fs x).map (g x)).length ≤ 16777216)
    (turn : ∀ x ∈ l, ∃ ρ', EvG gd (enc x) ρ ρ' ∧ ρ'.os = ρ.os ∧ ρ'.lo = ρ.lo ∧ EvA wi1 ρ' ((fs x).map enc1) ∧ ∀ y ∈ fs x, ∃ ρ'', EvG gd1 (enc1 y) ρ' ρ'' ∧ ρ''.os = ρ'.os ∧ ρ''.lo = ρ'.lo ∧ EvD te ρ'' (g x y)) :
    EvD (dLc2 wi gd dYes wi1 gd1 dYes te) ρ (.lst (l.flatMap fun x => (fs x).map (g x))) := fun P p => hi _ (by
  subst e
  have bk : ∀ {ρ ρ' : Rho}, ρ'.os = ρ.os → ρ'.lo = ρ.lo → ρ'.back ρ = ρ := fun {ρ ρ'} h1 h2 => by
    cases ρ'; cases ρ
    dsimp only at h1 h2
    subst h1 h2
    rfl
  refine ⟨fun j acc ρ2 => ρ2 = ρ ∧ acc = (l.take j).flatMap fun x => (fs x).map (g x), ⟨rfl, by simp⟩, ?_, ?_⟩
  · rintro j acc d ρ2 hd _ ⟨rfl, rfl⟩
    rw [List.getElem?_map] at hd
    cases hx : l[j]? with
    | none => rw [hx] at hd; cases hd
    | some x =>
      rw [hx] at hd
      cases hd
      have hxm := List.mem_of_getElem? hx
      obtain ⟨ρ', h1, h2, h3, h4, h5⟩ := turn x hxm
      have tk : l.take (j + 1) = l.take j ++ [x] := by
        rw [List.take_add_one, hx]
        rfl
      have hle : ((l.take (j + 1)).flatMap fun x => (fs x).map (g x)).length ≤ 16777216 := by
        have : l.flatMap (fun x => (fs x).map (g x)) = ((l.take (j + 1)).flatMap fun x => (fs x).map (g x)) ++ ((l.drop (j + 1)).flatMap fun x => (fs x).map (g x)) := by
          rw [← List.flatMap_append, List.take_append_drop]
        rw [this, List.length_append] at hl
        omega
      rw [tk, List.flatMap_append, List.length_append] at hle
      simp only [List.flatMap_cons, List.flatMap_nil, List.append_nil, List.length_map] at hle
      refine h1 _ (ev_yes _ ?_)
      dsimp only
      refine iteT ?_
      refine h4 _ ⟨fun k acc1 ρ6 => ρ6 = ρ' ∧ acc1 = ((l.take j).flatMap fun x => (fs x).map (g x)) ++ ((fs x).take k).map (g x), ⟨rfl, by simp⟩, ?_, ?_⟩
      · rintro k acc1 d1 ρ6 hd1 _ ⟨rfl, rfl⟩
        rw [List.getElem?_map] at hd1
        cases hy : (fs x)[k]? with
        | none => rw [hy] at hd1; cases hd1
        | some y =>
          rw [hy] at hd1
          cases hd1
          have hk : k < (fs x).length := (List.getElem?_eq_some_iff.mp hy).1
          obtain ⟨ρ'', g1, g2, g3, g4⟩ := h5 y (List.mem_of_getElem? hy)
          refine ⟨by rw [List.length_append, List.length_map, List.length_take]; omega, g1 _ (ev_yes _ ?_)⟩
          dsimp only
          refine iteT ?_
          refine g4 _ ⟨bk g2 g3, ?_⟩
          rw [List.take_add_one, hy]
          simp
      · rintro acc1 ρ6 _ ⟨rfl, rfl⟩
        refine ⟨bk h2 h3, ?_⟩
        rw [tk]
        simp
  · rintro acc ρ2 _ ⟨rfl, rfl⟩
    have z : (l.map enc).length = l.length := by simp
    rw [z, List.take_length]
    exact p)
/-! ### value_lines, entry_text -/
def lineOf (w v : List Nat) : List Nat := w ++ [58, 32] ++ v
def linesOf (T : Tab) : List (List Nat) := T.flatMap fun y => y.2.map (lineOf y.1)
def NAMEC : List Nat := [110, 97, 109, 101, 58, 32]
def allLines (x : Ent2) : List (List Nat) := (NAMEC ++ nameText x.L) :: linesOf x.T
def entText (x : Ent2) : List Nat := joinL [10] (allLines x)
structure GoodEnt (x : Ent2) : Prop where
  nm : GoodName x.L
  tb : GoodTab x.T
theorem lines_count : ∀ T : Tab, (∀ y ∈ T, y.2.length ≤ 50) → (linesOf T).length ≤ 50 * T.length
  | [], _ => by simp [linesOf]
  | y :: T, h => by
    have ih := lines_count T fun z hz => h z (by simp [hz])
    have h1 := h y (by simp)
    unfold linesOf at *
    rw [List.flatMap_cons, List.length_append, List.length_map, List.length_cons]
    omega
theorem lines_sz {T : Tab} (h : GoodTab T) : ∀ s ∈ linesOf T, s.length ≤ 1014 := fun s hs => by
  obtain ⟨y, hy, hs⟩ := List.mem_flatMap.mp hs
  obtain ⟨v, hv, e⟩ := List.mem_map.mp hs
  have h1 := (word_len (h.wd y hy)).2
  have h2 := h.sz y hy v hv
  rw [← e]
  unfold lineOf
  simp only [List.length_append, List.length_cons, List.length_nil]
  omega
theorem sum_le {n : Nat} : ∀ l : List (List Nat), (∀ s ∈ l, s.length ≤ n) → (l.map List.length).sum ≤ n * l.length
  | [], _ => by simp
  | s :: l, h => by
    have := sum_le l fun t ht => h t (by simp [ht])
    have := h s (by simp)
    simp only [List.map_cons, List.sum_cons, List.length_cons]
    rw [Nat.mul_add]
    omega
abbrev R_value_lines (aN aE : Addr) : DF := DL.Fn (fun x : Ent2 => [entObj aN aE x.L x.T]) GoodEnt fun x => .lst (strsD (linesOf x.T))
abbrev R_entry_text (aN aE : Addr) : DF := DL.Fn (fun x : Ent2 => [entObj aN aE x.L x.T]) GoodEnt fun x => .str (entText x)
section
variable {P : Program} {w : World} {K : PySem.W.Frag} {mg : Str → Option Value} {base : Heap} {aN aE aR : Addr}
theorem sc_value_lines : FnScope ["entry", "word", "value"] ["entry"] (defScope (top 52)) := ⟨rfl, rfl, rfl, by decide +kernel, rfl, by decide +kernel, by decide +kernel⟩
theorem ok_value_lines {f : Addr} {fd : FuncData} (F : Fun K "value_lines" "value_lines" (top 52) f fd) (T : Txt K mg aN aE aR) (p_Entry_words : KnP P w K mg base CX0 aE "words" 1 ["self"] (NoX (R_Entry_words aN aE))) (s_Entry_getitem : KnS P w K mg base aE "__getitem__" 1 ["self", "word"] (R_Entry_getitem aN aE)) : FnOk P w K mg base CX0 3 f fd ["entry"] (Pr K (NoX (R_value_lines aN aE))) := by
  have sc := sc_value_lines
  refine okD F sc (fun ds os PP ⟨_, e, _⟩ => by rw [e]; rfl) ?_
  apply Exists.intro
  apply And.intro
  · intro cdv A outer s H hr
    have hu := hr.units
    have hu0 : (A.deeper (envOfC "value_lines" (defScope (top 52)) s.heap.objs.size f cdv)).units + 1 < cLine := by omega
    exact (pb_one (sx_ret (px_lc2 (own := [("word", 1), ("value", 2)]) (own12 1 2 (by decide)) (own1 2) rfl sc.nd (DL.ix_tup (px_prop_0 p_Entry_words (hr.mono (by decide)) (px_var 0))) (blkOk_by (N := ["entry", "word", "value"]) (sc := defScope (top 52)) (by decide +kernel)) (by decide) (fun _ _ _ _ _ => pg_name (i := 1) sc.nd rfl (Or.inl rfl)) (fun _ _ _ _ _ => pxts_nil) (fun _ _ _ _ _ => (DL.ix_tup (px_getOwn s_Entry_getitem (hr.mono (by decide)) (px_var 0) (px_var 1)))) (fun _ _ _ _ _ => pg_name (i := 2) sc.nd rfl (Or.inl rfl)) (fun _ _ _ _ _ => pxts_nil) (fun _ _ _ _ _ => (px_op op_add_str l_addS (px_op op_add_str l_addS (px_var 1) (px_gstrE T.g_COLON)) (px_var 2))))))
  · rintro ds os PP ⟨x, rfl, hg, k⟩ hx
    have hc := lines_count x.T hg.tb.cnt
    have hl := hg.tb.len
    refine s_ret (d := .lst (strsD (linesOf x.T))) ?_ ⟨os, List.Sublist.refl _, k⟩
    refine evd_eq (ev_lc2 (l := x.T) (enc := fun y => .str y.1) (fs := fun y => y.2) (enc1 := D.str) (g := fun y v => .str (lineOf y.1 v)) (ei_tup (ev_prop x ev_var (.inl rfl) rfl trivial)) ?_ ?_ fun y hy => ⟨_, eg_nameW, rfl, rfl, ei_tup (evd_eq (ev_getO (x, y.1) ev_var ev_var (.inl rfl) rfl trivial) ?_), fun v hv => ⟨_, eg_name, rfl, rfl, ev_op (ev_op ev_var ev_c (v_addS ?_)) ev_var (v_addS ?_)⟩⟩) ?_
    · unfold strsD; rw [List.map_map]; rfl
    · have e : (x.T.flatMap fun y => y.2.map fun v => D.str (lineOf y.1 v)) = (linesOf x.T).map D.str := by unfold linesOf; rw [List.map_flatMap]; simp only [List.map_map]; rfl
      rw [e, List.length_map]; omega
    · show tupS (look x.T y.1) = _
      rw [look_mem hg.tb.nd hy]
      rfl
    · have := (word_len (hg.tb.wd y hy)).2
      have h2 : (tl { cps := #[58, 32] }).length = 2 := rfl
      omega
    · have := (word_len (hg.tb.wd y hy)).2
      have h3 := hg.tb.sz y hy v hv
      have h2 : (tl { cps := #[58, 32] }).length = 2 := rfl
      rw [List.length_append]; omega
    · congr 1
      unfold linesOf strsD
      rw [List.map_flatMap]
      simp only [List.map_map]
      rfl
end
end K86

set_option Elab.async false
set_option linter.all false
set_option maxRecDepth 100000
set_option maxHeartbeats 2000000
namespace K86
open PySem PySem.Spec PyProof PyProof.Rows L2 TL DL
local macro_rules | `(tactic| walk_at "ev") => `(tactic| repeat' (with_reducible first
  | apply ev_c | (apply ev_var; with_unfolding_all exact rfl) | exact v_isStr | apply ev_op | apply ev_test | apply ev_and | apply ev_or | apply ev_not | apply ev_andV | apply ev_orV | apply ev_notV
  | apply ev_ifS | apply ev_ifI | apply ev_chain | apply ev_nil | apply ev_cons | apply ev_tup | apply ev_lst | apply ev_cb | apply ev_m0 | apply ev_m1 | apply ev_m2 | apply ev_sl | apply ev_noPart | apply ev_part | apply ev_revT | apply ev_yes
  | apply v_I0 | apply v_I | apply v_addS | apply v_eqS | apply v_eqI | apply v_eqB | apply v_neS | apply v_neI | apply v_inS | apply v_notInS | apply v_isN0 | apply v_isNS | apply v_isNT | apply v_notN0 | apply v_notNS | apply v_notNT
  | apply v_lenS | apply v_lenL | apply v_lenT | apply v_all | apply v_any | apply v_int1 | apply v_intb | apply v_max2 | apply v_min2 | apply v_join | apply v_split | apply v_part | apply v_lower | apply v_starts | apply v_find | apply v_slS | apply v_slT
  | apply ei_list | apply ei_tup | apply ei_str | apply ei_range1 | apply ei_enumS | apply eg_name | apply eg_nil | apply eg_cons | apply eg_tup
  | (intro _)))

/-! ### methods that write their object -/
def FnC {α : Type} (enc : α → List D) (st st' : α → D) (pr : α → Prop) (out : α → D) : DF := fun ds os P => ∃ x p, ds = .raw (.ref p) :: enc x ∧ os = [⟨p, st x⟩] ∧ pr x ∧ P.ok (out x) [⟨p, st' x⟩]
theorem ret_same (ρ : Rho) (p : Addr) (d d' : D) (r : List Cell) : ρ.ret [⟨p, d⟩] [⟨p, d'⟩] r = ⟨ρ.sl, ⟨p, d'⟩ :: r, ρ.lo⟩ := by
  unfold Rho.ret
  have : (fun a => ρ.lo a ∨ a ∈ addrs [⟨p, d'⟩] ∧ a ∉ addrs [⟨p, d⟩]) = ρ.lo := by
    funext a
    apply propext
    constructor
    · rintro (h | ⟨h1, h2⟩)
      · exact h
      · exact absurd h1 h2
    · exact .inl
  rw [this]
  rfl
section
variable {ρ : Rho} {to : DX} {u : DA} {P : PoS} {C p : Addr} {m : Str} {ns : List Str} {ds xs : List D} {r : List Cell} {α : Type} {enc : α → List D} {st st' : α → D} {pr : α → Prop} {out : α → D}
theorem methC_up {Q : Po D} (x : α) (ho : EvD to ρ (.raw (.ref p))) (hc : ρ.os = ⟨p, st x⟩ :: r) (hs : st x = .obj C ns ds) (hm : fidx ns m = none) (hu : EvA u ρ xs) (e : xs = enc x) (h : pr x) (q : Q.ok (out x) ⟨ρ.sl, ⟨p, st' x⟩ :: r, ρ.lo⟩) : dMethC0 C m (FnC enc st st' pr out) to u ρ Q :=
  ho _ ⟨⟨ns, ds, sees_cell (l := []) (r := r) (by rw [hc, hs]; rfl), hm⟩, hu _ ⟨[⟨p, st x⟩], r, by rw [hc]; exact List.Perm.refl _, x, p, by rw [e], rfl, h, by
    dsimp only
    rw [ret_same]
    exact q⟩⟩
theorem ev_methC (x : α) (ho : EvD to ρ (.raw (.ref p))) (hc : ρ.os = ⟨p, st x⟩ :: r) (hs : st x = .obj C ns ds) (hm : fidx ns m = none) (hu : EvA u ρ xs) (e : xs = enc x) (h : pr x) : EvD (dMethC0 C m (FnC enc st st pr out) to u) ρ (out x) := fun Q q => methC_up x ho hc hs hm hu e h (by
  have : (⟨ρ.sl, ⟨p, st x⟩ :: r, ρ.lo⟩ : Rho) = ρ := by rw [← hc]
  rw [this]; exact q)
theorem q_methC {v : DS} (x : α) (ho : EvD to ρ (.raw (.ref p))) (hc : ρ.os = ⟨p, st x⟩ :: r) (hs : st x = .obj C ns ds) (hm : fidx ns m = none) (hu : EvA u ρ xs) (e : xs = enc x) (h : pr x) (k : v ⟨ρ.sl, ⟨p, st' x⟩ :: r, ρ.lo⟩ P) : dSeq (dDrop (dMethC0 C m (FnC enc st st' pr out) to u)) v ρ P := methC_up x ho hc hs hm hu e h k
theorem s_methC (x : α) (ho : EvD to ρ (.raw (.ref p))) (hc : ρ.os = ⟨p, st x⟩ :: r) (hs : st x = .obj C ns ds) (hm : fidx ns m = none) (hu : EvA u ρ xs) (e : xs = enc x) (h : pr x) (k : P.nx ⟨ρ.sl, ⟨p, st' x⟩ :: r, ρ.lo⟩) : dDrop (dMethC0 C m (FnC enc st st' pr out) to u) ρ P := methC_up x ho hc hs hm hu e h k
end
/-! ### Reading -/
def rdNs : List Str := ["own_lines", "own_at"]
structure Rdg where
  ls : List (List Nat)
  at_ : Nat
def rdObj (aR : Addr) (x : Rdg) : D := .obj aR rdNs [.lst (strsD x.ls), .int (x.at_ : Int)]
def R_Reading_init (aR : Addr) : DF := fun ds os P => ∃ (ls : List (List Nat)) (p : Addr), ds = [.raw (.ref p), .str (joinL [10] ls)] ∧ ls ≠ [] ∧ (∀ l ∈ ls, 10 ∉ l) ∧ (joinL [10] ls).length ≤ 16000000 ∧ os = [⟨p, .obj aR [] []⟩] ∧ P.ok .non [⟨p, rdObj aR ⟨ls, 0⟩⟩]
abbrev R_is_at_end (aR : Addr) : DF := FnC (fun _ => []) (rdObj aR) (rdObj aR) (fun _ => True) fun x => .bl (decide (x.at_ = x.ls.length))
abbrev R_ends_block (aR : Addr) : DF := FnC (fun _ => []) (rdObj aR) (rdObj aR) (fun x => x.at_ ≤ x.ls.length) fun x => .bl (decide (x.at_ = x.ls.length) || decide ((x.ls.getD x.at_ []) = []))
abbrev R_next_line (aR : Addr) : DF := FnC (fun _ => []) (rdObj aR) (rdObj aR) (fun x => x.at_ < x.ls.length) fun x => .str (x.ls.getD x.at_ [])
abbrev R_go_on (aR : Addr) : DF := FnC (fun _ => []) (rdObj aR) (fun x => rdObj aR ⟨x.ls, x.at_ + 1⟩) (fun _ => True) fun _ => .non
theorem pre_app : ∀ (a b : List Nat), pre a (a ++ b) = true
  | [], b => by cases b <;> rfl
  | x :: a, b => by
    have := pre_app a b
    unfold pre
    rw [List.cons_append]
    simp [this]
structure NB where
  h : List Nat
  x : Rdg
  L : List (List Pr2)
abbrev R_name_behind (aR : Addr) : DF := FnC (fun y : NB => [.str y.h]) (fun y => rdObj aR y.x) (fun y => rdObj aR ⟨y.x.ls, y.x.at_ + 1⟩) (fun y => y.h.length ≤ 100 ∧ GoodName y.L ∧ y.x.ls[y.x.at_]? = some (y.h ++ nameText y.L)) fun y => .str (nameText y.L)
section
variable {P : Program} {w : World} {K : PySem.W.Frag} {mg : Str → Option Value} {base : Heap} {aN aE aR : Addr}
theorem sc_Reading___init__ : FnScope ["self", "text"] ["self", "text"] (defScope (inClass (top 56) 0)) := ⟨rfl, rfl, rfl, by decide +kernel, rfl, by decide +kernel, by decide +kernel⟩
theorem ok_Reading___init__ {f : Addr} {fd : FuncData} (F : Fun K "__init__" "Reading.__init__" (inClass (top 56) 0) f fd) (T : Txt K mg aN aE aR) : FnOk P w K mg base CX0 1 f fd ["self", "text"] (Pr K (NoX (R_Reading_init aR))) := by
  have sc := sc_Reading___init__
  refine okD F sc (fun ds os PP ⟨_, _, e, _⟩ => by rw [e]; rfl) ?_
  apply Exists.intro
  apply And.intro
  · intro cdv A outer s H hr
    have hu := hr.units
    have hu0 : (A.deeper (envOfC "Reading.__init__" (defScope (inClass (top 56) 0)) s.heap.objs.size f cdv)).units + 1 < cLine := by omega
    exact (pb_cons (sx_if (DL.pt_no (pt_v (px_cb call_isi (l_isB (K := K) (T := "str")) T.n_isinstance boot_isinstance (pxa_cons (px_var 1) (pxa_cons (px_ty (T := "str") T.n_str (by decide +kernel)) pxa_nil))))) (pb_one sx_never) pb_nil)
      (pb_cons (sx_fld T.c_Reading T.na_Reading_own_lines (px_var 0) (px_m1 PySem.F.slot_str_split PySem.F.type_str_split mt_split l_split (px_var 1) (px_gstrE T.g_NEWLINE)))
      (pb_one (sx_fld T.c_Reading T.na_Reading_own_at (px_var 0) px_int))))
  · rintro ds os PP ⟨ls, p, rfl, h0, hn, hl, rfl, k⟩ hx
    refine q_if (b := false) (evt_eq (ev_not (ev_test (ev_cb (ev_cons ev_var (ev_cons ev_c ev_nil)) v_isStr))) rfl) (fun h => by cases h) fun _ => ?_
    refine q_next ?_
    refine q_fld (l := []) (ev_m1 ev_var ev_c (v_split (by decide) (by decide) (by omega))) ev_var rfl (by decide) ?_
    refine s_fld (l := []) ev_c ev_var rfl (by decide) ?_
    refine ⟨_, List.Sublist.refl _, ?_⟩
    have e : spl [10] 0 [] (joinL [10] ls) = ls := spl_join h0 hn
    have e2 : spl (tl { cps := #[10] }) 0 [] (joinL [10] ls) = ls := e
    rw [e2]
    exact k
theorem sc_Reading_is_at_end : FnScope ["self"] ["self"] (defScope (inClass (top 56) 2)) := ⟨rfl, rfl, rfl, by decide +kernel, rfl, by decide +kernel, by decide +kernel⟩
theorem ok_Reading_is_at_end {f : Addr} {fd : FuncData} (F : Fun K "is_at_end" "Reading.is_at_end" (inClass (top 56) 2) f fd) (T : Txt K mg aN aE aR) : FnOk P w K mg base CX0 1 f fd ["self"] (Pr K (NoX (R_is_at_end aR))) := by
  have sc := sc_Reading_is_at_end
  refine okD F sc (fun ds os PP ⟨_, _, e, _⟩ => by rw [e]; rfl) ?_
  apply Exists.intro
  apply And.intro
  · intro cdv A outer s H hr
    have hu := hr.units
    have hu0 : (A.deeper (envOfC "Reading.is_at_end" (defScope (inClass (top 56) 2)) s.heap.objs.size f cdv)).units + 1 < cLine := by omega
    exact (pb_one (sx_ret (DL.px_cmp op_eq l_eq (px_fld T.c_Reading T.na_Reading_own_at (px_var 0)) (px_cb call_len l_len T.n_len PySem.boot_len (pxa_cons (px_fld T.c_Reading T.na_Reading_own_lines (px_var 0)) pxa_nil)))))
  · rintro ds os PP ⟨x, p, rfl, rfl, _, k⟩ hx
    refine s_ret (d := .bl (decide (x.at_ = x.ls.length))) ?_ ⟨_, List.Sublist.refl _, k⟩
    refine evd_eq (ev_op (ev_fld (k := 1) ev_var (sees_cell (l := []) rfl) rfl rfl) (ev_cb (ev_cons (ev_fld (k := 0) ev_var (sees_cell (l := []) rfl) rfl rfl) ev_nil) v_lenL) v_eqI) ?_
    have e1 : (strsD x.ls).length = x.ls.length := by simp [strsD]
    rw [e1]
    congr 1
    by_cases h : x.at_ = x.ls.length
    · have : (x.at_ : Int) = (x.ls.length : Int) := by omega
      simp [h]
    · have : ¬ (x.at_ : Int) = (x.ls.length : Int) := by omega
      simp [h, this]
theorem sc_Reading_ends_block : FnScope ["self"] ["self"] (defScope (inClass (top 56) 3)) := ⟨rfl, rfl, rfl, by decide +kernel, rfl, by decide +kernel, by decide +kernel⟩
theorem ok_Reading_ends_block {f : Addr} {fd : FuncData} (F : Fun K "ends_block" "Reading.ends_block" (inClass (top 56) 3) f fd) (T : Txt K mg aN aE aR) (m_Reading_is_at_end : KnM P w K mg base CX0 aR "is_at_end" 1 ["self"] (NoX (R_is_at_end aR))) : FnOk P w K mg base CX0 2 f fd ["self"] (Pr K (NoX (R_ends_block aR))) := by
  have sc := sc_Reading_ends_block
  refine okD F sc (fun ds os PP ⟨_, _, e, _⟩ => by rw [e]; rfl) ?_
  apply Exists.intro
  apply And.intro
  · intro cdv A outer s H hr
    have hu := hr.units
    have hu0 : (A.deeper (envOfC "Reading.ends_block" (defScope (inClass (top 56) 3)) s.heap.objs.size f cdv)).units + 1 < cLine := by omega
    exact (pb_one (sx_ret (px_or (px_meth0C_0 m_Reading_is_at_end (hr.mono (by decide)) (px_var 0)) (px_one (DL.px_cmp op_eq l_eq (px_ix L2.ix_list l_ixL (px_fld T.c_Reading T.na_Reading_own_lines (px_var 0)) (px_fld T.c_Reading T.na_Reading_own_at (px_var 0))) (px_str []))))))
  · rintro ds os PP ⟨x, p, rfl, rfl, hle, k⟩ hx
    refine s_ret (d := .bl (decide (x.at_ = x.ls.length) || decide ((x.ls.getD x.at_ []) = []))) ?_ ⟨_, List.Sublist.refl _, k⟩
    refine ev_orV (ev_methC x ev_var rfl rfl rfl ev_nil rfl trivial) fun h => ?_
    have hlt : x.at_ < x.ls.length := by have := of_decide_eq_false h; omega
    have hg : (strsD x.ls)[x.at_]? = some (.str (x.ls.getD x.at_ [])) := by
      unfold strsD
      rw [List.getElem?_map, List.getElem?_eq_getElem hlt, List.getD_eq_getElem?_getD, List.getElem?_eq_getElem hlt]
      rfl
    exact ev_op (ev_op (ev_fld (k := 0) ev_var (sees_cell (l := []) rfl) rfl rfl) (ev_fld (k := 1) ev_var (sees_cell (l := []) rfl) rfl rfl) (v_ixL (.inl rfl) (atI_nat hg))) ev_c v_eqS
theorem sc_Reading_next_line : FnScope ["self"] ["self"] (defScope (inClass (top 56) 4)) := ⟨rfl, rfl, rfl, by decide +kernel, rfl, by decide +kernel, by decide +kernel⟩
theorem ok_Reading_next_line {f : Addr} {fd : FuncData} (F : Fun K "next_line" "Reading.next_line" (inClass (top 56) 4) f fd) (T : Txt K mg aN aE aR) (m_Reading_is_at_end : KnM P w K mg base CX0 aR "is_at_end" 1 ["self"] (NoX (R_is_at_end aR))) : FnOk P w K mg base CX0 2 f fd ["self"] (Pr K (NoX (R_next_line aR))) := by
  have sc := sc_Reading_next_line
  refine okD F sc (fun ds os PP ⟨_, _, e, _⟩ => by rw [e]; rfl) ?_
  apply Exists.intro
  apply And.intro
  · intro cdv A outer s H hr
    have hu := hr.units
    have hu0 : (A.deeper (envOfC "Reading.next_line" (defScope (inClass (top 56) 4)) s.heap.objs.size f cdv)).units + 1 < cLine := by omega
    exact (pb_cons (sx_if (pt_v (px_meth0C_0 m_Reading_is_at_end (hr.mono (by decide)) (px_var 0))) (pb_one sx_never) pb_nil)
      (pb_one (sx_ret (px_ix L2.ix_list l_ixL (px_fld T.c_Reading T.na_Reading_own_lines (px_var 0)) (px_fld T.c_Reading T.na_Reading_own_at (px_var 0))))))
  · rintro ds os PP ⟨x, p, rfl, rfl, hlt, k⟩ hx
    have hg : (strsD x.ls)[x.at_]? = some (.str (x.ls.getD x.at_ [])) := by
      unfold strsD
      rw [List.getElem?_map, List.getElem?_eq_getElem hlt, List.getD_eq_getElem?_getD, List.getElem?_eq_getElem hlt]
      rfl
    refine q_if (b := false) (evt_eq (ev_test (ev_methC x ev_var rfl rfl rfl ev_nil rfl trivial)) (decide_eq_false (by omega))) (fun h => by cases h) fun _ => ?_
    refine q_next ?_
    refine s_ret (d := .str (x.ls.getD x.at_ [])) ?_ ⟨_, List.Sublist.refl _, k⟩
    exact ev_op (ev_fld (k := 0) ev_var (sees_cell (l := []) rfl) rfl rfl) (ev_fld (k := 1) ev_var (sees_cell (l := []) rfl) rfl rfl) (v_ixL (.inl rfl) (atI_nat hg))
theorem sc_Reading_go_on : FnScope ["self"] ["self"] (defScope (inClass (top 56) 5)) := ⟨rfl, rfl, rfl, by decide +kernel, rfl, by decide +kernel, by decide +kernel⟩
theorem ok_Reading_go_on {f : Addr} {fd : FuncData} (F : Fun K "go_on" "Reading.go_on" (inClass (top 56) 5) f fd) (T : Txt K mg aN aE aR) : FnOk P w K mg base CX0 1 f fd ["self"] (Pr K (NoX (R_go_on aR))) := by
  have sc := sc_Reading_go_on
  refine okD F sc (fun ds os PP ⟨_, _, e, _⟩ => by rw [e]; rfl) ?_
  apply Exists.intro
  apply And.intro
  · intro cdv A outer s H hr
    have hu := hr.units
    have hu0 : (A.deeper (envOfC "Reading.go_on" (defScope (inClass (top 56) 5)) s.heap.objs.size f cdv)).units + 1 < cLine := by omega
    exact (pb_one (sx_fldaug T.c_Reading T.na_Reading_own_at (px_var 0) px_int))
  · rintro ds os PP ⟨x, p, rfl, rfl, _, k⟩ hx
    exact s_aug (l := []) (k := 1) ev_var rfl rfl rfl ev_c (by decide) ⟨_, List.Sublist.refl _, k⟩
theorem sc_Reading_name_behind : FnScope ["self", "head", "line"] ["self", "head"] (defScope (inClass (top 56) 8)) := ⟨rfl, rfl, rfl, by decide +kernel, rfl, by decide +kernel, by decide +kernel⟩
theorem ok_Reading_name_behind {f : Addr} {fd : FuncData} (F : Fun K "name_behind" "Reading.name_behind" (inClass (top 56) 8) f fd) (T : Txt K mg aN aE aR) (m_Reading_next_line : KnM P w K mg base CX0 aR "next_line" 2 ["self"] (NoX (R_next_line aR))) (m_Reading_go_on : KnM P w K mg base CX0 aR "go_on" 1 ["self"] (NoX (R_go_on aR))) (k_read_name : Kn0 P w K mg base "read_name" 3 ["text"] R_read_name) : FnOk P w K mg base CX0 4 f fd ["self", "head"] (Pr K (NoX (R_name_behind aR))) := by
  have sc := sc_Reading_name_behind
  refine okD F sc (fun ds os PP ⟨_, _, e, _⟩ => by rw [e]; rfl) ?_
  apply Exists.intro
  apply And.intro
  · intro cdv A outer s H hr
    have hu := hr.units
    have hu0 : (A.deeper (envOfC "Reading.name_behind" (defScope (inClass (top 56) 8)) s.heap.objs.size f cdv)).units + 1 < cLine := by omega
    exact (pb_cons (sx_set 2 sc.nd (px_meth0C_0 m_Reading_next_line (hr.mono (by decide)) (px_var 0)))
      (pb_cons (sx_if (PXW.pt (ptw_or (DL.pt_no (pt_v (px_m1 PySem.F.slot_str_startswith PySem.F.type_str_startswith mt_startswith l_starts (px_var 2) (px_var 1)))) (ptw_or1 (DL.pt_cmp op_isN l_isN (px_call0 k_read_name (hr.mono (by decide)) (pxa_cons (px_sl sl_str l_slS (px_var 2) (pxo_some (px_cb call_len l_len T.n_len PySem.boot_len (pxa_cons (px_var 1) pxa_nil))) pxo_none) pxa_nil)) px_non)))) (pb_one sx_never) pb_nil)
      (pb_cons (sx_expr (px_meth0C_0 m_Reading_go_on (hr.mono (by decide)) (px_var 0)))
      (pb_one (sx_ret (px_sl sl_str l_slS (px_var 2) (pxo_some (px_cb call_len l_len T.n_len PySem.boot_len (pxa_cons (px_var 1) pxa_nil))) pxo_none))))))
  · rintro ds os PP ⟨y, p, rfl, rfl, ⟨h6, hg, hl⟩, k⟩ hx
    have hlt : y.x.at_ < y.x.ls.length := (List.getElem?_eq_some_iff.mp hl).1
    have hgd : y.x.ls.getD y.x.at_ [] = y.h ++ nameText y.L := by rw [List.getD_eq_getElem?_getD, hl]; rfl
    have hsz := hg.sz
    have hll : (y.h ++ nameText y.L).length ≤ 16777216 := by rw [List.length_append]; omega
    have hcut : cutL (y.h ++ nameText y.L) (some ((y.h.length : Nat) : Int)) none = nameText y.L := by
      unfold cutL
      rw [HT.sIx_nat, HT.sIx_none, Nat.min_eq_left (by rw [List.length_append]; omega), List.drop_left, List.take_of_length_le (by rw [List.length_append]; omega)]
    have hsl : ∀ {sl : List (Option D)} {os : List Cell} {lo : Addr → Prop}, sl[1]? = some (some (.str y.h)) → sl[2]? = some (some (.str (y.h ++ nameText y.L))) → EvD (dSl rdSlS (dVar 2) (dPart (dCB rdLen (dCons (dVar 1) dNil))) dNoPart) ⟨sl, os, lo⟩ (.str (nameText y.L)) := fun {sl os lo} h1 h2 =>
      evd_eq (ev_sl (ev_var (ρ := ⟨sl, os, lo⟩) (h := h2)) (ev_part (ev_cb (ev_cons (ev_var (ρ := ⟨sl, os, lo⟩) (h := h1)) ev_nil) (v_lenS (by omega)))) ev_noPart (v_slS hll)) (by rw [hcut])
    refine q_set (d := .str (y.h ++ nameText y.L)) (evd_eq (ev_methC y.x ev_var rfl rfl rfl ev_nil rfl hlt) (by rw [hgd])) eg_name ?_
    refine q_if (b := false) (evt_eq (ev_or (b2 := false) (ev_not (ev_test (ev_m1 ev_var ev_var v_starts))) fun _ => ev_test (ev_op (ev_fn y.L (ev_cons (hsl rfl rfl) ev_nil) hg) ev_c (v_isN rfl))) ?_) (fun h => by cases h) fun _ => ?_
    · have : pre y.h (y.h ++ nameText y.L) = true := pre_app _ _
      rw [this]; rfl
    refine q_next ?_
    refine q_methC (st := rdObj aR) (st' := fun x => rdObj aR ⟨x.ls, x.at_ + 1⟩) y.x ev_var rfl rfl rfl ev_nil rfl trivial ?_
    exact s_ret (hsl rfl rfl) ⟨_, List.Sublist.refl _, k⟩
end
end K86

set_option Elab.async false
set_option linter.all false
set_option maxRecDepth 100000
set_option maxHeartbeats 2000000
namespace K86
open PySem PySem.Spec PyProof PyProof.Rows L2 TL DL
local macro_rules | `(tactic| walk_at "ev") => `(tactic| repeat' (with_reducible first
  | apply ev_c | (apply ev_var; with_unfolding_all exact rfl) | exact v_isStr | apply ev_op | apply ev_test | apply ev_and | apply ev_or | apply ev_not | apply ev_andV | apply ev_orV | apply ev_notV
  | apply ev_ifS | apply ev_ifI | apply ev_chain | apply ev_nil | apply ev_cons | apply ev_tup | apply ev_lst | apply ev_cb | apply ev_m0 | apply ev_m1 | apply ev_m2 | apply ev_sl | apply ev_noPart | apply ev_part | apply ev_revT | apply ev_yes
  | apply v_I0 | apply v_I | apply v_addS | apply v_eqS | apply v_eqI | apply v_eqB | apply v_neS | apply v_neI | apply v_inS | apply v_notInS | apply v_isN0 | apply v_isNS | apply v_isNT | apply v_notN0 | apply v_notNS | apply v_notNT
  | apply v_lenS | apply v_lenL | apply v_lenT | apply v_all | apply v_any | apply v_int1 | apply v_intb | apply v_max2 | apply v_min2 | apply v_join | apply v_split | apply v_part | apply v_lower | apply v_starts | apply v_find | apply v_slS | apply v_slT
  | apply ei_list | apply ei_tup | apply ei_str | apply ei_range1 | apply ei_enumS | apply eg_name | apply eg_nil | apply eg_cons | apply eg_tup
  | (intro _)))

/-! ### read_attributes -/
theorem get_midG {α : Type} {A B : List α} {c : α} {n : Nat} (h : n = A.length) : (A ++ c :: B)[n]? = some c := by
  subst h
  rw [List.getElem?_append_right (Nat.le_refl _), Nat.sub_self]
  rfl
def tail1 (w : List Nat) (v1 : List (List Nat)) : Tab := if v1 = [] then [] else [(w, v1)]
structure RA where
  pre : List (List Nat)
  T : Tab
  post : List (List Nat)
def RA.ls (x : RA) : List (List Nat) := x.pre ++ (linesOf x.T ++ x.post)
def RA.rd (x : RA) : Rdg := ⟨x.ls, x.pre.length⟩
def RA.rd' (x : RA) : Rdg := ⟨x.ls, x.pre.length + (linesOf x.T).length⟩
structure OkRA (x : RA) : Prop where
  tb : GoodTab x.T
  post : x.post = [] ∨ ∃ r, x.post = [] :: r
abbrev R_read_attributes (aR : Addr) : DF := FnC (fun _ : RA => []) (fun x => rdObj aR x.rd) (fun x => rdObj aR x.rd') OkRA fun x => tabD x.T
theorem par_line {w v : List Nat} : ∀ (acc : List Nat), 58 ∉ w → par [58, 32] acc (w ++ (58 :: 32 :: v)) = some (acc ++ w, v) := by
  induction w with
  | nil => intro acc _; simp [par, pre]
  | cons c w ih =>
    intro acc h
    have h1 : c ≠ 58 := fun z => h (by simp [z])
    have h2 : 58 ∉ w := fun z => h (by simp [z])
    have hp : pre [58, 32] (c :: (w ++ 58 :: 32 :: v)) = false := by
      simp [pre, h1]
    show par [58, 32] acc (c :: (w ++ 58 :: 32 :: v)) = _
    unfold par
    rw [hp]
    simp only [Bool.false_eq_true, if_false]
    rw [ih (acc ++ [c]) h2]
    simp
theorem kix_last {ks : List (List Nat)} {w : List Nat} (h : w ∉ ks) : kix (ks ++ [w]) w = some ks.length := by
  induction ks with
  | nil => simp [kix]
  | cons k ks ih =>
    have h1 : k ≠ w := fun z => h (by simp [z])
    have h2 : w ∉ ks := fun z => h (by simp [z])
    have := ih h2
    unfold kix at *
    rw [List.cons_append, List.findIdx?_cons]
    have e : (k == w) = false := by simpa using h1
    rw [e, this]
    rfl
theorem kix_none {ks : List (List Nat)} {w : List Nat} (h : w ∉ ks) : kix ks w = none := by
  have := kix_mem (ks := ks) (k := w)
  rw [decide_eq_false h] at this
  cases z : kix ks w with
  | none => rfl
  | some i => rw [z] at this; cases this
theorem put_tail {Td : Tab} {w : List Nat} {v1 : List (List Nat)} {v : List Nat} (h : w ∉ Td.map Prod.fst) :
    putK1 ((Td ++ tail1 w v1).map Prod.fst) w = (Td ++ [(w, v1 ++ [v])]).map Prod.fst ∧ putK2 ((Td ++ tail1 w v1).map Prod.fst) w ((Td ++ tail1 w v1).map fun x => tupS x.2) (tupS (v1 ++ [v])) = (Td ++ [(w, v1 ++ [v])]).map fun x => tupS x.2 := by
  unfold tail1 putK1 putK2
  by_cases hv : v1 = []
  · subst hv
    rw [if_pos rfl, List.append_nil, kix_none h]
    simp
  · rw [if_neg hv]
    have e : (Td ++ [(w, v1)]).map Prod.fst = Td.map Prod.fst ++ [w] := by simp
    rw [e, kix_last h]
    constructor
    · simp
    · rw [List.map_append, List.length_map]
      simp
theorem look_tail {Td : Tab} {w : List Nat} {v1 : List (List Nat)} (h : w ∉ Td.map Prod.fst) : (dlook ((Td ++ tail1 w v1).map Prod.fst) ((Td ++ tail1 w v1).map fun x => tupS x.2) w).getD (.tup []) = tupS v1 := by
  unfold tail1 dlook
  by_cases hv : v1 = []
  · subst hv
    rw [if_pos rfl, List.append_nil, kix_none h]
    rfl
  · rw [if_neg hv]
    have e : (Td ++ [(w, v1)]).map Prod.fst = Td.map Prod.fst ++ [w] := by simp
    rw [e, kix_last h]
    simp [List.length_map]
theorem q_dput {ρ : Rho} {to ti tv : DX} {v : DS} {P : PoS} {a : Addr} {l r : List Cell} {ks : List (List Nat)} {ds : List D} {s : List Nat} {d : D} (hv : EvD tv ρ d) (ho : EvD to ρ (.raw (.ref a))) (hi : EvD ti ρ (.str s)) (hc : ρ.os = l ++ ⟨a, .dct ks ds⟩ :: r) (hn : ks.Nodup) (hl : ks.length < 16777216)
    (k : v (ρ.os' (l ++ ⟨a, .dct (putK1 ks s) (putK2 ks s ds d)⟩ :: r)) P) : dSeq (dPut to ti tv) v ρ P := hv _ (ho _ (hi _ ⟨a, l, r, ks, ds, s, rfl, hc, rfl, hn, hl, k⟩))
theorem q_parD {ρ : Rho} {i j : Nat} {te : DX} {v : DS} {P : PoS} {y : D} (h : ∀ fa, EvD te (ρ.add fa (.dct [] [])) y) (k : ∀ fa, Fresh ρ fa → v (((ρ.add fa (.dct [] [])).set i (.raw (.ref fa))).set j y) P) : dSeq (dPar i j (dCons dDictC (dCons te dNil))) v ρ P :=
  fun fa hfa => h fa _ ⟨_, _, rfl, k fa hfa⟩
theorem line_ne (w v : List Nat) : lineOf w v ≠ [] := by unfold lineOf; simp
def sumL (Tr : Tab) : Nat := (linesOf Tr).length
section
variable {P : Program} {w : World} {K : PySem.W.Frag} {mg : Str → Option Value} {base : Heap} {aN aE aR : Addr}
theorem sc_read_attributes : FnScope ["reading", "found", "last", "word", "mark", "value", "is_back"] ["reading"] (defScope (top 57)) := ⟨rfl, rfl, rfl, by decide +kernel, rfl, by decide +kernel, by decide +kernel⟩
theorem ok_read_attributes {f : Addr} {fd : FuncData} (F : Fun K "read_attributes" "read_attributes" (top 57) f fd) (T : Txt K mg aN aE aR) (m_Reading_next_line : KnM P w K mg base CX0 aR "next_line" 2 ["self"] (NoX (R_next_line aR))) (m_Reading_go_on : KnM P w K mg base CX0 aR "go_on" 1 ["self"] (NoX (R_go_on aR))) (m_Reading_ends_block : KnM P w K mg base CX0 aR "ends_block" 2 ["self"] (NoX (R_ends_block aR))) (k_is_word : Kn0 P w K mg base "is_word" 1 ["value"] R_is_word) (k_is_value : Kn0 P w K mg base "is_value" 1 ["value"] R_is_value) : FnOk P w K mg base CX0 4 f fd ["reading"] (Pr K (NoX (R_read_attributes aR))) := by
  have sc := sc_read_attributes
  refine okD F sc (fun ds os PP ⟨_, _, e, _⟩ => by rw [e]; rfl) ?_
  apply Exists.intro
  apply And.intro
  · intro cdv A outer s H hr
    have hu := hr.units
    have hu0 : (A.deeper (envOfC "read_attributes" (defScope (top 57)) s.heap.objs.size f cdv)).units + 1 < cLine := by omega
    exact (pb_cons (sx_par 1 2 rfl sc.nd (pxa_cons px_dictC (pxa_cons (px_str []) pxa_nil)) rfl (by decide))
      (pb_cons (sx_perm (sx_while PassesOwn.never (DL.pt_no (pt_v (px_meth0C_0 m_Reading_ends_block (hr.mono (by decide)) (px_var 0)))) (pb_cons (sx_asg (px_m1 PySem.F.slot_str_partition PySem.F.type_str_partition mt_partition l_part (px_meth0C_0 m_Reading_next_line (hr.mono (by decide)) (px_var 0)) (px_gstrE T.g_COLON)) (gx_tup (n := 3) rfl (gxs_cons (gx_name 3 sc.nd) (gxs_cons (gx_name 4 sc.nd) (gxs_cons (gx_name 5 sc.nd) gxs_nil)))))
      (pb_cons (sx_set 6 sc.nd (px_and (pc_in hu0 (px_var 3) (px_var 1)) (px_one (DL.px_cmp op_ne l_ne (px_var 3) (px_var 2)))))
      (pb_cons (sx_if (PXW.pt (ptw_or (DL.pt_cmp op_eq l_eq (px_var 4) (px_str [])) (ptw_or (DL.pt_no (pt_v (px_call0 k_is_word (hr.mono (by decide)) (pxa_cons (px_var 3) pxa_nil)))) (ptw_or (DL.pt_no (pt_v (px_call0 k_is_value (hr.mono (by decide)) (pxa_cons (px_var 5) pxa_nil)))) (ptw_or1 (pt_v (px_var 6))))))) (pb_one sx_never) pb_nil)
      (pb_cons (sx_dput hu0 (px_var 1) (px_var 3) (px_tup (pxa_star (px_dget2 hu0 (px_var 1) (px_var 3) (px_tup pxa_nil)) (pxa_cons (px_var 5) pxa_nil))))
      (pb_cons (sx_set 2 sc.nd (px_var 3))
      (pb_one (sx_expr (px_meth0C_0 m_Reading_go_on (hr.mono (by decide)) (px_var 0)))))))))))
      (pb_one (sx_ret (px_freeze (px_var 1))))))
  · rintro ds os PP ⟨x, p, rfl, rfl, hg, k⟩ hx
    have htb := hg.tb
    refine q_parD (fun fa => ev_c) fun fa hfa => ?_
    apply q_seq
    refine ⟨[⟨p, rdObj aR x.rd⟩, ⟨fa, .dct [] []⟩], List.Perm.swap _ _ _, ?_⟩
    refine s_while (fun m ρ => ∃ (s3 s4 s5 s6 : Option D) (last : List Nat) (n : Nat) (Tf : Tab), ρ = ⟨[some (.raw (.ref p)), some (.raw (.ref fa)), some (.str last), s3, s4, s5, s6], [⟨p, rdObj aR ⟨x.ls, n⟩⟩, ⟨fa, tabD Tf⟩], fun a => a = fa ∨ False⟩ ∧
      ((∃ Td w v1 v v2 Tr pr, x.T = Td ++ (w, v1 ++ v :: v2) :: Tr ∧ Tf = Td ++ tail1 w v1 ∧ (v1 ≠ [] → last = w) ∧ x.ls = pr ++ lineOf w v :: (v2.map (lineOf w) ++ (linesOf Tr ++ x.post)) ∧ n = pr.length ∧ m = v2.length + 1 + (linesOf Tr).length) ∨ (Tf = x.T ∧ n = x.pre.length + (linesOf x.T).length ∧ m = 0))) (linesOf x.T).length ?_ ?_
    · refine ⟨none, none, none, none, [], x.pre.length, [], rfl, ?_⟩
      cases hT : x.T with
      | nil => exact .inr ⟨rfl, by simp [linesOf], by simp [linesOf]⟩
      | cons y Tr =>
        obtain ⟨w, vs⟩ := y
        have hne := htb.ne (w, vs) (by rw [hT]; simp)
        obtain ⟨v, v2, rfl⟩ := List.exists_cons_of_ne_nil hne
        refine .inl ⟨[], w, [], v, v2, Tr, x.pre, rfl, rfl, fun h => absurd rfl h, ?_, rfl, ?_⟩
        · unfold RA.ls; rw [hT]; simp [linesOf]
        · simp [linesOf]; omega
    rintro m ρ ⟨s3, s4, s5, s6, last, n, Tf, rfl, hcase⟩
    rcases hcase with ⟨Td, w, v1, v, v2, Tr, pr, hT, rfl, hlast, hls, rfl, rfl⟩ | ⟨rfl, rfl, rfl⟩
    · have hyT : (w, v1 ++ v :: v2) ∈ x.T := by rw [hT]; simp
      have hw := htb.wd _ hyT
      have hwl := word_len hw
      have hv : isValueL v = true := htb.vl _ hyT v (by simp)
      have hvs := htb.sz _ hyT v (by simp)
      have hcn := htb.cnt _ hyT
      have h58 : 58 ∉ w := fun z => absurd (word_letters hw 58 z) (by decide)
      have hwn : w ∉ Td.map Prod.fst := fun z => by
        have nd := htb.nd
        rw [hT, List.map_append, List.map_cons] at nd
        exact (List.nodup_append.mp nd).2.2 w z w (by simp) rfl
      have hlen : pr.length < x.ls.length := by rw [hls]; simp
      have hgd : x.ls.getD pr.length [] = lineOf w v := by rw [List.getD_eq_getElem?_getD, hls, get_midG rfl]; rfl
      have hll : (lineOf w v).length ≤ 16777216 := by unfold lineOf; simp only [List.length_append, List.length_cons, List.length_nil]; dsimp only at hwl hvs; omega
      have hpart : partL (tl { cps := #[58, 32] }) (lineOf w v) = [w, [58, 32], v] := by
        have e : lineOf w v = w ++ (58 :: 32 :: v) := by unfold lineOf; simp
        unfold partL
        have h2 : par (tl { cps := #[58, 32] }) [] (lineOf w v) = some (w, v) := by
          rw [e]; exact par_line [] h58
        rw [h2]
      refine ⟨true, evt_eq (ev_not (ev_test (ev_methC (⟨x.ls, pr.length⟩ : Rdg) ev_var rfl rfl rfl ev_nil rfl (Nat.le_of_lt hlen)))) ?_, fun _ => ?_, fun h => by cases h⟩
      · dsimp only
        rw [hgd, decide_eq_false (Nat.ne_of_lt hlen), decide_eq_false (line_ne w v)]
        rfl
      refine q_set (d := .tup [.str w, .str [58, 32], .str v]) (evd_eq (ev_m1 (evd_eq (ev_methC (⟨x.ls, pr.length⟩ : Rdg) ev_var rfl rfl rfl ev_nil rfl hlen) (by dsimp only; rw [hgd])) ev_c (v_part (by decide) hll)) (by rw [hpart]; rfl)) (eg_tup (eg_cons eg_name (eg_cons eg_name (eg_cons eg_name eg_nil)))) ?_
      refine q_set (d := .bl false) ?_ eg_name ?_
      · by_cases hv1 : v1 = []
        · have hnk : w ∉ (Td ++ tail1 w v1).map Prod.fst := by unfold tail1; rw [if_pos hv1, List.append_nil]; exact hwn
          refine evd_eq (ev_andV (b1 := false) (b2 := false) (evd_eq (ev_in (ks := (Td ++ tail1 w v1).map Prod.fst) (xs := (Td ++ tail1 w v1).map fun x => tupS x.2) ev_var ev_var (sees_cell (l := [⟨p, rdObj aR ⟨x.ls, pr.length⟩⟩]) rfl)) ?_) fun h => by cases h) rfl
          simp only [Bool.false_eq_true, if_false, decide_eq_false hnk]
        · have hlw := hlast hv1
          subst hlw
          refine evd_eq (ev_andV (ev_in (ks := (Td ++ tail1 last v1).map Prod.fst) (xs := (Td ++ tail1 last v1).map fun x => tupS x.2) ev_var ev_var (sees_cell (l := [⟨p, rdObj aR ⟨x.ls, pr.length⟩⟩]) rfl)) fun _ => ev_op ev_var ev_var v_neS) ?_
          simp
      have ndT := htb.nd
      have lenT := htb.len
      rw [hT] at ndT lenT
      have hnd : ((Td ++ tail1 w v1).map Prod.fst).Nodup := by
        rw [List.map_append, List.map_cons] at ndT
        have n3 := List.nodup_append.mp ndT
        unfold tail1
        by_cases hv1 : v1 = []
        · rw [if_pos hv1, List.append_nil]; exact n3.1
        · rw [if_neg hv1, List.map_append]
          exact List.nodup_append.mpr ⟨n3.1, by simp, fun a ha b hb e => by
            have : b = w := by simpa using hb
            exact hwn (by rw [← this, ← e]; exact ha)⟩
      have hln : (Td ++ tail1 w v1).length ≤ Td.length + 1 := by
        unfold tail1
        split <;> simp
      rw [List.length_append, List.length_cons] at lenT
      have hcn' : v1.length ≤ 50 := by dsimp only at hcn; rw [List.length_append] at hcn; omega
      refine q_if (b := false) (evt_eq (ev_or (ev_test (ev_op ev_var ev_c v_eqS)) fun _ => ev_or (ev_not (ev_test (ev_fn w (ev_cons ev_var ev_nil) (by dsimp only at hwl; omega)))) fun _ => ev_or (ev_not (ev_test (ev_fn v (ev_cons ev_var ev_nil) trivial))) fun _ => ev_test ev_var) (by dsimp only at hw; rw [hw, hv]; rfl)) (fun h => by cases h) fun _ => ?_
      refine q_next ?_
      refine q_dput (l := [⟨p, rdObj aR ⟨x.ls, pr.length⟩⟩]) (r := []) (ks := (Td ++ tail1 w v1).map Prod.fst) (ds := (Td ++ tail1 w v1).map fun x => tupS x.2) (s := w) (d := tupS (v1 ++ [v])) (evd_eq (ev_tup (ev_star (evd_eq (ev_dget2 (ks := (Td ++ tail1 w v1).map Prod.fst) (xs := (Td ++ tail1 w v1).map fun x => tupS x.2) ev_var ev_var (ev_tup ev_nil (by simp)) (sees_cell (l := [⟨p, rdObj aR ⟨x.ls, pr.length⟩⟩]) rfl)) (look_tail hwn)) (.inr rfl) (ev_cons ev_var ev_nil)) ?_) ?_) ev_var ev_var rfl hnd (by rw [List.length_map]; omega) ?_
      · have : (strsD v1).length = v1.length := by simp [strsD]
        rw [List.length_append]; simp only [List.length_cons, List.length_nil]; omega
      · unfold tupS strsD; simp
      rw [(put_tail hwn).1, (put_tail hwn).2]
      refine q_set ev_var eg_name ?_
      refine s_methC (st := rdObj aR) (st' := fun x => rdObj aR ⟨x.ls, x.at_ + 1⟩) (⟨x.ls, pr.length⟩ : Rdg) ev_var rfl rfl rfl ev_nil rfl trivial ?_
      cases v2 with
      | cons v' v2 =>
        refine ⟨v2.length + 1 + (linesOf Tr).length, by simp only [List.length_cons]; omega, _, _, _, _, w, pr.length + 1, Td ++ [(w, v1 ++ [v])], rfl, .inl ⟨Td, w, v1 ++ [v], v', v2, Tr, pr ++ [lineOf w v], by rw [hT]; simp, ?_, fun _ => rfl, by rw [hls]; simp, by simp, rfl⟩⟩
        unfold tail1
        rw [if_neg (by simp)]
      | nil =>
        cases Tr with
        | nil =>
          refine ⟨0, by omega, _, _, _, _, w, pr.length + 1, Td ++ [(w, v1 ++ [v])], rfl, .inr ⟨hT.symm, ?_, rfl⟩⟩
          have e := congrArg List.length hls
          unfold RA.ls at e
          simp only [List.length_append, List.length_cons, List.map_nil, List.nil_append, linesOf, List.flatMap_nil, List.length_nil] at e
          show pr.length + 1 = x.pre.length + (linesOf x.T).length
          unfold linesOf
          omega
        | cons y Tr =>
          obtain ⟨w', vs⟩ := y
          have hne := htb.ne (w', vs) (by rw [hT]; simp)
          obtain ⟨v', v2, rfl⟩ := List.exists_cons_of_ne_nil hne
          refine ⟨v2.length + 1 + (linesOf Tr).length, by simp [linesOf]; omega, _, _, _, _, w, pr.length + 1, Td ++ [(w, v1 ++ [v])], rfl, .inl ⟨Td ++ [(w, v1 ++ [v])], w', [], v', v2, Tr, pr ++ [lineOf w v], by rw [hT]; simp, by simp [tail1], fun h => absurd rfl h, by rw [hls]; simp [linesOf], by simp, rfl⟩⟩
    · have hle : x.pre.length + (linesOf x.T).length ≤ x.ls.length := by unfold RA.ls; simp only [List.length_append]; omega
      refine ⟨false, evt_eq (ev_not (ev_test (ev_methC (⟨x.ls, x.pre.length + (linesOf x.T).length⟩ : Rdg) ev_var rfl rfl rfl ev_nil rfl hle))) ?_, fun h => (by cases h), fun _ => ?_⟩
      · dsimp only
        rcases hg.post with hp | ⟨r, hp⟩
        · have : x.pre.length + (linesOf x.T).length = x.ls.length := by unfold RA.ls; rw [hp]; simp
          rw [decide_eq_true this]; rfl
        · have : x.ls[x.pre.length + (linesOf x.T).length]? = some [] := by
            have e : x.ls = (x.pre ++ linesOf x.T) ++ [] :: r := by unfold RA.ls; rw [hp]; simp
            rw [e]
            exact get_midG (by simp)
          rw [List.getD_eq_getElem?_getD, this]
          simp
      · dsimp only
        refine (ev_var : EvD (dVar 1) _ (.raw (.ref fa))) _ ?_
        exact ⟨fa, [⟨p, rdObj aR ⟨x.ls, x.pre.length + (linesOf x.T).length⟩⟩], tabD x.T, [], rfl, rfl, .inl rfl, _, List.Sublist.refl _, k⟩
end
end K86

set_option Elab.async false
set_option linter.all false
set_option maxRecDepth 100000
set_option maxHeartbeats 2000000
namespace K86
open PySem PySem.Spec PyProof PyProof.Rows L2 TL DL
local macro_rules | `(tactic| walk_at "ev") => `(tactic| repeat' (with_reducible first
  | apply ev_c | (apply ev_var; with_unfolding_all exact rfl) | exact v_isStr | apply ev_op | apply ev_test | apply ev_and | apply ev_or | apply ev_not | apply ev_andV | apply ev_orV | apply ev_notV
  | apply ev_ifS | apply ev_ifI | apply ev_chain | apply ev_nil | apply ev_cons | apply ev_tup | apply ev_lst | apply ev_cb | apply ev_m0 | apply ev_m1 | apply ev_m2 | apply ev_sl | apply ev_noPart | apply ev_part | apply ev_revT | apply ev_yes
  | apply v_I0 | apply v_I | apply v_addS | apply v_eqS | apply v_eqI | apply v_eqB | apply v_neS | apply v_neI | apply v_inS | apply v_notInS | apply v_isN0 | apply v_isNS | apply v_isNT | apply v_notN0 | apply v_notNS | apply v_notNT
  | apply v_lenS | apply v_lenL | apply v_lenT | apply v_all | apply v_any | apply v_int1 | apply v_intb | apply v_max2 | apply v_min2 | apply v_join | apply v_split | apply v_part | apply v_lower | apply v_starts | apply v_find | apply v_slS | apply v_slT
  | apply ei_list | apply ei_tup | apply ei_str | apply ei_range1 | apply ei_enumS | apply eg_name | apply eg_nil | apply eg_cons | apply eg_tup
  | (intro _)))

/-! ### read_block, read_entry -/
section
variable {ρ : Rho} {to : DX} {u : DA} {P : PoS} {C p : Addr} {m : Str} {ns : List Str} {ds xs : List D} {r : List Cell} {α : Type} {enc : α → List D} {st st' : α → D} {pr : α → Prop} {out : α → D} {v : DS}
theorem q_setMC {i : Nat} (x : α) (ho : EvD to ρ (.raw (.ref p))) (hc : ρ.os = ⟨p, st x⟩ :: r) (hs : st x = .obj C ns ds) (hm : fidx ns m = none) (hu : EvA u ρ xs) (e : xs = enc x) (h : pr x) (k : v ((⟨ρ.sl, ⟨p, st' x⟩ :: r, ρ.lo⟩ : Rho).set i (out x)) P) : dSeq (dSet (dMethC0 C m (FnC enc st st' pr out) to u) (dgName i)) v ρ P := methC_up x ho hc hs hm hu e h k
theorem callC_up {Q : Po D} (x : α) (hu : EvA u ρ (.raw (.ref p) :: xs)) (hc : ρ.os = ⟨p, st x⟩ :: r) (e : xs = enc x) (h : pr x) (q : Q.ok (out x) ⟨ρ.sl, ⟨p, st' x⟩ :: r, ρ.lo⟩) : dCallC0 (FnC enc st st' pr out) u ρ Q :=
  hu _ ⟨[⟨p, st x⟩], r, by rw [hc]; exact List.Perm.refl _, x, p, by rw [e], rfl, h, by
    dsimp only
    rw [ret_same]
    exact q⟩
theorem q_setCC {i : Nat} (x : α) (hu : EvA u ρ (.raw (.ref p) :: xs)) (hc : ρ.os = ⟨p, st x⟩ :: r) (e : xs = enc x) (h : pr x) (k : v ((⟨ρ.sl, ⟨p, st' x⟩ :: r, ρ.lo⟩ : Rho).set i (out x)) P) : dSeq (dSet (dCallC0 (FnC enc st st' pr out) u) (dgName i)) v ρ P := callC_up x hu hc e h k
end
theorem ev_atEnd {ρ : Rho} {to : DX} {p aR : Addr} {r : List Cell} {x : Rdg} (e : x.at_ = x.ls.length) (ho : EvD to ρ (.raw (.ref p))) (hc : ρ.os = ⟨p, rdObj aR x⟩ :: r) : EvD (dMethC0 aR "is_at_end" (R_is_at_end aR) to dNil) ρ (.bl true) := by
  have := ev_methC (C := aR) (m := "is_at_end") (enc := fun _ : Rdg => []) (st := rdObj aR) (pr := fun _ : Rdg => True) (out := fun x : Rdg => D.bl (decide (x.at_ = x.ls.length))) (u := dNil) x ho hc rfl rfl ev_nil rfl trivial
  rw [e] at this
  simpa using this
structure RB where
  h : List Nat
  pre : List (List Nat)
  L : List (List Pr2)
  T : Tab
  post : List (List Nat)
def RB.ra (x : RB) : RA := ⟨x.pre ++ [x.h ++ nameText x.L], x.T, x.post⟩
def RB.rd (x : RB) : Rdg := ⟨x.ra.ls, x.pre.length⟩
structure OkRB (x : RB) : Prop where
  hd : x.h.length ≤ 100
  nm : GoodName x.L
  ra : OkRA x.ra
abbrev R_read_block (aN aE aR : Addr) : DF := FnC (fun x : RB => [.str x.h]) (fun x => rdObj aR x.rd) (fun x => rdObj aR x.ra.rd') OkRB fun x => entObj aN aE x.L (sortT x.T)
structure OkRE (x : Ent2) : Prop where
  nm : GoodName x.L
  tb : GoodTab x.T
  nl : ∀ l ∈ allLines x, 10 ∉ l
  sz : (entText x).length ≤ 16000000
abbrev R_read_entry (aN aE : Addr) : DF := DL.Fn (fun x : Ent2 => [.str (entText x)]) OkRE fun x => entObj aN aE x.L (sortT x.T)
section
variable {P : Program} {w : World} {K : PySem.W.Frag} {mg : Str → Option Value} {base : Heap} {aN aE aR : Addr}
theorem sc_read_block : FnScope ["reading", "head", "name"] ["reading", "head"] (defScope (top 58)) := ⟨rfl, rfl, rfl, by decide +kernel, rfl, by decide +kernel, by decide +kernel⟩
theorem ok_read_block {f : Addr} {fd : FuncData} (F : Fun K "read_block" "read_block" (top 58) f fd) (T : Txt K mg aN aE aR) (m_Reading_name_behind : KnM P w K mg base CX0 aR "name_behind" 4 ["self", "head"] (NoX (R_name_behind aR))) (k_read_attributes : Kn0 P w K mg base "read_attributes" 4 ["reading"] (R_read_attributes aR)) (c_Entry_of : KnC P w K mg base aE "of" 10 (R_Entry_of aN aE)) : FnOk P w K mg base CX0 11 f fd ["reading", "head"] (Pr K (NoX (R_read_block aN aE aR))) := by
  have sc := sc_read_block
  refine okD F sc (fun ds os PP ⟨_, _, e, _⟩ => by rw [e]; rfl) ?_
  apply Exists.intro
  apply And.intro
  · intro cdv A outer s H hr
    have hu := hr.units
    have hu0 : (A.deeper (envOfC "read_block" (defScope (top 58)) s.heap.objs.size f cdv)).units + 1 < cLine := by omega
    exact (pb_cons (sx_set 2 sc.nd (px_methC_0 m_Reading_name_behind (hr.mono (by decide)) (px_var 0) (pxa_cons (px_var 1) pxa_nil)))
      (pb_one (sx_ret (px_cmeth c_Entry_of (hr.mono (by decide)) (px_gref T.a_Entry) (pxa_cons (px_var 2) (pxa_cons (px_callC0 k_read_attributes (hr.mono (by decide)) (pxa_cons (px_var 0) pxa_nil)) pxa_nil))))))
  · rintro ds os PP ⟨x, p, rfl, rfl, hg, k⟩ hx
    have hl : x.ra.ls[x.pre.length]? = some (x.h ++ nameText x.L) := by
      have e : x.ra.ls = x.pre ++ (x.h ++ nameText x.L) :: (linesOf x.T ++ x.post) := by unfold RA.ls RB.ra; simp
      rw [e]
      exact get_midG rfl
    refine q_setMC (st := fun y : NB => rdObj aR y.x) (st' := fun y : NB => rdObj aR ⟨y.x.ls, y.x.at_ + 1⟩) (⟨x.h, x.rd, x.L⟩ : NB) ev_var rfl rfl rfl (ev_cons ev_var ev_nil) rfl ⟨hg.hd, hg.nm, hl⟩ ?_
    have er : rdObj aR ⟨x.ra.ls, x.pre.length + 1⟩ = rdObj aR x.ra.rd := by unfold RA.rd RB.ra; simp
    have fin : ∀ (ρ : Rho) (Q : Po D), ρ.sl[0]? = some (some (.raw (.ref p))) → ρ.sl[2]? = some (some (.str (nameText x.L))) → ρ.os = [⟨p, rdObj aR x.ra.rd⟩] → Q.ok (entObj aN aE x.L (sortT x.T)) ⟨ρ.sl, [⟨p, rdObj aR x.ra.rd'⟩], ρ.lo⟩ →
        (fun ρ (P : Po D) => (dCons (dVar 2) (dCons (dCallC0 (R_read_attributes aR) (dCons (dVar 0) dNil)) dNil)) ρ ⟨fun ds ρ1 => R_Entry_of aN aE (.raw (.ref aE) :: ds) [] ⟨fun d _ => P.ok d ρ1, exN⟩, P.ex⟩) ρ Q := fun ρ Q h0 h2 hos q => by
      refine (ev_var (h := h2)) _ ?_
      refine callC_up (st := fun x : RA => rdObj aR x.rd) (st' := fun x : RA => rdObj aR x.rd') x.ra (ev_cons (ev_var (h := h0)) ev_nil) hos rfl hg.ra ?_
      exact ⟨x.L, x.T, _, rfl, .inl rfl, hg.nm, hg.ra.tb, q⟩
    dsimp only
    rw [show (RB.rd x).ls = x.ra.ls from rfl, show (RB.rd x).at_ = x.pre.length from rfl, er]
    exact fin _ _ rfl rfl rfl ⟨_, List.Sublist.refl _, k⟩
end
end K86

set_option Elab.async false
set_option linter.all false
set_option maxRecDepth 100000
set_option maxHeartbeats 2000000
namespace K86
open PySem PySem.Spec PyProof PyProof.Rows L2 TL DL
local macro_rules | `(tactic| walk_at "ev") => `(tactic| repeat' (with_reducible first
  | apply ev_c | (apply ev_var; with_unfolding_all exact rfl) | exact v_isStr | apply ev_op | apply ev_test | apply ev_and | apply ev_or | apply ev_not | apply ev_andV | apply ev_orV | apply ev_notV
  | apply ev_ifS | apply ev_ifI | apply ev_chain | apply ev_nil | apply ev_cons | apply ev_tup | apply ev_lst | apply ev_cb | apply ev_m0 | apply ev_m1 | apply ev_m2 | apply ev_sl | apply ev_noPart | apply ev_part | apply ev_revT | apply ev_yes
  | apply v_I0 | apply v_I | apply v_addS | apply v_eqS | apply v_eqI | apply v_eqB | apply v_neS | apply v_neI | apply v_inS | apply v_notInS | apply v_isN0 | apply v_isNS | apply v_isNT | apply v_notN0 | apply v_notNS | apply v_notNT
  | apply v_lenS | apply v_lenL | apply v_lenT | apply v_all | apply v_any | apply v_int1 | apply v_intb | apply v_max2 | apply v_min2 | apply v_join | apply v_split | apply v_part | apply v_lower | apply v_starts | apply v_find | apply v_slS | apply v_slT
  | apply ei_list | apply ei_tup | apply ei_str | apply ei_range1 | apply ei_enumS | apply eg_name | apply eg_nil | apply eg_cons | apply eg_tup
  | (intro _)))

/-! ### the draws -/
theorem toPy_ints : ∀ l : List Int, toPys (l.map D.int) = some (l.map PyData.int)
  | [] => rfl
  | s :: l => by
    rw [List.map_cons, toPys, toPy, toPy_ints l]
    rfl
theorem ints_shaped (l : List Int) : SeqAt.shaped (.list (l.map PyData.int)) = true := by
  unfold SeqAt.shaped
  rw [PyData.canLay0, lay_map l fun s hs => by rw [PyData.canLay0]]
  have : PyData.depthAll (l.map PyData.int) ≤ 0 := depth_map (n := 0) (fun s => by rw [PyData.depth]; exact Nat.le_refl _) l
  rw [PyData.depth]
  simp; omega
theorem ints_eqv (l : List Int) : PyData.eqv (.list (l.map PyData.int)) (.list []) = decide (l = []) := by
  cases l with
  | nil => rfl
  | cons x l => rw [PyData.eqv, List.map_cons, PyData.eqvAll]; simp
theorem d_dispC {ρ : Rho} {ks : List (List Nat)} {u : DA} {Q : Po D} (h : u ρ ⟨fun ds ρ1 => ∀ p, Fresh ρ1 p → Q.ok (.raw (.ref p)) (ρ1.add p (.dct ks ds)), Q.ex⟩) : dDispC ks u ρ Q := h
theorem d_lcC {ρ : Rho} {ds : List D} {gd : DG} {te : DX} {α : Type} {wi : DI} {l : List α} {enc g : α → D} {Q : Po D} (hi : EvA wi ρ ds) (e : ds = l.map enc) (hl : l.length ≤ 16777216)
    (turn : ∀ x ∈ l, ∃ ρ', EvG gd (enc x) ρ ρ' ∧ ρ'.os = ρ.os ∧ ρ'.lo = ρ.lo ∧ EvD te ρ' (g x)) (k : ∀ p, Fresh ρ p → Q.ok (.raw (.ref p)) (ρ.add p (.lst (l.map g)))) : dLcC wi gd dYes te ρ Q := hi _ (by
  subst e
  have bk : ∀ {ρ' : Rho}, ρ'.os = ρ.os → ρ'.lo = ρ.lo → ρ'.back ρ = ρ := fun {ρ'} h1 h2 => by
    cases ρ'; cases ρ
    dsimp only at h1 h2
    subst h1 h2
    rfl
  refine ⟨fun j acc ρ2 => ρ2 = ρ ∧ acc = (l.take j).map g, ⟨rfl, by simp⟩, ?_, ?_⟩
  · rintro j acc d ρ2 hd _ ⟨rfl, rfl⟩
    rw [List.getElem?_map] at hd
    cases hx : l[j]? with
    | none => rw [hx] at hd; cases hd
    | some x =>
      rw [hx] at hd
      cases hd
      have hj : j < l.length := (List.getElem?_eq_some_iff.mp hx).1
      obtain ⟨ρ', h1, h2, h3, h5⟩ := turn x (List.mem_of_getElem? hx)
      refine ⟨?_, h1 _ (ev_yes _ ?_)⟩
      · rw [List.length_map, List.length_take]
        omega
      · (try dsimp only)
        refine iteT ?_
        refine h5 _ ⟨bk h2 h3, ?_⟩
        have tk : l.take (j + 1) = l.take j ++ [x] := by
          rw [List.take_add_one, hx]
          rfl
        rw [tk]
        simp
  · rintro acc ρ2 p _ ⟨rfl, rfl⟩ hp
    have z : (l.map enc).length = l.length := by simp
    rw [z, List.take_length]
    exact k p hp)
theorem q_setIx {ρ : Rho} {to ti tv : DX} {v : DS} {P : PoS} {a : Addr} {l r : List Cell} {ds : List D} {i : Int} {j : Nat} {d : D} (hv : EvD tv ρ d) (ho : EvD to ρ (.raw (.ref a))) (hi : EvD ti ρ (.int i)) (hc : ρ.os = l ++ ⟨a, .lst ds⟩ :: r) (hj : ixN ds.length i = some j)
    (k : v (ρ.os' (l ++ ⟨a, .lst (ds.set j d)⟩ :: r)) P) : dSeq (dSetIx to ti tv) v ρ P := hv _ (ho _ (hi _ ⟨a, l, r, ds, i, j, rfl, hc, rfl, hj, k⟩))
theorem q_ifM {ρ : Rho} {ua : DT} {t v k : DS} {P : PoS} {b : Bool} (M : Rho → Prop) (hk : ∀ ρ', M ρ' → k ρ' P) (h : EvT ua ρ b) (h1 : (∀ ρ', M ρ' → k ρ' P) → b = true → t ρ { P with nx := fun ρ1 => k ρ1 P }) (h2 : (∀ ρ', M ρ' → k ρ' P) → b = false → v ρ { P with nx := fun ρ1 => k ρ1 P }) : dSeq (dIfS ua t v) k ρ P :=
  q_if h (h1 hk) (h2 hk)
def R__law_begun : DF := fun ds os P => ∃ cs : List Int, ds = [.lst (cs.map D.int)] ∧ os = [] ∧ cs.length ≤ 63 ∧ ∀ p q os', Dst p q 0 os' → P.ok (.raw (.ref p)) os'
abbrev R__law_draw : DF := Dr 1 (fun top : Nat => [.int (top : Int)]) (fun top => 0 < top ∧ top ≤ 1000) (fun top d => ∃ r : Nat, r < top ∧ d = .int (r : Int))
abbrev R__law_pick : DF := Dr 1 (fun l : List D => [.lst l]) (fun l => l ≠ [] ∧ l.length ≤ 1000) (fun l d => d ∈ l)
theorem modN (x : Int) {n : Nat} (h : 0 < n) : ∃ r : Nat, r < n ∧ x % (n : Int) = (r : Int) := by
  have h1 := Int.emod_nonneg x (show (n : Int) ≠ 0 by omega)
  have h2 := Int.emod_lt_of_pos x (show (0 : Int) < (n : Int) by omega)
  exact ⟨(x % (n : Int)).toNat, by omega, by omega⟩
section
variable {P : Program} {w : World} {K : PySem.W.Frag} {mg : Str → Option Value} {base : Heap} {aN aE aR : Addr}
theorem sc__law_begun : FnScope ["_law_script", "_law_cell"] ["_law_script"] (defScope (top 65)) := ⟨rfl, rfl, rfl, by decide +kernel, rfl, by decide +kernel, by decide +kernel⟩
theorem ok__law_begun {f : Addr} {fd : FuncData} (F : Fun K "_law_begun" "_law_begun" (top 65) f fd) (T : Txt K mg aN aE aR) : FnOk P w K mg base CX0 1 f fd ["_law_script"] (Pr K (NoX R__law_begun)) := by
  have sc := sc__law_begun
  refine okD F sc (fun ds os PP ⟨_, e, _⟩ => by rw [e]; rfl) ?_
  apply Exists.intro
  apply And.intro
  · intro cdv A outer s H hr
    have hu := hr.units
    have hu0 : (A.deeper (envOfC "_law_begun" (defScope (top 65)) s.heap.objs.size f cdv)).units + 1 < cLine := by omega
    exact (pb_one (sx_ret (px_dispC (pxp_cons [99, 101, 108, 108, 115] (px_ct call_list_of l_lstOf T.n_list (by decide +kernel) (pxa_cons (px_var 0) pxa_nil)) (pxp_cons [108, 101, 102, 116] (px_lcC (own := [("_law_cell", 1)]) (own1 1) rfl sc.nd (DL.ix_list (px_var 0)) (blkOk_by (N := ["_law_script", "_law_cell"]) (sc := defScope (top 65)) (by decide +kernel)) (fun _ _ _ _ _ => pg_name (i := 1) sc.nd rfl (Or.inl rfl)) (fun _ _ _ _ _ => pxts_nil) (fun _ _ _ _ _ => (px_if (DL.pt_cmp op_ge l_ge (px_var 1) (px_op op_pow l_pow px_int px_int)) (px_var 1) px_int))) (pxp_cons [97, 116] px_int pxp_nil))))))
  · rintro ds os PP ⟨cs, rfl, rfl, hc, k⟩ hx
    refine d_ret (d_dispC (d_cons ?_))
    refine (ev_cb (ev_cons ev_var ev_nil) v_lstOf : EvD _ _ (.lst (cs.map D.int))) _ ?_
    dsimp only
    refine d_cons ?_
    refine d_lcC (l := cs) (enc := D.int) (g := fun i => .int (if decide ((10 : Int) ^ 18 ≤ i) = true then i else 0)) (ei_list ev_var) rfl (by omega) (fun i _ => ⟨_, eg_name, rfl, rfl, ev_ifI (ev_test (ev_op ev_var (ev_op ev_c ev_c (v_I ⟨by decide, by decide, by decide⟩)) v_I0)) (fun _ => ev_var) (fun _ => ev_c)⟩) fun q hq => ?_
    dsimp only
    refine d_cons (ev_c _ ?_)
    dsimp only
    refine d_nil ?_
    dsimp only
    intro p hp
    refine ⟨_, List.Sublist.refl _, k p q _ ⟨cs, cs.map fun i => if decide ((10 : Int) ^ 18 ≤ i) = true then i else 0, 0, by simp, hc, Nat.le_refl _, ?_⟩⟩
    rw [List.map_map]
    rfl
theorem sc__law_draw : FnScope ["_law_m", "_law_top", "_law_k", "_law_spot", "_law_cell", "_law_rest", "_law_mixed"] ["_law_m", "_law_top"] (defScope (top 66)) := ⟨rfl, rfl, rfl, by decide +kernel, rfl, by decide +kernel, by decide +kernel⟩
theorem ok__law_draw {f : Addr} {fd : FuncData} (F : Fun K "_law_draw" "_law_draw" (top 66) f fd) (T : Txt K mg aN aE aR) : FnOk P w K mg base CX0 1 f fd ["_law_m", "_law_top"] (Pr K (NoX R__law_draw)) := by
  have sc := sc__law_draw
  refine okD F sc (fun ds os PP ⟨_, _, _, _, e, _⟩ => by rw [e]; rfl) ?_
  apply Exists.intro
  apply And.intro
  · intro cdv A outer s H hr
    have hu := hr.units
    have hu0 : (A.deeper (envOfC "_law_draw" (defScope (top 66)) s.heap.objs.size f cdv)).units + 1 < cLine := by omega
    exact (pb_cons (sx_set 2 sc.nd (px_dget hu0 (px_var 0) (px_str [97, 116])))
      (pb_cons (sx_dput hu0 (px_var 0) (px_str [97, 116]) (px_op op_add l_add (px_var 2) px_int))
      (pb_cons (sx_par 3 4 rfl sc.nd (pxa_cons (px_op op_mod l_mod (px_ct call_int1 l_int1 T.n_int (by decide +kernel) (pxa_cons (px_var 2) pxa_nil)) (px_cb (call_max2 rfl) l_max2 T.n_max (by decide +kernel) (pxa_cons px_int (pxa_cons (px_cb call_len l_len T.n_len PySem.boot_len (pxa_cons (px_dget hu0 (px_var 0) (px_str [99, 101, 108, 108, 115])) pxa_nil)) pxa_nil)))) (pxa_cons px_int pxa_nil)) rfl (by decide))
      (pb_cons (sx_if (DL.pt_cmp (op_neD hu) l_neD (px_dget hu0 (px_var 0) (px_str [99, 101, 108, 108, 115])) (px_lst pxa_nil)) (pb_cons (sx_par 4 5 rfl sc.nd (pxa_cons (px_ix L2.ix_list l_ixL (px_dget hu0 (px_var 0) (px_str [99, 101, 108, 108, 115])) (px_var 3)) (pxa_cons (px_ix L2.ix_list l_ixL (px_dget hu0 (px_var 0) (px_str [108, 101, 102, 116])) (px_var 3)) pxa_nil)) rfl (by decide))
      (pb_one (sx_if (DL.pt_cmp op_gt l_gt (px_var 5) px_int) (pb_cons (sx_setIx (px_dget hu0 (px_var 0) (px_str [108, 101, 102, 116])) (px_var 3) (px_op op_fdivW l_fdivW (px_var 5) (px_var 1)) (pg_sub (px_dget hu0 (px_var 0) (px_str [108, 101, 102, 116])) (px_var 3) set_list))
      (pb_one (sx_ret (px_op op_mod l_mod (px_ct call_int1 l_int1 T.n_int (by decide +kernel) (pxa_cons (px_var 5) pxa_nil)) (px_var 1))))) pb_nil))) pb_nil)
      (pb_cons (sx_set 6 sc.nd (px_op op_add l_add (px_op op_mul l_mul (px_op op_mod l_mod (px_ct call_int1 l_int1 T.n_int (by decide +kernel) (pxa_cons (px_var 4) pxa_nil)) px_int) (px_op op_add l_add (px_op op_mul l_mul px_int (px_var 2)) px_int)) (px_op op_mul l_mul (px_op op_mul l_mul px_int (px_var 2)) (px_var 2))))
      (pb_cons (sx_set 6 sc.nd (px_op op_mod l_mod (px_ct call_int1 l_int1 T.n_int (by decide +kernel) (pxa_cons (px_op op_add l_add (px_op op_add l_add (px_var 6) (px_op op_mul l_mul px_int (px_var 2))) px_int) pxa_nil)) px_int))
      (pb_one (sx_ret (px_op op_mod l_mod (px_op op_fdivW l_fdivW (px_op op_mod l_mod (px_ct call_int1 l_int1 T.n_int (by decide +kernel) (pxa_cons (px_op op_mul l_mul (px_var 6) (px_var 6)) pxa_nil)) px_int) px_int) (px_var 1))))))))))
  · rintro ds os PP ⟨top, p, q, n, rfl, ⟨cs, ls, a, h1, h2, h3, rfl⟩, hn, ⟨ht, ht2⟩, k⟩ hx
    have ha : a ≤ 1000000 := by omega
    have st : ∀ (b : Nat), D.dct (putK1 [kCELLS, kLEFT, kAT] kAT) (putK2 [kCELLS, kLEFT, kAT] kAT [.lst (cs.map D.int), .raw (.ref q), .int ((b : Nat) : Int)] (.int ((b : Int) + 1))) = stD q cs (b + 1) := fun b => rfl
    refine q_set (d := .int (a : Int)) (ev_dget ev_var ev_c (sees_cell (l := []) rfl) rfl) eg_name ?_
    refine q_dput (l := []) (s := kAT) (d := .int ((a : Int) + 1)) (ev_op ev_var ev_c v_I0) ev_var ev_c rfl (by decide) (by decide) ?_
    rw [st a]
    obtain ⟨sp, hsp, esp⟩ := modN (a : Int) (n := if cs.length > 1 then cs.length else 1) (by split <;> omega)
    have en : (if (((cs.map D.int).length : Nat) : Int) > 1 then (((cs.map D.int).length : Nat) : Int) else 1) = ((if cs.length > 1 then cs.length else 1 : Nat) : Int) := by
      rw [List.length_map]
      by_cases z : cs.length > 1
      · have : (cs.length : Int) > 1 := by omega
        rw [if_pos this, if_pos z]
      · have : ¬ (cs.length : Int) > 1 := by omega
        rw [if_neg this, if_neg z]; rfl
    refine q_par (x := .int (sp : Int)) (y := .int 5) (ev_cons (evd_eq (ev_op (ev_cb (ev_cons ev_var ev_nil) v_int1) (evd_eq (ev_cb (ev_cons ev_c (ev_cons (ev_cb (ev_cons (ev_dget (d := .lst (cs.map D.int)) ev_var ev_c (sees_cell (l := []) rfl) rfl) ev_nil) v_lenL) ev_nil)) v_max2) (by rw [en])) (v_I (by split <;> omega))) (by rw [esp])) (ev_cons ev_c ev_nil)) ?_
    refine q_ifM (b := !decide (cs = [])) (fun ρ' => ∃ (c : Int) (s5 : Option D) (ls' : List Int), cs.length = ls'.length ∧ ρ' = ⟨[some (.raw (.ref p)), some (.int (top : Int)), some (.int (a : Int)), some (.int (sp : Int)), some (.int c), s5, none], [⟨p, stD q cs (a + 1)⟩, ⟨q, .lst (ls'.map D.int)⟩], fun _ => False⟩) ?_ ?_ ?_ ?_
    · rintro ρ' ⟨c, s5, ls', hl, rfl⟩
      have hc1 := Int.emod_nonneg c (show (2147483629 : Int) ≠ 0 by decide)
      have hc2 := Int.emod_lt_of_pos c (show (0 : Int) < 2147483629 by decide)
      refine q_set (d := .int (c % 2147483629 * (2 * (a : Int) + 3) + 7919 * (a : Int) * (a : Int))) (ev_op (ev_op (ev_op (ev_cb (ev_cons ev_var ev_nil) v_int1) ev_c (v_I (by decide))) (ev_op (ev_op ev_c ev_var (v_I (.inl ⟨by decide, by decide⟩))) ev_c v_I0) (v_I (.inl ⟨by omega, by omega⟩))) (ev_op (ev_op ev_c ev_var (v_I (.inl ⟨by decide, by decide⟩))) ev_var (v_I (.inr ⟨by omega, by omega⟩))) v_I0) eg_name ?_
      generalize c % 2147483629 * (2 * (a : Int) + 3) + 7919 * (a : Int) * (a : Int) = m1
      have hd1 := Int.emod_nonneg (m1 + 104729 * (a : Int) + 17) (show (2147483647 : Int) ≠ 0 by decide)
      have hd2 := Int.emod_lt_of_pos (m1 + 104729 * (a : Int) + 17) (show (0 : Int) < 2147483647 by decide)
      refine q_set (d := .int ((m1 + 104729 * (a : Int) + 17) % 2147483647)) (ev_op (ev_cb (ev_cons (ev_op (ev_op ev_var (ev_op ev_c ev_var (v_I (.inl ⟨by decide, by decide⟩))) v_I0) ev_c v_I0) ev_nil) v_int1) ev_c (v_I (by decide))) eg_name ?_
      generalize (m1 + 104729 * (a : Int) + 17) % 2147483647 = m2 at hd1 hd2 ⊢
      obtain ⟨r, hr, er⟩ := modN (m2 * m2 % 2147483629 / 11) ht
      refine s_ret (d := .int (r : Int)) (evd_eq (ev_op (ev_op (ev_op (ev_cb (ev_cons (ev_op ev_var ev_var (v_I (.inl ⟨by omega, by omega⟩))) ev_nil) v_int1) ev_c (v_I (by decide))) ev_c (v_I ⟨by decide, by decide⟩)) ev_var (v_I (by omega))) (by rw [er])) ⟨_, List.Sublist.refl _, k _ _ ⟨r, hr, rfl⟩ ⟨cs, ls', a + 1, hl, h2, by omega, rfl⟩⟩
    · refine evt_eq (ev_test (ev_op (ev_dget (d := .lst (cs.map D.int)) ev_var ev_c (sees_cell (l := []) rfl) rfl) (ev_lst ev_nil (by simp)) (v_neD (p := .list (cs.map PyData.int)) (q := .list []) ?_ rfl (ints_shaped cs) rfl))) (by rw [ints_eqv])
      show (toPys (cs.map D.int)).map PyData.list = _
      rw [toPy_ints]; rfl
    · intro hk hb
      have hne : cs ≠ [] := by simpa using hb
      have hpos : 0 < cs.length := List.length_pos_iff.mpr hne
      have hspc : sp < cs.length := by
        by_cases z : cs.length > 1
        · rw [if_pos z] at hsp; exact hsp
        · rw [if_neg z] at hsp; omega
      have g1 : (cs.map D.int)[sp]? = some (.int (cs[sp]'hspc)) := by rw [List.getElem?_map, List.getElem?_eq_getElem hspc]; rfl
      have g2 : (ls.map D.int)[sp]? = some (.int (ls[sp]'(h1 ▸ hspc))) := by rw [List.getElem?_map, List.getElem?_eq_getElem (h1 ▸ hspc)]; rfl
      generalize cs[sp]'hspc = c0 at g1
      generalize ls[sp]'(h1 ▸ hspc) = l0 at g2
      refine q_par (x := .int c0) (y := .int l0) (ev_cons (ev_op (ev_dget (d := .lst (cs.map D.int)) ev_var ev_c (sees_cell (l := []) rfl) rfl) ev_var (v_ixL (.inl rfl) (atI_nat g1))) (ev_cons (ev_op (ev_dget (d := .raw (.ref q)) ev_var ev_c (sees_cell (l := []) rfl) rfl) ev_var (v_ixL (sees_cell (l := [⟨p, stD q cs (a + 1)⟩]) rfl) (atI_nat g2))) ev_nil)) ?_
      refine s_if (b := decide (0 < l0)) (ev_test (ev_op ev_var ev_c v_I0)) (fun _ => ?_) (fun _ => ?_)
      · refine q_setIx (l := [⟨p, stD q cs (a + 1)⟩]) (r := []) (a := q) (ds := ls.map D.int) (i := (sp : Int)) (j := sp) (d := .int (l0 / (top : Int))) (ev_op ev_var ev_var (v_I ⟨by omega, ?_⟩)) (ev_dget (d := .raw (.ref q)) ev_var ev_c (sees_cell (l := []) rfl) rfl) ev_var rfl ?_ ?_
        · have := Nat.log2_le_self top
          have e : ((top : Int)).natAbs = top := rfl
          rw [e]; omega
        · unfold ixN
          rw [List.length_map, if_pos (by omega), if_pos (by omega)]
          rfl
        · obtain ⟨r, hr, er⟩ := modN l0 ht
          refine s_ret (d := .int (r : Int)) (evd_eq (ev_op (ev_cb (ev_cons ev_var ev_nil) v_int1) ev_var (v_I (by omega))) (by rw [er])) ⟨_, List.Sublist.refl _, k _ _ ⟨r, hr, rfl⟩ ⟨cs, ls.set sp (l0 / (top : Int)), a + 1, by rw [List.length_set]; exact h1, h2, by omega, ?_⟩⟩
          rw [List.map_set]
          rfl
      · exact s_next (hk _ ⟨c0, _, ls, h1, rfl⟩)
    · intro hk hb
      exact s_next (hk _ ⟨5, _, ls, h1, rfl⟩)
theorem sc__law_pick : FnScope ["_law_m", "_law_items"] ["_law_m", "_law_items"] (defScope (top 67)) := ⟨rfl, rfl, rfl, by decide +kernel, rfl, by decide +kernel, by decide +kernel⟩
theorem ok__law_pick {f : Addr} {fd : FuncData} (F : Fun K "_law_pick" "_law_pick" (top 67) f fd) (T : Txt K mg aN aE aR) (k__law_draw : Kn0 P w K mg base "_law_draw" 1 ["_law_m", "_law_top"] R__law_draw) : FnOk P w K mg base CX0 2 f fd ["_law_m", "_law_items"] (Pr K (NoX R__law_pick)) := by
  have sc := sc__law_pick
  refine okD F sc (fun ds os PP ⟨_, _, _, _, e, _⟩ => by rw [e]; rfl) ?_
  apply Exists.intro
  apply And.intro
  · intro cdv A outer s H hr
    have hu := hr.units
    have hu0 : (A.deeper (envOfC "_law_pick" (defScope (top 67)) s.heap.objs.size f cdv)).units + 1 < cLine := by omega
    exact (pb_one (sx_ret (px_ix L2.ix_list l_ixL (px_var 1) (px_callC0 k__law_draw (hr.mono (by decide)) (pxa_cons (px_var 0) (pxa_cons (px_cb call_len l_len T.n_len PySem.boot_len (pxa_cons (px_var 1) pxa_nil)) pxa_nil))))))
  · rintro ds os PP ⟨l, p, q, n, rfl, hd, hn, ⟨hne, hl⟩, k⟩ hx
    have hpos : 0 < l.length := List.length_pos_iff.mpr hne
    refine d_ret (d_op ?_)
    refine (ev_var : EvD (dVar 1) _ (.lst l)) _ ?_
    refine d_draw (r := []) l.length (ev_cons ev_var (ev_cons (ev_cb (ev_cons ev_var ev_nil) v_lenL) ev_nil)) rfl (by rw [List.append_nil]; exact List.Perm.refl _) hd hn ⟨hpos, hl⟩ fun d os' ⟨r, hr, ed⟩ hd' => ?_
    subst ed
    have g : l[r]? = some (l[r]'hr) := List.getElem?_eq_getElem hr
    exact ⟨l, (r : Int), _, .inl rfl, rfl, atI_nat g, os', by rw [List.append_nil]; exact List.Sublist.refl _, k _ _ (List.getElem_mem hr) hd'⟩
end
end K86

set_option Elab.async false
set_option linter.all false
set_option maxRecDepth 100000
set_option maxHeartbeats 2000000
namespace K86
open PySem PySem.Spec PyProof PyProof.Rows L2 TL DL
local macro_rules | `(tactic| walk_at "ev") => `(tactic| repeat' (with_reducible first
  | apply ev_c | (apply ev_var; with_unfolding_all exact rfl) | exact v_isStr | apply ev_op | apply ev_test | apply ev_and | apply ev_or | apply ev_not | apply ev_andV | apply ev_orV | apply ev_notV
  | apply ev_ifS | apply ev_ifI | apply ev_chain | apply ev_nil | apply ev_cons | apply ev_tup | apply ev_lst | apply ev_cb | apply ev_m0 | apply ev_m1 | apply ev_m2 | apply ev_sl | apply ev_noPart | apply ev_part | apply ev_revT | apply ev_yes
  | apply v_I0 | apply v_I | apply v_addS | apply v_eqS | apply v_eqI | apply v_eqB | apply v_neS | apply v_neI | apply v_inS | apply v_notInS | apply v_isN0 | apply v_isNS | apply v_isNT | apply v_notN0 | apply v_notNS | apply v_notNT
  | apply v_lenS | apply v_lenL | apply v_lenT | apply v_all | apply v_any | apply v_int1 | apply v_intb | apply v_max2 | apply v_min2 | apply v_join | apply v_split | apply v_part | apply v_lower | apply v_starts | apply v_find | apply v_slS | apply v_slT
  | apply ei_list | apply ei_tup | apply ei_str | apply ei_range1 | apply ei_enumS | apply eg_name | apply eg_nil | apply eg_cons | apply eg_tup
  | (intro _)))

/-! ### drawn values, drawn tables -/
def PARTS : List (List Nat) := [[97], [65, 98], [32], [32, 32, 120], [58, 32], [61, 32], [84, 82, 85, 69], [110, 97, 109, 101, 58, 32, 99, 110, 61, 97], [44, 43, 61], [92], [48], [45, 53], [61], [58], [40, 42, 41], [120, 120, 120, 120, 120, 120, 120, 120, 120, 120, 120, 120, 120, 120, 120, 120, 120, 120, 120, 120, 120, 120, 120, 120, 120]]
def WORDS : List (List Nat) := [[99, 110], [110, 97, 109, 101], [97, 100, 100], [100, 101, 108, 101, 116, 101], [109, 111, 100, 105, 102, 121], [114, 101, 110, 97, 109, 101], [108, 101, 97, 102], [117, 110, 100, 101, 114], [107, 101, 101, 112], [107, 105, 110, 100], [122], [97, 98, 99, 100, 101, 102, 103, 104, 105, 106, 107, 108]]

structure GoodV (s : List Nat) : Prop where
  ne : s ≠ []
  nl : 10 ∉ s
  sz : s.length ≤ 75
  ch : charsOk s
theorem part_ok : ∀ s ∈ PARTS, s ≠ [] ∧ 10 ∉ s ∧ s.length ≤ 25 ∧ ∀ c ∈ s, c < 128 := by decide
theorem goodV_join : ∀ (l : List (List Nat)), l ≠ [] → (∀ s ∈ l, s ∈ PARTS) → joinL [] l ≠ [] ∧ 10 ∉ joinL [] l ∧ (joinL [] l).length ≤ 25 * l.length ∧ ∀ c ∈ joinL [] l, c < 128
  | [], h, _ => absurd rfl h
  | [x], _, h => by
    obtain ⟨h1, h2, h3, h4⟩ := part_ok x (h x (by simp))
    exact ⟨h1, h2, by simp only [joinL, List.length_cons, List.length_nil]; omega, h4⟩
  | x :: y :: l, _, h => by
    obtain ⟨h1, h2, h3, h4⟩ := part_ok x (h x (by simp))
    obtain ⟨g1, g2, g3, g4⟩ := goodV_join (y :: l) (by simp) fun s hs => h s (by simp [hs])
    have e : joinL [] (x :: y :: l) = x ++ joinL [] (y :: l) := by simp [joinL]
    rw [e]
    refine ⟨by simp [h1], by simp [h2, g2], ?_, ?_⟩
    · rw [List.length_append, List.length_cons (as := y :: l)]; omega
    · intro c hc
      rcases List.mem_append.mp hc with z | z
      · exact h4 c z
      · exact g4 c z
theorem goodV_val {s : List Nat} (h : GoodV s) : isValueL s = true := by
  unfold isValueL
  simp [h.ne, h.nl]
structure DrawnT (T : Tab) : Prop where
  nd : (T.map Prod.fst).Nodup
  wd : ∀ x ∈ T, x.1 ∈ WORDS
  ne : ∀ x ∈ T, x.2 ≠ []
  cnt : ∀ x ∈ T, x.2.length ≤ 3
  vl : ∀ x ∈ T, ∀ v ∈ x.2, GoodV v
def putT (T : Tab) (w : List Nat) (vs : List (List Nat)) : Tab := match kix (T.map Prod.fst) w with
  | some j => T.set j (w, vs)
  | none => T ++ [(w, vs)]
theorem kix_at : ∀ {ks : List (List Nat)} {w : List Nat} {j : Nat}, kix ks w = some j → ks[j]? = some w := fun {ks w j} h => by
  unfold kix at h
  obtain ⟨h1, h2, _⟩ := List.findIdx?_eq_some_iff_getElem.mp h
  rw [List.getElem?_eq_getElem h1]
  have : ks[j] = w := by simpa using h2
  rw [this]
theorem kix_no {ks : List (List Nat)} {w : List Nat} (h : kix ks w = none) : w ∉ ks := fun z => by
  have := kix_mem (ks := ks) (k := w)
  rw [h, decide_eq_true z] at this
  cases this
theorem set_self {α : Type} : ∀ {l : List α} {j : Nat} {a : α}, l[j]? = some a → l.set j a = l
  | [], _, _, h => by simp at h
  | x :: l, 0, a, h => by
    have : x = a := by simpa using h
    rw [this]; rfl
  | x :: l, j + 1, a, h => by
    have h : l[j]? = some a := by simpa using h
    rw [List.set_cons_succ, set_self h]
theorem put_keys (T : Tab) (w : List Nat) (vs : List (List Nat)) : (putT T w vs).map Prod.fst = putK1 (T.map Prod.fst) w := by
  unfold putT putK1
  cases h : kix (T.map Prod.fst) w with
  | none => simp
  | some j =>
    dsimp only
    rw [List.map_set]
    exact set_self (kix_at h)
theorem put_vals (T : Tab) (w : List Nat) (vs : List (List Nat)) : ((putT T w vs).map fun x => tupS x.2) = putK2 (T.map Prod.fst) w (T.map fun x => tupS x.2) (tupS vs) := by
  unfold putT putK2
  cases h : kix (T.map Prod.fst) w with
  | none => simp
  | some j =>
    dsimp only
    rw [List.map_set]
theorem put_tab (T : Tab) (w : List Nat) (vs : List (List Nat)) : tabD (putT T w vs) = .dct (putK1 (T.map Prod.fst) w) (putK2 (T.map Prod.fst) w (T.map fun x => tupS x.2) (tupS vs)) := by
  unfold tabD
  rw [put_keys, put_vals]
theorem put_mem {T : Tab} {w : List Nat} {vs : List (List Nat)} {x} (h : x ∈ putT T w vs) : x ∈ T ∨ x = (w, vs) := by
  unfold putT at h
  split at h
  · exact List.mem_or_eq_of_mem_set h
  · rcases List.mem_append.mp h with z | z
    · exact .inl z
    · exact .inr (List.mem_singleton.mp z)
theorem put_len (T : Tab) (w : List Nat) (vs : List (List Nat)) : (putT T w vs).length ≤ T.length + 1 := by
  unfold putT
  split
  · rw [List.length_set]; omega
  · simp
theorem put_drawn {T : Tab} {w : List Nat} {vs : List (List Nat)} (h : DrawnT T) (hw : w ∈ WORDS) (h1 : vs ≠ []) (h3 : vs.length ≤ 3) (hv : ∀ v ∈ vs, GoodV v) : DrawnT (putT T w vs) := by
  refine ⟨?_, fun x hx => ?_, fun x hx => ?_, fun x hx => ?_, fun x hx => ?_⟩
  · rw [put_keys]
    unfold putK1
    cases z : kix (T.map Prod.fst) w with
    | some j => exact h.nd
    | none => exact List.nodup_append.mpr ⟨h.nd, by simp, fun a ha b hb e => by
        have : b = w := by simpa using hb
        exact kix_no z (by rw [← this, ← e]; exact ha)⟩
  · rcases put_mem hx with z | z
    · exact h.wd x z
    · rw [z]; exact hw
  · rcases put_mem hx with z | z
    · exact h.ne x z
    · rw [z]; exact h1
  · rcases put_mem hx with z | z
    · exact h.cnt x z
    · rw [z]; exact h3
  · rcases put_mem hx with z | z
    · exact h.vl x z
    · rw [z]; exact hv
theorem word_ok : ∀ s ∈ WORDS, isWordL s = true := by decide
theorem drawn_good {T : Tab} (h : DrawnT T) (hl : T.length < 64) : GoodTab T where
  nd := h.nd
  wd := fun x hx => word_ok _ (h.wd x hx)
  ne := h.ne
  cnt := fun x hx => Nat.le_trans (h.cnt x hx) (by decide)
  sz := fun x hx v hv => Nat.le_trans (h.vl x hx v hv).sz (by decide)
  vl := fun x hx v hv => goodV_val (h.vl x hx v hv)
  ch := fun x hx v hv => (h.vl x hx v hv).ch
  len := hl
theorem strs_of : ∀ {l : List D} {p : List Nat → Prop}, (∀ d ∈ l, ∃ s, d = .str s ∧ p s) → ∃ m : List (List Nat), l = strsD m ∧ m.length = l.length ∧ ∀ s ∈ m, p s
  | [], _, _ => ⟨[], rfl, rfl, fun _ h => by cases h⟩
  | d :: l, p, h => by
    obtain ⟨s, e, hs⟩ := h d (by simp)
    obtain ⟨m, e2, e3, h2⟩ := strs_of (l := l) (p := p) fun x hx => h x (by simp [hx])
    refine ⟨s :: m, by rw [e, e2]; rfl, by simp [e3], fun x hx => ?_⟩
    rcases List.mem_cons.mp hx with z | z
    · rw [z]; exact hs
    · exact h2 x z
abbrev noArgs : Unit → List D := fun _ => []
abbrev R__law_value : DF := Dr 4 noArgs (fun _ => True) (fun _ d => ∃ s, d = .str s ∧ GoodV s)
abbrev R__law_table : DF := Dr 85 noArgs (fun _ => True) (fun _ d => ∃ T, d = tabD T ∧ DrawnT T ∧ T.length ≤ 6)
theorem mem_strs {d : D} {l : List (List Nat)} (h : d ∈ strsD l) : ∃ s, d = .str s ∧ s ∈ l := by
  obtain ⟨s, hs, e⟩ := List.mem_map.mp h
  exact ⟨s, e.symm, hs⟩
section
variable {P : Program} {w : World} {K : PySem.W.Frag} {mg : Str → Option Value} {base : Heap} {aN aE aR : Addr}
theorem sc__law_value : FnScope ["_law_m", "_law_some", "_law_parts", "_law_k"] ["_law_m"] (defScope (top 68)) := ⟨rfl, rfl, rfl, by decide +kernel, rfl, by decide +kernel, by decide +kernel⟩
theorem ok__law_value {f : Addr} {fd : FuncData} (F : Fun K "_law_value" "_law_value" (top 68) f fd) (T : Txt K mg aN aE aR) (k__law_pick : Kn0 P w K mg base "_law_pick" 2 ["_law_m", "_law_items"] R__law_pick) : FnOk P w K mg base CX0 3 f fd ["_law_m"] (Pr K (NoX R__law_value)) := by
  have sc := sc__law_value
  refine okD F sc (fun ds os PP ⟨_, _, _, _, e, _⟩ => by rw [e]; rfl) ?_
  apply Exists.intro
  apply And.intro
  · intro cdv A outer s H hr
    have hu := hr.units
    have hu0 : (A.deeper (envOfC "_law_value" (defScope (top 68)) s.heap.objs.size f cdv)).units + 1 < cLine := by omega
    exact (pb_cons (sx_set 1 sc.nd (px_lst (pxa_cons (px_str [97]) (pxa_cons (px_str [65, 98]) (pxa_cons (px_str [32]) (pxa_cons (px_str [32, 32, 120]) (pxa_cons (px_str [58, 32]) (pxa_cons (px_str [61, 32]) (pxa_cons (px_str [84, 82, 85, 69]) (pxa_cons (px_str [110, 97, 109, 101, 58, 32, 99, 110, 61, 97]) (pxa_cons (px_str [44, 43, 61]) (pxa_cons (px_str [92]) (pxa_cons (px_str [48]) (pxa_cons (px_str [45, 53]) (pxa_cons (px_str [61]) (pxa_cons (px_str [58]) (pxa_cons (px_str [40, 42, 41]) (pxa_cons (px_op op_repS l_repS (px_str [120]) px_int) pxa_nil))))))))))))))))))
      (pb_cons (sx_setLc 2 (own := [("_law_k", 3)]) (own1 3) rfl sc.nd (sw_true rfl rfl rfl (by decide +kernel)) (DL.ix_range1 T.n_range (pxa_cons (px_callC0 k__law_pick (hr.mono (by decide)) (pxa_cons (px_var 0) (pxa_cons (px_lst (pxa_cons px_int (pxa_cons px_int (pxa_cons px_int (pxa_cons px_int pxa_nil))))) pxa_nil))) pxa_nil)) (blkOk_by (N := ["_law_m", "_law_some", "_law_parts", "_law_k"]) (sc := defScope (top 68)) (by decide +kernel)) (fun _ _ _ _ _ => pg_name (i := 3) sc.nd rfl (Or.inl rfl)) (fun _ _ _ _ _ => pxts_nil) (fun _ _ _ _ _ => (px_callC0 k__law_pick (hr.mono (by decide)) (pxa_cons (px_var 0) (pxa_cons (px_var 1) pxa_nil)))))
      (pb_one (sx_ret (px_m1 PySem.F.slot_str_join PySem.F.type_str_join mt_join l_join (px_str []) (px_var 2))))))
  · rintro ds os PP ⟨x, p, q, n, rfl, hd, hn, _, k⟩ hx
    refine q_set (d := .lst (strsD PARTS)) (ev_lst (ev_cons ev_c (ev_cons ev_c (ev_cons ev_c (ev_cons ev_c (ev_cons ev_c (ev_cons ev_c (ev_cons ev_c (ev_cons ev_c (ev_cons ev_c (ev_cons ev_c (ev_cons ev_c (ev_cons ev_c (ev_cons ev_c (ev_cons ev_c (ev_cons ev_c (ev_cons (ev_op ev_c ev_c (v_repS (n := 25) rfl (by decide) (by decide))) ev_nil)))))))))))))))) (by decide)) eg_name ?_
    refine q_setN (d_lc (d_rng (d_cons ?_)))
    refine d_draw (r := []) [.int 1, .int 1, .int 2, .int 3] (ev_cons ev_var (ev_cons (ev_lst (ev_cons ev_c (ev_cons ev_c (ev_cons ev_c (ev_cons ev_c ev_nil)))) (by decide)) ev_nil)) rfl (by rw [List.append_nil]; exact List.Perm.refl _) hd (by omega) ⟨by simp, by decide⟩ fun d os1 hm hd1 => ?_
    (try dsimp only)
    refine d_nil ?_
    (try dsimp only)
    have hj : ∃ j : Int, d = .int j ∧ 1 ≤ j ∧ j ≤ 3 := by
      simp only [List.mem_cons, List.not_mem_nil, or_false] at hm
      rcases hm with e | e | e | e <;> exact ⟨_, e, by decide, by decide⟩
    obtain ⟨j, rfl, j1, j3⟩ := hj
    refine ⟨j, rfl, by omega, by omega, ?_⟩
    have hlen : (intsD 0 j.toNat).length = j.toNat := by simp [intsD]
    refine lc_draws (out := fun d => ∃ s, d = .str s ∧ s ∈ PARTS) (r := []) (c := 1) rfl hd1 (by rw [hlen]; omega) (fun i d os' Q' hi hd' kk => ?_) fun l os' hl ho hd' => ?_
    · have hil : i < j.toNat := by rw [← hlen]; exact (List.getElem?_eq_some_iff.mp hi).1
      refine eg_name _ ?_
      refine d_draw (r := []) (strsD PARTS) (ev_cons ev_var (ev_cons ev_var ev_nil)) rfl (List.Perm.refl _) hd' (by omega) ⟨by decide, by decide⟩ fun d2 os2 hm2 hd2 => ?_
      exact kk _ d2 os2 (mem_strs hm2) hd2
    · obtain ⟨m, rfl, hml, hm⟩ := strs_of ho
      rw [hlen] at hl hd'
      have hml2 : m.length = j.toNat := by rw [← hl]; simp [strsD]
      have hne : m ≠ [] := fun z => by rw [z] at hml2; simp at hml2; omega
      obtain ⟨v1, v2, v3, v4⟩ := goodV_join m hne hm
      have hm3 : m.length ≤ 3 := by omega
      have hsum : (m.map List.length).sum ≤ 25 * m.length := sum_le m fun s hs => (part_ok s (hm s hs)).2.2.1
      refine s_ret (d := .str (joinL [] m)) (ev_m1 ev_c ev_var (v_join (sep := []) (by simp only [List.length_nil]; omega))) ⟨_, List.Sublist.refl _, ?_⟩
      (try dsimp only)
      rw [List.append_nil]
      exact k _ _ ⟨_, rfl, v1, v2, by omega, v4⟩ (hd'.mono (by omega))
theorem sc__law_table : FnScope ["_law_m", "_law_some", "_law_found", "_law_k", "_law_turn"] ["_law_m"] (defScope (top 69)) := ⟨rfl, rfl, rfl, by decide +kernel, rfl, by decide +kernel, by decide +kernel⟩
theorem ok__law_table {f : Addr} {fd : FuncData} (F : Fun K "_law_table" "_law_table" (top 69) f fd) (T : Txt K mg aN aE aR) (k__law_draw : Kn0 P w K mg base "_law_draw" 1 ["_law_m", "_law_top"] R__law_draw) (k__law_pick : Kn0 P w K mg base "_law_pick" 2 ["_law_m", "_law_items"] R__law_pick) (k__law_value : Kn0 P w K mg base "_law_value" 3 ["_law_m"] R__law_value) : FnOk P w K mg base CX0 4 f fd ["_law_m"] (Pr K (NoX R__law_table)) := by
  have sc := sc__law_table
  refine okD F sc (fun ds os PP ⟨_, _, _, _, e, _⟩ => by rw [e]; rfl) ?_
  apply Exists.intro
  apply And.intro
  · intro cdv A outer s H hr
    have hu := hr.units
    have hu0 : (A.deeper (envOfC "_law_table" (defScope (top 69)) s.heap.objs.size f cdv)).units + 1 < cLine := by omega
    exact (pb_cons (sx_set 1 sc.nd (px_lst (pxa_cons (px_str [99, 110]) (pxa_cons (px_str [110, 97, 109, 101]) (pxa_cons (px_str [97, 100, 100]) (pxa_cons (px_str [100, 101, 108, 101, 116, 101]) (pxa_cons (px_str [109, 111, 100, 105, 102, 121]) (pxa_cons (px_str [114, 101, 110, 97, 109, 101]) (pxa_cons (px_str [108, 101, 97, 102]) (pxa_cons (px_str [117, 110, 100, 101, 114]) (pxa_cons (px_str [107, 101, 101, 112]) (pxa_cons (px_str [107, 105, 110, 100]) (pxa_cons (px_str [122]) (pxa_cons (px_str [97, 98, 99, 100, 101, 102, 103, 104, 105, 106, 107, 108]) pxa_nil))))))))))))))
      (pb_cons (sx_set 2 sc.nd px_dictC)
      (pb_cons (sx_for PassesOwn.never rfl (DL.ix_range1 T.n_range (pxa_cons (px_callC0 k__law_draw (hr.mono (by decide)) (pxa_cons (px_var 0) (pxa_cons px_int pxa_nil))) pxa_nil)) (gx_name 3 sc.nd) (pb_one (sx_dput hu0 (px_var 2) (px_callC0 k__law_pick (hr.mono (by decide)) (pxa_cons (px_var 0) (pxa_cons (px_var 1) pxa_nil))) (px_ct call_tuple_of l_tupOf T.n_tuple (by decide +kernel) (pxa_cons (px_lc (own := [("_law_turn", 4)]) (own1 4) rfl sc.nd (DL.ix_range1 T.n_range (pxa_cons (px_op op_add l_add px_int (px_callC0 k__law_draw (hr.mono (by decide)) (pxa_cons (px_var 0) (pxa_cons px_int pxa_nil)))) pxa_nil)) (blkOk_by (N := ["_law_m", "_law_some", "_law_found", "_law_k", "_law_turn"]) (sc := defScope (top 69)) (by decide +kernel)) (fun _ _ _ _ _ => pg_name (i := 4) sc.nd rfl (Or.inl rfl)) (fun _ _ _ _ _ => pxts_nil) (fun _ _ _ _ _ => (px_callC0 k__law_value (hr.mono (by decide)) (pxa_cons (px_var 0) pxa_nil)))) pxa_nil)))))
      (pb_one (sx_ret (px_freeze (px_var 2)))))))
  · rintro ds os PP ⟨x, p, q, n, rfl, hd, hn, _, k⟩ hx
    refine q_set (d := .lst (strsD WORDS)) (ev_lst (ev_cons ev_c (ev_cons ev_c (ev_cons ev_c (ev_cons ev_c (ev_cons ev_c (ev_cons ev_c (ev_cons ev_c (ev_cons ev_c (ev_cons ev_c (ev_cons ev_c (ev_cons ev_c (ev_cons ev_c ev_nil)))))))))))) (by decide)) eg_name ?_
    refine q_setN ?_
    intro fa hfa
    (try dsimp only)
    apply q_seq
    refine d_for (d_rng (d_cons ?_))
    refine d_draw (r := [⟨fa, .dct [] []⟩]) 7 (ev_cons ev_var (ev_cons ev_c ev_nil)) rfl (List.perm_append_comm (l₁ := [_])) hd (by omega) ⟨by decide, by decide⟩ fun d os1 ⟨t, ht, ed⟩ hd1 => ?_
    subst ed
    (try dsimp only)
    refine d_nil ?_
    (try dsimp only)
    refine ⟨(t : Int), rfl, by omega, by omega, ?_⟩
    have hlen : (intsD 0 ((t : Int)).toNat).length = t := by simp [intsD]
    refine ⟨fun i ρ => ∃ (os' : List Cell) (T : Tab) (s3 s4 : Option D), ρ = ⟨[some (.raw (.ref p)), some (.lst (strsD WORDS)), some (.raw (.ref fa)), s3, s4], os' ++ [⟨fa, tabD T⟩], fun a => a = fa ∨ False⟩ ∧ Dst p q (n + 1 + 14 * i) os' ∧ DrawnT T ∧ T.length ≤ i, ⟨os1, [], none, none, rfl, hd1, ⟨List.nodup_nil, fun _ h => (by cases h), fun _ h => (by cases h), fun _ h => (by cases h), fun _ h => (by cases h)⟩, Nat.le_refl _⟩, ?_, ?_⟩
    · rintro i dk ρ2 hi ⟨os', T, s3, s4, rfl, hd', hT, hTl⟩
      have hil : i < t := by rw [← hlen]; exact (List.getElem?_eq_some_iff.mp hi).1
      refine eg_name _ ?_
      refine (show dCB rdTupOf _ _ _ from ?_)
      refine d_cb (d_cons (d_lc (d_rng (d_cons (d_op ?_)))))
      refine ev_c _ ?_
      (try dsimp only)
      refine d_draw (r := [⟨fa, tabD T⟩]) 3 (ev_cons ev_var (ev_cons ev_c ev_nil)) rfl (List.Perm.refl _) hd' (by omega) ⟨by decide, by decide⟩ fun d os2 ⟨t2, ht2, ed⟩ hd2 => ?_
      subst ed
      (try dsimp only)
      refine ⟨1, (t2 : Int), rfl, rfl, ?_⟩
      (try dsimp only)
      refine d_nil ?_
      (try dsimp only)
      refine ⟨1 + (t2 : Int), rfl, by omega, by omega, ?_⟩
      have hlen2 : (intsD 0 (1 + (t2 : Int)).toNat).length = 1 + t2 := by simp [intsD]; omega
      refine lc_draws (out := fun d => ∃ s, d = .str s ∧ GoodV s) (r := [⟨fa, tabD T⟩]) (c := 4) rfl hd2 (by rw [hlen2]; omega) (fun i2 d os' Q' hi2 hd' kk => ?_) fun l os3 hl ho hd3 => ?_
      · have hil2 : i2 < 1 + t2 := by rw [← hlen2]; exact (List.getElem?_eq_some_iff.mp hi2).1
        refine eg_name _ ?_
        refine d_draw (r := [⟨fa, tabD T⟩]) () (ev_cons ev_var ev_nil) rfl (List.Perm.refl _) hd' (by omega) trivial fun d2 os2 hm2 hd2 => ?_
        exact kk _ d2 os2 hm2 hd2
      · obtain ⟨m, rfl, hml, hm⟩ := strs_of ho
        rw [hlen2] at hl hd3
        have hml2 : m.length = 1 + t2 := by rw [← hl]; simp [strsD]
        (try dsimp only)
        refine d_nil ?_
        (try dsimp only)
        refine v_tupOf (.inl (.inl rfl)) _ ?_
        (try dsimp only)
        refine (ev_var : EvD (dVar 2) _ (.raw (.ref fa))) _ ?_
        (try dsimp only)
        refine d_draw (r := [⟨fa, tabD T⟩]) (strsD WORDS) (ev_cons ev_var (ev_cons ev_var ev_nil)) rfl (List.Perm.refl _) hd3 (by omega) ⟨by decide, by decide⟩ fun d2 os4 hm2 hd4 => ?_
        obtain ⟨wd, rfl, hwd⟩ := mem_strs hm2
        refine ⟨fa, os4, [], T.map Prod.fst, T.map fun x => tupS x.2, wd, rfl, rfl, rfl, hT.nd, by rw [List.length_map]; omega, os4, putT T wd m, some dk, s4, ?_, hd4.mono (by omega), put_drawn hT hwd (fun z => by rw [z] at hml2; simp at hml2; omega) (by omega) hm, Nat.le_trans (put_len T wd m) (by omega)⟩
        have e : (strsD m) = strsD m := rfl
        rw [put_tab]
        rfl
    · rintro ρ2 ⟨os', T, s3, s4, rfl, hd', hT, hTl⟩
      rw [hlen] at hTl hd'
      (try dsimp only)
      refine d_ret ?_
      refine (ev_var : EvD (dVar 2) _ (.raw (.ref fa))) _ ?_
      refine ⟨fa, os', tabD T, [], rfl, rfl, .inl rfl, os', by rw [List.append_nil]; exact List.Sublist.refl _, k _ _ ⟨T, rfl, hT, by omega⟩ (hd'.mono (by omega))⟩
end
end K86

set_option Elab.async false
set_option linter.all false
set_option maxRecDepth 100000
set_option maxHeartbeats 2000000
namespace K86
open PySem PySem.Spec PyProof PyProof.Rows L2 TL DL
local macro_rules | `(tactic| walk_at "ev") => `(tactic| repeat' (with_reducible first
  | apply ev_c | (apply ev_var; with_unfolding_all exact rfl) | exact v_isStr | apply ev_op | apply ev_test | apply ev_and | apply ev_or | apply ev_not | apply ev_andV | apply ev_orV | apply ev_notV
  | apply ev_ifS | apply ev_ifI | apply ev_chain | apply ev_nil | apply ev_cons | apply ev_tup | apply ev_lst | apply ev_cb | apply ev_m0 | apply ev_m1 | apply ev_m2 | apply ev_sl | apply ev_noPart | apply ev_part | apply ev_revT | apply ev_yes
  | apply v_I0 | apply v_I | apply v_addS | apply v_eqS | apply v_eqI | apply v_eqB | apply v_neS | apply v_neI | apply v_inS | apply v_notInS | apply v_isN0 | apply v_isNS | apply v_isNT | apply v_notN0 | apply v_notNS | apply v_notNT
  | apply v_lenS | apply v_lenL | apply v_lenT | apply v_all | apply v_any | apply v_int1 | apply v_intb | apply v_max2 | apply v_min2 | apply v_join | apply v_split | apply v_part | apply v_lower | apply v_starts | apply v_find | apply v_slS | apply v_slT
  | apply ei_list | apply ei_tup | apply ei_str | apply ei_range1 | apply ei_enumS | apply eg_name | apply eg_nil | apply eg_cons | apply eg_tup
  | (intro _)))

/-! ### drawn names -/
def KEPTS : List (List Nat) := [[97], [65], [32, 120, 32], [97, 44, 98], [61, 43], [120, 32, 32, 121], [92], [110, 97, 109, 101, 58, 32, 97], [116, 116, 116, 116, 116, 116, 116, 116, 116, 116, 116, 116, 116, 116, 116, 116, 116, 116, 116, 116, 116, 116, 116, 116, 116, 116, 116, 116, 116, 116, 116, 116, 116, 116, 116, 116, 116, 116, 116, 116, 116, 116, 116, 116, 116, 116, 116, 116, 116, 116, 116, 116, 116, 116, 116, 116, 116, 116, 116, 116], [40], [58]]
def WLISTS : List (List (List Nat)) := [[[99, 110]], [[111, 117]], [[99, 110], [111, 117]], [[122], [99, 110]], [[97], [98], [99], [100]]]

structure DrawnLf (l : List Pr2) : Prop where
  wd : l.map Prod.fst ∈ WLISTS
  vl : ∀ p ∈ l, p.2 ∈ KEPTS
structure DrawnN (L : List (List Pr2)) : Prop where
  len : L.length ≤ 3
  lf : ∀ l ∈ L, DrawnLf l
theorem kept_ok : ∀ s ∈ KEPTS, isPlainL s = true ∧ s.length ≤ 60 ∧ ∀ c ∈ esc s, c < 128 ∧ c ≠ 10 := by decide +kernel
theorem wl_ok : ∀ l ∈ WLISTS, l ≠ [] ∧ l.length ≤ 4 ∧ l.Nodup ∧ ∀ s ∈ l, isWordL s = true ∧ s.length ≤ 2 ∧ ∀ c ∈ s, c < 128 ∧ c ≠ 10 := by decide +kernel
theorem drawnLf_good {l : List Pr2} (h : DrawnLf l) : GoodLeaf l := by
  obtain ⟨h1, h2, h3, h4⟩ := wl_ok _ h.wd
  refine ⟨fun z => h1 (by rw [z]; rfl), by rw [List.length_map] at h2; exact h2, h3, fun p hp => (h4 p.1 (List.mem_map_of_mem hp)).1, fun p hp => (kept_ok _ (h.vl p hp)).1⟩
theorem joinL_mem {sep : List Nat} : ∀ {l : List (List Nat)} {c : Nat}, c ∈ joinL sep l → c ∈ sep ∨ ∃ s ∈ l, c ∈ s
  | [], c, h => by simp [joinL] at h
  | [x], c, h => .inr ⟨x, by simp, h⟩
  | x :: y :: l, c, h => by
    have e : joinL sep (x :: y :: l) = x ++ (sep ++ joinL sep (y :: l)) := by simp [joinL]
    rw [e] at h
    rcases List.mem_append.mp h with z | z
    · exact .inr ⟨x, by simp, z⟩
    · rcases List.mem_append.mp z with z | z
      · exact .inl z
      · rcases joinL_mem z with z | ⟨s, hs, z⟩
        · exact .inl z
        · exact .inr ⟨s, by simp [hs], z⟩
theorem pair_sign {l : List Pr2} (h : DrawnLf l) : ∀ p ∈ l, ∀ c ∈ pairText p, c < 128 ∧ c ≠ 10 := fun p hp c hc => by
  obtain ⟨h1, h2, h3, h4⟩ := wl_ok _ h.wd
  unfold pairText at hc
  rcases List.mem_append.mp hc with z | z
  · exact (h4 p.1 (List.mem_map_of_mem hp)).2.2 c z
  · rcases List.mem_cons.mp z with z | z
    · rw [z]; decide
    · exact (kept_ok _ (h.vl p hp)).2.2 c z
theorem pair_len {l : List Pr2} (h : DrawnLf l) : ∀ p ∈ l, (pairText p).length ≤ 123 := fun p hp => by
  obtain ⟨h1, h2, h3, h4⟩ := wl_ok _ h.wd
  have a := (h4 p.1 (List.mem_map_of_mem hp)).2.1
  have b := (kept_ok _ (h.vl p hp)).2.1
  have c := esc_len p.2
  unfold pairText
  simp only [List.length_append, List.length_cons]
  omega
theorem leaf_len {l : List Pr2} (h : DrawnLf l) : (leafText l).length ≤ 500 := by
  have h1 := joinL_len [43] (l.map pairText)
  have h2 := sum_le (n := 123) (l.map pairText) fun s hs => by
    obtain ⟨p, hp, e⟩ := List.mem_map.mp hs
    rw [← e]; exact pair_len h p hp
  have h3 := (drawnLf_good h).len
  unfold leafText
  rw [List.length_map] at h1 h2
  simp only [List.length_cons, List.length_nil] at h1
  omega
theorem leaf_sign {l : List Pr2} (h : DrawnLf l) : ∀ c ∈ leafText l, c < 128 ∧ c ≠ 10 := fun c hc => by
  rcases joinL_mem hc with z | ⟨s, hs, z⟩
  · rw [List.mem_singleton.mp z]; decide
  · obtain ⟨p, hp, e⟩ := List.mem_map.mp hs
    rw [← e] at z
    exact pair_sign h p hp c z
theorem name_len {L : List (List Pr2)} (h : ∀ l ∈ L, (leafText l).length ≤ 500) : (nameText L).length ≤ 501 * L.length := by
  have h1 := joinL_len [44] (L.map leafText)
  have h2 := sum_le (n := 500) (L.map leafText) fun s hs => by
    obtain ⟨l, hl, e⟩ := List.mem_map.mp hs
    rw [← e]; exact h l hl
  unfold nameText
  rw [List.length_map] at h1 h2
  simp only [List.length_cons, List.length_nil] at h1
  omega
theorem name_sign {L : List (List Pr2)} (h : ∀ l ∈ L, ∀ c ∈ leafText l, c < 128 ∧ c ≠ 10) : ∀ c ∈ nameText L, c < 128 ∧ c ≠ 10 := fun c hc => by
  rcases joinL_mem hc with z | ⟨s, hs, z⟩
  · rw [List.mem_singleton.mp z]; decide
  · obtain ⟨l, hl, e⟩ := List.mem_map.mp hs
    rw [← e] at z
    exact h l hl c z
theorem drawnN_good {L : List (List Pr2)} (h : DrawnN L) : GoodName L := by
  have h1 := name_len fun l hl => leaf_len (h.lf l hl)
  have h2 := h.len
  exact ⟨fun l hl => drawnLf_good (h.lf l hl), by omega, by omega⟩
abbrev R__law_escaped : DF := DL.Fn str1 (fun s => s.length ≤ 1000000) fun s => .str (esc s)
abbrev R__law_name : DF := Dr 16 noArgs (fun _ => True) (fun _ d => ∃ L, d = .str (nameText L) ∧ DrawnN L)
section
variable {P : Program} {w : World} {K : PySem.W.Frag} {mg : Str → Option Value} {base : Heap} {aN aE aR : Addr}
theorem sc__law_escaped : FnScope ["_law_value_here", "_law_found", "_law_k", "_law_sign", "_law_is_end"] ["_law_value_here"] (defScope (top 70)) := ⟨rfl, rfl, rfl, by decide +kernel, rfl, by decide +kernel, by decide +kernel⟩
theorem ok__law_escaped {f : Addr} {fd : FuncData} (F : Fun K "_law_escaped" "_law_escaped" (top 70) f fd) (T : Txt K mg aN aE aR) : FnOk P w K mg base CX0 1 f fd ["_law_value_here"] (Pr K (NoX R__law_escaped)) := by
  have sc := sc__law_escaped
  refine okD F sc (fun ds os PP ⟨_, e, _⟩ => by rw [e]; rfl) ?_
  apply Exists.intro
  apply And.intro
  · intro cdv A outer s H hr
    have hu := hr.units
    have hu0 : (A.deeper (envOfC "_law_escaped" (defScope (top 70)) s.heap.objs.size f cdv)).units + 1 < cLine := by omega
    exact (pb_cons (sx_set 1 sc.nd (px_str []))
      (pb_cons (sx_for PassesOwn.never rfl (DL.ix_enumS T.n_enumerate (pxa_cons (px_var 0) pxa_nil)) (gx_tup (n := 2) rfl (gxs_cons (gx_name 2 sc.nd) (gxs_cons (gx_name 3 sc.nd) gxs_nil))) (pb_cons (sx_set 4 sc.nd (px_or (DL.px_cmp op_eq l_eq (px_var 2) px_int) (px_one (DL.px_cmp op_eq l_eq (px_var 2) (px_op op_sub l_sub (px_cb call_len l_len T.n_len PySem.boot_len (pxa_cons (px_var 0) pxa_nil)) px_int)))))
      (pb_one (sx_set 1 sc.nd (px_op op_add_str l_addS (px_op op_add_str l_addS (px_var 1) (px_op op_repS l_repS (px_str [92]) (px_ct call_int1 l_int1 T.n_int (by decide +kernel) (pxa_cons (px_or (DL.px_cmp op_in_sign l_inS (px_var 3) (px_str [44, 43, 61, 92])) (px_one (px_and (DL.px_cmp op_eq l_eq (px_var 3) (px_str [32])) (px_one (px_var 4))))) pxa_nil)))) (px_var 3))))))
      (pb_one (sx_ret (px_var 1)))))
  · rintro ds os PP ⟨s, rfl, hl, k⟩ hx
    have hlen : ∀ i, ((s.mapIdx fun i c => escAt s.length i c).take i).flatten.length ≤ 2 * s.length := fun i => by
      have h := esc_len_take 0 [] ((s.mapIdx fun i c => escAt s.length i c).take i) fun x hx => by
        obtain ⟨i, c, hi, rfl⟩ := List.mem_mapIdx.mp (List.mem_of_mem_take hx)
        exact escAt_len _ _ _
      rw [List.length_take, List.length_mapIdx] at h
      omega
    refine q_set ev_c eg_name ?_
    apply q_seq
    refine s_for (ei_enumS (ev_cons ev_var ev_nil)) (fun i ρ => ∃ a b c, ρ = ⟨[some (.str s), some (.str ((s.mapIdx fun i c => escAt s.length i c).take i).flatten), a, b, c], os, fun _ => False⟩) ⟨none, none, none, rfl⟩ ?_ ?_
    · rintro i d ρ hd ⟨a, b, c, rfl⟩
      unfold enumD at hd
      rw [List.getElem?_mapIdx] at hd
      cases hc : s[i]? with
      | none => rw [hc] at hd; cases hd
      | some ch =>
        rw [hc] at hd
        cases hd
        have hi : i < s.length := (List.getElem?_eq_some_iff.mp hc).1
        refine eg_tup (eg_cons eg_name (eg_cons eg_name eg_nil)) rfl _ ?_
        refine q_set (d := .bl (decide (i = 0) || decide (i + 1 = s.length))) ?_ eg_name ?_
        · refine ev_orV (b1 := decide (i = 0)) ?_ fun _ => ?_
          · have e : decide ((i : Int) = 0) = decide (i = 0) := by
              by_cases z : i = 0
              · subst z; simp
              · have : ¬ (i : Int) = 0 := by omega
                simp [z, this]
            rw [← e]
            exact ev_op ev_var ev_c v_eqI
          · have e : decide ((i : Int) = (s.length : Int) - 1) = decide (i + 1 = s.length) := by
              by_cases z : i + 1 = s.length
              · have : (i : Int) = (s.length : Int) - 1 := by omega
                simp [z, this]
              · have : ¬ (i : Int) = (s.length : Int) - 1 := by omega
                simp [z, this]
            rw [← e]
            exact ev_op ev_var (ev_op (ev_cb (ev_cons ev_var ev_nil) (v_lenS (by omega))) ev_c v_I0) v_eqI
        · have hl2 := hlen i
          have tks : (s.mapIdx fun i c => escAt s.length i c).take (i + 1) = (s.mapIdx fun i c => escAt s.length i c).take i ++ [escAt s.length i ch] := by
            rw [List.take_add_one, List.getElem?_mapIdx, hc]
            rfl
          generalize hbb : (decide (ch ∈ ESC) || (decide (ch = 32) && (decide (i = 0) || decide (i + 1 = s.length)))) = bb
          have hb2 : (decide (ch ∈ ESC) || (decide ([ch] = [32]) && (decide (i = 0) || decide (i + 1 = s.length)))) = bb := by
            rw [← hbb]
            have : decide ([ch] = [32]) = decide (ch = 32) := by simp
            rw [this]
          refine s_set (d := .str ((((s.mapIdx fun i c => escAt s.length i c).take i).flatten ++ (List.replicate (if bb = true then 1 else 0) [92]).flatten) ++ [ch])) ?_ eg_name ?_
          · refine ev_op (ev_op ev_var (ev_op ev_c (ev_cb (ev_cons (evd_eq (b := .bl bb) (ev_orV (ev_op ev_var ev_c v_inS) fun _ => ev_andV (ev_op ev_var ev_c v_eqS) fun _ => ev_var) (congrArg D.bl hb2)) ev_nil) (v_intb (b := bb))) (v_repS (n := if bb = true then 1 else 0) (by cases bb <;> rfl) (by cases bb <;> simp) (by cases bb <;> simp))) (v_addS ?_)) ev_var (v_addS ?_)
            · have hr1 : ((List.replicate (if bb = true then 1 else 0) [92]).flatten).length ≤ 1 := by cases bb <;> simp
              omega
            · have hr1 : ((List.replicate (if bb = true then 1 else 0) [92]).flatten).length ≤ 1 := by cases bb <;> simp
              have h1 : [ch].length = 1 := rfl
              rw [List.length_append]
              omega
          · refine ⟨some (.int i), some (.str [ch]), some (.bl (decide (i = 0) || decide (i + 1 = s.length))), ?_⟩
            rw [tks, List.flatten_append]
            unfold escAt
            rw [hbb]
            cases bb <;> simp <;> rfl
    · rintro ρ ⟨a, b, c, rfl⟩
      dsimp only
      have hn : (enumD s).length = s.length := by simp [enumD]
      refine s_ret (ev_var) ⟨os, List.Sublist.refl _, ?_⟩
      rw [hn, List.take_of_length_le (by simp)]
      exact k
theorem sc__law_name : FnScope ["_law_m", "_law_leaves", "_law_k", "_law_words", "_law_pairs", "_law_word", "_law_kept"] ["_law_m"] (defScope (top 71)) := ⟨rfl, rfl, rfl, by decide +kernel, rfl, by decide +kernel, by decide +kernel⟩
theorem ok__law_name {f : Addr} {fd : FuncData} (F : Fun K "_law_name" "_law_name" (top 71) f fd) (T : Txt K mg aN aE aR) (k__law_draw : Kn0 P w K mg base "_law_draw" 1 ["_law_m", "_law_top"] R__law_draw) (k__law_pick : Kn0 P w K mg base "_law_pick" 2 ["_law_m", "_law_items"] R__law_pick) (k__law_escaped : Kn0 P w K mg base "_law_escaped" 1 ["_law_value_here"] R__law_escaped) : FnOk P w K mg base CX0 4 f fd ["_law_m"] (Pr K (NoX R__law_name)) := by
  have sc := sc__law_name
  refine okD F sc (fun ds os PP ⟨_, _, _, _, e, _⟩ => by rw [e]; rfl) ?_
  apply Exists.intro
  apply And.intro
  · intro cdv A outer s H hr
    have hu := hr.units
    have hu0 : (A.deeper (envOfC "_law_name" (defScope (top 71)) s.heap.objs.size f cdv)).units + 1 < cLine := by omega
    exact (pb_cons (sx_set 1 sc.nd (px_lstC pxa_nil))
      (pb_cons (sx_for PassesOwn.never rfl (DL.ix_range1 T.n_range (pxa_cons (px_callC0 k__law_draw (hr.mono (by decide)) (pxa_cons (px_var 0) (pxa_cons px_int pxa_nil))) pxa_nil)) (gx_name 2 sc.nd) (pb_cons (sx_set 3 sc.nd (px_callC0 k__law_pick (hr.mono (by decide)) (pxa_cons (px_var 0) (pxa_cons (px_lst (pxa_cons (px_lst (pxa_cons (px_str [99, 110]) pxa_nil)) (pxa_cons (px_lst (pxa_cons (px_str [111, 117]) pxa_nil)) (pxa_cons (px_lst (pxa_cons (px_str [99, 110]) (pxa_cons (px_str [111, 117]) pxa_nil))) (pxa_cons (px_lst (pxa_cons (px_str [122]) (pxa_cons (px_str [99, 110]) pxa_nil))) (pxa_cons (px_lst (pxa_cons (px_str [97]) (pxa_cons (px_str [98]) (pxa_cons (px_str [99]) (pxa_cons (px_str [100]) pxa_nil))))) pxa_nil)))))) pxa_nil))))
      (pb_cons (sx_set 4 sc.nd (px_lstC pxa_nil))
      (pb_cons (sx_perm (sx_for PassesOwn.never rfl (DL.ix_list (px_var 3)) (gx_name 5 sc.nd) (pb_cons (sx_set 6 sc.nd (px_callC0 k__law_pick (hr.mono (by decide)) (pxa_cons (px_var 0) (pxa_cons (px_lst (pxa_cons (px_str [97]) (pxa_cons (px_str [65]) (pxa_cons (px_str [32, 120, 32]) (pxa_cons (px_str [97, 44, 98]) (pxa_cons (px_str [61, 43]) (pxa_cons (px_str [120, 32, 32, 121]) (pxa_cons (px_str [92]) (pxa_cons (px_str [110, 97, 109, 101, 58, 32, 97]) (pxa_cons (px_op op_repS l_repS (px_str [116]) px_int) (pxa_cons (px_str [40]) (pxa_cons (px_str [58]) pxa_nil)))))))))))) pxa_nil))))
      (pb_one (sx_expr (px_append (px_var 4) (px_op op_add_str l_addS (px_op op_add_str l_addS (px_var 5) (px_str [61])) (px_call0 k__law_escaped (hr.mono (by decide)) (pxa_cons (px_var 6) pxa_nil)))))))))
      (pb_one (sx_expr (px_append (px_var 1) (px_m1 PySem.F.slot_str_join PySem.F.type_str_join mt_join l_join (px_str [43]) (px_var 4)))))))))
      (pb_one (sx_ret (px_m1 PySem.F.slot_str_join PySem.F.type_str_join mt_join l_join (px_str [44]) (px_var 1))))))
  · rintro ds os PP ⟨x, p, q, n, rfl, hd, hn, _, k⟩ hx
    refine q_lstC ev_nil (by simp) fun la hla => ?_
    apply q_seq
    refine d_for (d_rng (d_cons ?_))
    refine d_draw (r := [⟨la, .lst []⟩]) 4 (ev_cons ev_var (ev_cons ev_c ev_nil)) rfl (List.perm_append_comm (l₁ := [_])) hd (by omega) ⟨by decide, by decide⟩ fun d os1 ⟨t, ht, ed⟩ hd1 => ?_
    subst ed
    (try dsimp only)
    refine d_nil ?_
    (try dsimp only)
    refine ⟨(t : Int), rfl, by omega, by omega, ?_⟩
    have hlen : (intsD 0 ((t : Int)).toNat).length = t := by simp [intsD]
    refine ⟨fun i ρ => ∃ (os' junk : List Cell) (L : List (List Pr2)) (lo : Addr → Prop) (s2 s3 s4 s5 s6 : Option D), ρ = ⟨[some (.raw (.ref p)), some (.raw (.ref la)), s2, s3, s4, s5, s6], os' ++ (junk ++ [⟨la, .lst (strsD (L.map leafText))⟩]), lo⟩ ∧ Dst p q (n + 1 + 5 * i) os' ∧ (∀ l ∈ L, DrawnLf l) ∧ L.length = i, ⟨os1, [], [], _, none, none, none, none, none, rfl, hd1, fun _ h => (by cases h), rfl⟩, ?_, ?_⟩
    · rintro i d ρ2 hi ⟨os', junk, L, lo, s2, s3, s4, s5, s6, rfl, hd', hL, hLl⟩
      have hil : i < t := by rw [← hlen]; exact (List.getElem?_eq_some_iff.mp hi).1
      refine eg_name _ ?_
      refine q_setN ?_
      refine d_draw (r := junk ++ [⟨la, .lst (strsD (L.map leafText))⟩]) (WLISTS.map fun l => .lst (strsD l)) (ev_cons ev_var (ev_cons (ev_lst (ev_cons (ev_lst (ev_cons ev_c ev_nil) (by decide)) (ev_cons (ev_lst (ev_cons ev_c ev_nil) (by decide)) (ev_cons (ev_lst (ev_cons ev_c (ev_cons ev_c ev_nil)) (by decide)) (ev_cons (ev_lst (ev_cons ev_c (ev_cons ev_c ev_nil)) (by decide)) (ev_cons (ev_lst (ev_cons ev_c (ev_cons ev_c (ev_cons ev_c (ev_cons ev_c ev_nil)))) (by decide)) ev_nil))))) (by decide)) ev_nil)) rfl (List.Perm.refl _) hd' (by omega) ⟨by decide, by decide⟩ fun d os2 hm hd2 => ?_
      obtain ⟨ws, hws, ed⟩ := List.mem_map.mp hm
      subst ed
      obtain ⟨w1, w2, w3, w4⟩ := wl_ok ws hws
      (try dsimp only)
      refine q_lstC ev_nil (by simp) fun pa hpa => ?_
      (try dsimp only)
      apply q_seq
      have hperm : List.Perm (Cell.mk pa (.lst []) :: (os2 ++ (junk ++ [Cell.mk la (.lst (strsD (L.map leafText)))]))) (os2 ++ (Cell.mk pa (.lst []) :: (junk ++ [Cell.mk la (.lst (strsD (L.map leafText)))]))) := List.perm_middle.symm
      refine ⟨_, hperm, ?_⟩
      refine s_for (ei_list ev_var) (fun j ρ => ∃ (os3 : List Cell) (ps : List Pr2) (lo : Addr → Prop) (s2 s5 s6 : Option D), ρ = ⟨[some (.raw (.ref p)), some (.raw (.ref la)), s2, some (.lst (strsD ws)), some (.raw (.ref pa)), s5, s6], os3 ++ (⟨pa, .lst (strsD (ps.map pairText))⟩ :: (junk ++ [⟨la, .lst (strsD (L.map leafText))⟩])), lo⟩ ∧ Dst p q (n + 1 + 5 * i + 1 + j) os3 ∧ ps.map Prod.fst = ws.take j ∧ ∀ x ∈ ps, x.2 ∈ KEPTS) ⟨os2, [], _, _, _, _, rfl, hd2, rfl, fun _ h => (by cases h)⟩ ?_ ?_
      · rintro j d ρ3 hj ⟨os3, ps, lo, s2, s5, s6, rfl, hd3, hps, hk⟩
        unfold strsD at hj
        rw [List.getElem?_map] at hj
        cases hw : ws[j]? with
        | none => rw [hw] at hj; cases hj
        | some wd =>
          rw [hw] at hj
          cases hj
          have hjl : j < ws.length := (List.getElem?_eq_some_iff.mp hw).1
          have hwd := w4 wd (List.mem_of_getElem? hw)
          have hpl : ps.length ≤ j := by
            have := congrArg List.length hps
            rw [List.length_map, List.length_take] at this
            omega
          refine eg_name _ ?_
          refine q_setN ?_
          refine d_draw (r := ⟨pa, .lst (strsD (ps.map pairText))⟩ :: (junk ++ [⟨la, .lst (strsD (L.map leafText))⟩])) (strsD KEPTS) (ev_cons ev_var (ev_cons (ev_lst (ev_cons ev_c (ev_cons ev_c (ev_cons ev_c (ev_cons ev_c (ev_cons ev_c (ev_cons ev_c (ev_cons ev_c (ev_cons ev_c (ev_cons (ev_op ev_c ev_c (v_repS (n := 60) rfl (by decide) (by decide))) (ev_cons ev_c (ev_cons ev_c ev_nil))))))))))) (by decide)) ev_nil)) rfl (List.Perm.refl _) hd3 (by omega) ⟨by decide, by decide⟩ fun d os4 hm2 hd4 => ?_
          obtain ⟨kp, rfl, hkp⟩ := mem_strs hm2
          have hkl := (kept_ok kp hkp).2.1
          have hel := esc_len kp
          (try dsimp only)
          refine s_append (l := os4) (r := junk ++ [⟨la, .lst (strsD (L.map leafText))⟩]) (d := .str (pairText (wd, kp))) ev_var (evd_eq (ev_op (ev_op ev_var ev_c (v_addS ?_)) (ev_fn kp (ev_cons ev_var ev_nil) (by omega)) (v_addS ?_)) ?_) rfl ?_ ?_
          · simp only [List.length_cons, List.length_nil]; omega
          · simp only [List.length_append, List.length_cons, List.length_nil]; omega
          · unfold pairText; simp
          · simp only [strsD, List.length_map]; omega
          · refine ⟨os4, ps ++ [(wd, kp)], lo, s2, some (.str wd), some (.str kp), ?_, hd4.mono (by omega), ?_, ?_⟩
            · have e : strsD (ps.map pairText) ++ [D.str (pairText (wd, kp))] = strsD ((ps ++ [(wd, kp)]).map pairText) := by simp [strsD]
              rw [e]
              rfl
            · rw [List.map_append, hps, List.take_add_one, hw]; rfl
            · intro x hx
              rcases List.mem_append.mp hx with z | z
              · exact hk x z
              · rw [List.mem_singleton.mp z]; exact hkp
      · rintro ρ3 ⟨os3, ps, lo, s2, s5, s6, rfl, hd3, hps, hk⟩
        have hwl : (strsD ws).length = ws.length := by simp [strsD]
        rw [hwl] at hps hd3
        rw [List.take_length] at hps
        have hlf : DrawnLf ps := ⟨by rw [hps]; exact hws, hk⟩
        have hll := leaf_len hlf
        have h4 := (drawnLf_good hlf).len
        (try dsimp only)
        have hs2 := sum_le (n := 123) (ps.map pairText) fun s hs => by
          obtain ⟨y, hy, e⟩ := List.mem_map.mp hs
          rw [← e]; exact pair_len hlf y hy
        refine s_append (l := os3 ++ (⟨pa, .lst (strsD (ps.map pairText))⟩ :: junk)) (r := []) (ds := strsD (L.map leafText)) (a := la) (d := .str (leafText ps)) ev_var (ev_m1 ev_c ev_var (v_join (sep := [43]) (l := ps.map pairText) ?_ (.inl (sees_cell (l := os3) rfl)))) (by show os3 ++ (_ :: (junk ++ [_])) = _; simp) ?_ ?_
        · rw [List.length_map] at hs2 ⊢
          simp only [List.length_cons, List.length_nil]; omega
        · simp only [strsD, List.length_map]; omega
        · refine ⟨os3, ⟨pa, .lst (strsD (ps.map pairText))⟩ :: junk, L ++ [ps], lo, s2, some (.lst (strsD ws)), some (.raw (.ref pa)), s5, s6, ?_, hd3.mono (by omega), ?_, by rw [List.length_append, hLl]; rfl⟩
          · have e : strsD (L.map leafText) ++ [D.str (leafText ps)] = strsD ((L ++ [ps]).map leafText) := by simp [strsD]
            rw [e]
            simp [Rho.os']
          · intro x hx
            rcases List.mem_append.mp hx with z | z
            · exact hL x z
            · rw [List.mem_singleton.mp z]; exact hlf
    · rintro ρ2 ⟨os', junk, L, lo, s2, s3, s4, s5, s6, rfl, hd', hL, hLl⟩
      rw [hlen] at hLl hd'
      (try dsimp only)
      have hdn : DrawnN L := ⟨by omega, hL⟩
      have hs2 := sum_le (n := 500) (L.map leafText) fun s hs => by
        obtain ⟨y, hy, e⟩ := List.mem_map.mp hs
        rw [← e]; exact leaf_len (hL y hy)
      refine s_ret (d := .str (nameText L)) (ev_m1 ev_c ev_var (v_join (sep := [44]) (l := L.map leafText) ?_ (.inl (sees_cell (l := os' ++ junk) (r := []) (by simp))))) ⟨os', List.sublist_append_left _ _, k _ _ ⟨L, rfl, hdn⟩ (hd'.mono (by omega))⟩
      rw [List.length_map] at hs2 ⊢
      simp only [List.length_cons, List.length_nil]; omega
end
end K86

set_option Elab.async false
set_option linter.all false
set_option maxRecDepth 100000
set_option maxHeartbeats 2000000
namespace K86
open PySem PySem.Spec PyProof PyProof.Rows L2 TL DL
local macro_rules | `(tactic| walk_at "ev") => `(tactic| repeat' (with_reducible first
  | apply ev_c | (apply ev_var; with_unfolding_all exact rfl) | exact v_isStr | apply ev_op | apply ev_test | apply ev_and | apply ev_or | apply ev_not | apply ev_andV | apply ev_orV | apply ev_notV
  | apply ev_ifS | apply ev_ifI | apply ev_chain | apply ev_nil | apply ev_cons | apply ev_tup | apply ev_lst | apply ev_cb | apply ev_m0 | apply ev_m1 | apply ev_m2 | apply ev_sl | apply ev_noPart | apply ev_part | apply ev_revT | apply ev_yes
  | apply v_I0 | apply v_I | apply v_addS | apply v_eqS | apply v_eqI | apply v_eqB | apply v_neS | apply v_neI | apply v_inS | apply v_notInS | apply v_isN0 | apply v_isNS | apply v_isNT | apply v_notN0 | apply v_notNS | apply v_notNT
  | apply v_lenS | apply v_lenL | apply v_lenT | apply v_all | apply v_any | apply v_int1 | apply v_intb | apply v_max2 | apply v_min2 | apply v_join | apply v_split | apply v_part | apply v_lower | apply v_starts | apply v_find | apply v_slS | apply v_slT
  | apply ei_list | apply ei_tup | apply ei_str | apply ei_range1 | apply ei_enumS | apply eg_name | apply eg_nil | apply eg_cons | apply eg_tup
  | (intro _)))

/-! ### the law's own lines -/
theorem linesOf_cons (y : List Nat × List (List Nat)) (T : Tab) : linesOf (y :: T) = y.2.map (lineOf y.1) ++ linesOf T := rfl
theorem linesOf_app (A B : Tab) : linesOf (A ++ B) = linesOf A ++ linesOf B := by unfold linesOf; rw [List.flatMap_append]
theorem strs_app (a b : List (List Nat)) : strsD (a ++ b) = strsD a ++ strsD b := by unfold strsD; rw [List.map_append]
theorem strs_len (a : List (List Nat)) : (strsD a).length = a.length := by unfold strsD; rw [List.length_map]
theorem d_par {ρ : Rho} {i j : Nat} {u : DA} {P : PoS} (h : u ρ ⟨fun ds ρ1 => ∃ x y, ds = [x, y] ∧ P.nx ((ρ1.set i x).set j y), P.ex⟩) : dPar i j u ρ P := h
theorem erase_perm : ∀ {ks : List (List Nat)} {r : Nat} {w : List Nat}, ks[r]? = some w → (w :: ks.eraseIdx r).Perm ks
  | [], r, w, h => by simp at h
  | k :: ks, 0, w, h => by
    have : k = w := by simpa using h
    rw [this]
    exact List.Perm.refl _
  | k :: ks, r + 1, w, h => by
    have h : ks[r]? = some w := by simpa using h
    rw [List.eraseIdx_cons_succ]
    exact (List.Perm.swap k w _).trans (List.Perm.cons k (erase_perm h))
theorem map_erase {α β : Type} {f : α → β} : ∀ (l : List α) (r : Nat), (l.map f).eraseIdx r = (l.eraseIdx r).map f
  | [], _ => rfl
  | x :: l, 0 => rfl
  | x :: l, r + 1 => by rw [List.map_cons, List.eraseIdx_cons_succ, List.eraseIdx_cons_succ, map_erase l r]; rfl
theorem perm_good {T T' : Tab} (h : GoodTab T) (p : T'.Perm T) : GoodTab T' where
  nd := (p.map Prod.fst).nodup_iff.mpr h.nd
  wd := fun x hx => h.wd x (p.mem_iff.mp hx)
  ne := fun x hx => h.ne x (p.mem_iff.mp hx)
  cnt := fun x hx => h.cnt x (p.mem_iff.mp hx)
  sz := fun x hx => h.sz x (p.mem_iff.mp hx)
  vl := fun x hx => h.vl x (p.mem_iff.mp hx)
  ch := fun x hx => h.ch x (p.mem_iff.mp hx)
  len := by rw [p.length_eq]; exact h.len
structure OkLn (x : List Nat × Ent2) : Prop where
  hd : x.1.length ≤ 100
  en : GoodEnt x.2
abbrev R__law_entry_lines : DF := DL.Fn (fun x : List Nat × Ent2 => [.str x.1, .str (nameText x.2.L), tabD x.2.T]) OkLn fun x => .lst (strsD ((x.1 ++ nameText x.2.L) :: linesOf (sortT x.2.T)))
abbrev R__law_shuffled : DF := Dr 6 (fun x : Ent2 => [.str (nameText x.L), tabD x.T]) (fun x => GoodEnt x ∧ x.T.length ≤ 6) (fun x d => ∃ T' : Tab, T'.Perm x.T ∧ d = .str (entText ⟨x.L, T'⟩))
theorem entText_sz {x : Ent2} (h : GoodEnt x) : ((allLines x).map List.length).sum + (allLines x).length * 1 ≤ 4000000 := by
  have hc := lines_count x.T h.tb.cnt
  have hl := h.tb.len
  have hs := sum_le (linesOf x.T) (lines_sz h.tb)
  have hn := h.nm.sz
  have h6 : NAMEC.length = 6 := rfl
  unfold allLines
  simp only [List.map_cons, List.sum_cons, List.length_cons, List.length_append]
  omega
section
variable {P : Program} {w : World} {K : PySem.W.Frag} {mg : Str → Option Value} {base : Heap} {aN aE aR : Addr}
theorem sc__law_entry_lines : FnScope ["_law_head", "_law_name_here", "_law_table_here", "_law_found", "_law_word", "_law_value_here"] ["_law_head", "_law_name_here", "_law_table_here"] (defScope (top 72)) := ⟨rfl, rfl, rfl, by decide +kernel, rfl, by decide +kernel, by decide +kernel⟩
theorem ok__law_entry_lines {f : Addr} {fd : FuncData} (F : Fun K "_law_entry_lines" "_law_entry_lines" (top 72) f fd) (T : Txt K mg aN aE aR) : FnOk P w K mg base CX0 1 f fd ["_law_head", "_law_name_here", "_law_table_here"] (Pr K (NoX R__law_entry_lines)) := by
  have sc := sc__law_entry_lines
  refine okD F sc (fun ds os PP ⟨_, e, _⟩ => by rw [e]; rfl) ?_
  apply Exists.intro
  apply And.intro
  · intro cdv A outer s H hr
    have hu := hr.units
    have hu0 : (A.deeper (envOfC "_law_entry_lines" (defScope (top 72)) s.heap.objs.size f cdv)).units + 1 < cLine := by omega
    exact (pb_cons (sx_set 3 sc.nd (px_lstC (pxa_cons (px_op op_add_str l_addS (px_var 0) (px_var 1)) pxa_nil)))
      (pb_cons (sx_for PassesOwn.never rfl (DL.ix_list (px_cb (call_sortedD rfl) l_sortD T.n_sorted (by decide +kernel) (pxa_cons (px_var 2) pxa_nil))) (gx_name 4 sc.nd) (pb_one (sx_for PassesOwn.never rfl (DL.ix_tup (px_dget hu0 (px_var 2) (px_var 4))) (gx_name 5 sc.nd) (pb_one (sx_expr (px_append (px_var 3) (px_op op_add_str l_addS (px_op op_add_str l_addS (px_var 4) (px_str [58, 32])) (px_var 5))))))))
      (pb_one (sx_ret (px_freeze (px_var 3))))))
  · rintro ds os PP ⟨x, rfl, hg, k⟩ hx
    have hS := sortT_good hg.en.tb
    have hnl := hg.en.nm.sz
    have hhd := hg.hd
    have h64 := hg.en.tb.len
    have hcount : (linesOf (sortT x.2.T)).length ≤ 50 * 64 := by
      have h1 := lines_count (sortT x.2.T) hS.cnt
      have h2 := hS.len
      omega
    have k : PP.ok (.lst (strsD ((x.1 ++ nameText x.2.L) :: linesOf (sortT x.2.T)))) os := k
    generalize hSS : sortT x.2.T = S at *
    have hpre : ∀ A B, S = A ++ B → (linesOf A).length ≤ 50 * 64 := fun A B e => by
      rw [e, linesOf_app, List.length_append] at hcount
      omega
    refine q_lstC (ev_cons (ev_op ev_var ev_var (v_addS (by omega))) ev_nil) (by simp) fun fa hfa => ?_
    apply q_seq
    refine s_for (ei_list (ev_cb (ev_cons ev_var ev_nil) (v_sortD (ks := x.2.T.map Prod.fst) (.inl rfl) (by rw [List.length_map]; exact h64)))) (fun i ρ => ∃ (A B : Tab) (s4 s5 : Option D), S = A ++ B ∧ A.length = i ∧ ρ = ⟨[some (.str x.1), some (.str (nameText x.2.L)), some (tabD x.2.T), some (.raw (.ref fa)), s4, s5], ⟨fa, .lst (strsD ((x.1 ++ nameText x.2.L) :: linesOf A))⟩ :: os, fun a => a = fa ∨ False⟩) ⟨[], S, none, none, rfl, rfl, rfl⟩ ?_ ?_
    · rintro i d ρ hd ⟨A, B, s4, s5, hAB, hAl, rfl⟩
      have hk : (sortK (x.2.T.map Prod.fst)) = S.map Prod.fst := by rw [← hSS, sortT_keys]
      rw [hk] at hd
      unfold strsD at hd
      rw [List.getElem?_map, List.getElem?_map] at hd
      cases hc : S[i]? with
      | none => rw [hc] at hd; cases hd
      | some y =>
        rw [hc] at hd
        cases hd
        have hyS : y ∈ S := List.mem_of_getElem? hc
        have hyT : y ∈ x.2.T := by rw [← hSS] at hyS; exact (sortT_mem hg.en.tb.nd).mp hyS
        obtain ⟨B', rfl⟩ : ∃ B', B = y :: B' := by
          rw [hAB, List.getElem?_append_right (by omega), hAl, Nat.sub_self] at hc
          cases B with
          | nil => cases hc
          | cons z B' => cases hc; exact ⟨B', rfl⟩
        have hlook : look x.2.T y.1 = y.2 := look_mem hg.en.tb.nd hyT
        have hwl := (word_len (hg.en.tb.wd y hyT)).2
        refine eg_name _ ?_
        refine s_for (ei_tup (evd_eq (ev_dget (ks := x.2.T.map Prod.fst) (xs := x.2.T.map fun x => tupS x.2) ev_var ev_var (.inl rfl) (dlook_is (List.mem_map_of_mem hyT))) (by rw [hlook]; rfl))) (fun j ρ => ∃ (s5 : Option D), ρ = ⟨[some (.str x.1), some (.str (nameText x.2.L)), some (tabD x.2.T), some (.raw (.ref fa)), some (.str y.1), s5], ⟨fa, .lst (strsD ((x.1 ++ nameText x.2.L) :: (linesOf A ++ (y.2.take j).map (lineOf y.1))))⟩ :: os, fun a => a = fa ∨ False⟩) ⟨s5, by simp; rfl⟩ ?_ ?_
        · rintro j d ρ hd ⟨s5, rfl⟩
          unfold strsD at hd
          rw [List.getElem?_map] at hd
          cases hv : y.2[j]? with
          | none => rw [hv] at hd; cases hd
          | some v =>
            rw [hv] at hd
            cases hd
            have hvm := List.mem_of_getElem? hv
            have hvl := hg.en.tb.sz y hyT v hvm
            have hjl : j < y.2.length := (List.getElem?_eq_some_iff.mp hv).1
            have hyc := hg.en.tb.cnt y hyT
            refine eg_name _ ?_
            refine s_append (l := []) (r := os) (ds := strsD ((x.1 ++ nameText x.2.L) :: (linesOf A ++ (y.2.take j).map (lineOf y.1)))) (d := .str (lineOf y.1 v)) ev_var (evd_eq (ev_op (ev_op ev_var ev_c (v_addS ?_)) ev_var (v_addS ?_)) ?_) rfl ?_ ?_
            · simp only [List.length_cons, List.length_nil]; omega
            · simp only [List.length_append, List.length_cons, List.length_nil]; omega
            · rfl
            · have := hpre A (y :: B') hAB
              rw [strs_len, List.length_cons, List.length_append, List.length_map, List.length_take]
              omega
            · refine ⟨some (.str v), ?_⟩
              have e : strsD ((x.1 ++ nameText x.2.L) :: (linesOf A ++ (y.2.take j).map (lineOf y.1))) ++ [D.str (lineOf y.1 v)] = strsD ((x.1 ++ nameText x.2.L) :: (linesOf A ++ (y.2.take (j + 1)).map (lineOf y.1))) := by
                rw [List.take_add_one, hv]
                simp [strsD]
              rw [e]
              rfl
        · rintro ρ ⟨s5, rfl⟩
          refine ⟨A ++ [y], B', some (.str y.1), s5, by rw [hAB]; simp, by simp [hAl], ?_⟩
          have e : (linesOf A ++ (y.2.take (strsD y.2).length).map (lineOf y.1)) = linesOf (A ++ [y]) := by
            rw [strs_len, List.take_length, linesOf_app, linesOf_cons]
            simp [linesOf]
          rw [e]
    · rintro ρ ⟨A, B, s4, s5, hAB, hAl, rfl⟩
      have hk : (strsD (sortK (x.2.T.map Prod.fst))).length = S.length := by
        have : sortK (x.2.T.map Prod.fst) = S.map Prod.fst := by rw [← hSS, sortT_keys]
        rw [this, strs_len, List.length_map]
      rw [hk] at hAl
      have hB : B = [] := by
        have := congrArg List.length hAB
        rw [List.length_append, hAl] at this
        exact List.eq_nil_of_length_eq_zero (by omega)
      subst hB
      rw [List.append_nil] at hAB
      subst hAB
      (try dsimp only)
      refine d_ret ?_
      refine (ev_var : EvD (dVar 3) _ (.raw (.ref fa))) _ ?_
      exact ⟨fa, [], _, os, rfl, rfl, .inl rfl, os, List.Sublist.refl _, k⟩
end
end K86

set_option Elab.async false
set_option linter.all false
set_option maxRecDepth 100000
set_option maxHeartbeats 2000000
namespace K86
open PySem PySem.Spec PyProof PyProof.Rows L2 TL DL
local macro_rules | `(tactic| walk_at "ev") => `(tactic| repeat' (with_reducible first
  | apply ev_c | (apply ev_var; with_unfolding_all exact rfl) | exact v_isStr | apply ev_op | apply ev_test | apply ev_and | apply ev_or | apply ev_not | apply ev_andV | apply ev_orV | apply ev_notV
  | apply ev_ifS | apply ev_ifI | apply ev_chain | apply ev_nil | apply ev_cons | apply ev_tup | apply ev_lst | apply ev_cb | apply ev_m0 | apply ev_m1 | apply ev_m2 | apply ev_sl | apply ev_noPart | apply ev_part | apply ev_revT | apply ev_yes
  | apply v_I0 | apply v_I | apply v_addS | apply v_eqS | apply v_eqI | apply v_eqB | apply v_neS | apply v_neI | apply v_inS | apply v_notInS | apply v_isN0 | apply v_isNS | apply v_isNT | apply v_notN0 | apply v_notNS | apply v_notNT
  | apply v_lenS | apply v_lenL | apply v_lenT | apply v_all | apply v_any | apply v_int1 | apply v_intb | apply v_max2 | apply v_min2 | apply v_join | apply v_split | apply v_part | apply v_lower | apply v_starts | apply v_find | apply v_slS | apply v_slT
  | apply ei_list | apply ei_tup | apply ei_str | apply ei_range1 | apply ei_enumS | apply eg_name | apply eg_nil | apply eg_cons | apply eg_tup
  | (intro _)))

/-! ### deeds -/
inductive Chg where
  | vals (a w : List Nat) (vs : List (List Nat))
  | inc (w : List Nat) (i : Int)
inductive Deed where
  | add (x : Ent2)
  | del (s : List Nat)
  | mod (s : List Nat) (cs : List Chg)
  | ren (s l : List Nat) (u : Option (List Nat)) (k : Bool)
def cADD : List Nat := [97, 100, 100]
def cDEL : List Nat := [100, 101, 108, 101, 116, 101]
def cMOD : List Nat := [109, 111, 100, 105, 102, 121]
def cREN : List Nat := [114, 101, 110, 97, 109, 101]
def cREP : List Nat := [114, 101, 112, 108, 97, 99, 101]
def cINC : List Nat := [105, 110, 99, 114, 101, 109, 101, 110, 116]
def cINT : List Nat := [105, 110, 116, 101, 103, 101, 114]
def hADD : List Nat := [97, 100, 100, 58, 32]
def hDEL : List Nat := [100, 101, 108, 101, 116, 101, 58, 32]
def hMOD : List Nat := [109, 111, 100, 105, 102, 121, 58, 32]
def hREN : List Nat := [114, 101, 110, 97, 109, 101, 58, 32]
def hLEAF : List Nat := [108, 101, 97, 102, 58, 32]
def hUND : List Nat := [117, 110, 100, 101, 114, 58, 32]
def lKEEP : List Nat := [107, 101, 101, 112, 58, 32, 84, 82, 85, 69]
def hVAL : List Nat := [61, 32]

def chgD : Chg → D
  | .vals a w vs => .tup [.str a, .str w, tupS vs]
  | .inc w i => .tup [.str cINC, .str w, .int i]
def optD : Option (List Nat) → D
  | none => .non
  | some u => .str u
def deedD (aN aE : Addr) : Deed → D
  | .add x => .tup [.str cADD, entObj aN aE x.L x.T]
  | .del s => .tup [.str cDEL, .str s]
  | .mod s cs => .tup [.str cMOD, .str s, .tup (cs.map chgD)]
  | .ren s l u k => .tup [.str cREN, .str s, .str l, optD u, .bl k]
def chgLines : Chg → List (List Nat)
  | .vals a w vs => (a ++ (32 :: w)) :: vs.map (hVAL ++ ·)
  | .inc w i => [cINC ++ (32 :: (w ++ (32 :: itx i)))]
def undL : Option (List Nat) → List (List Nat)
  | none => []
  | some u => [hUND ++ u]
def keepL : Bool → List (List Nat)
  | true => [lKEEP]
  | false => []
def deedLines : Deed → List (List Nat)
  | .add x => (hADD ++ nameText x.L) :: linesOf x.T
  | .del s => [hDEL ++ s]
  | .mod s cs => (hMOD ++ s) :: cs.flatMap chgLines
  | .ren s l u k => (hREN ++ s) :: (hLEAF ++ l) :: (undL u ++ keepL k)
def scrText (ds : List Deed) : List Nat := joinL [10, 10] (ds.map fun d => joinL [10] (deedLines d))
def isIntL (s : List Nat) : Bool := 1 ≤ (rmPre s [45]).length && (rmPre s [45]).length ≤ 30 && (rmPre s [45]).all (· ∈ [48, 49, 50, 51, 52, 53, 54, 55, 56, 57]) && (s = [48] || (rmPre s [45]).head? ≠ some 48)
structure GoodI (i : Int) : Prop where
  sz : i.natAbs.log2 < 1920
  len : (itx i).length ≤ 31
  ok : isIntL (itx i) = true
  vl : isValueL (itx i) = true
  bk : PySem.intText? (mkS (itx i)) = some i
  ch : ∀ c ∈ itx i, c < 128 ∧ c ≠ 10 ∧ c ≠ 32
structure GoodS (s : List Nat) : Prop where
  sz : s.length ≤ 100
  ch : ∀ c ∈ s, c < 128 ∧ c ≠ 10
def GoodC : Chg → Prop
  | .vals a w vs => a ∈ [cADD, cDEL, cREP] ∧ isWordL w = true ∧ vs.length ≤ 3 ∧ ∀ v ∈ vs, GoodV v
  | .inc w i => isWordL w = true ∧ GoodI i
structure DrawnE (x : Ent2) : Prop where
  nm : DrawnN x.L
  tb : ∃ T0, DrawnT T0 ∧ T0.length ≤ 6 ∧ x.T = sortT T0
def GoodD : Deed → Prop
  | .add x => DrawnE x
  | .del s => GoodS s
  | .mod s cs => GoodS s ∧ cs.length ≤ 5 ∧ ∀ c ∈ cs, GoodC c
  | .ren s l u _ => GoodS s ∧ GoodS l ∧ ∀ z, u = some z → GoodS z
theorem drawnE_good {x : Ent2} (h : DrawnE x) : GoodEnt x ∧ sortT x.T = x.T ∧ charsOk (nameText x.L) ∧ 10 ∉ nameText x.L := by
  obtain ⟨T0, h1, h2, h3⟩ := h.tb
  have hg := drawn_good h1 (by omega)
  have hs := name_sign fun l hl => leaf_sign (h.nm.lf l hl)
  refine ⟨⟨drawnN_good h.nm, by rw [h3]; exact sortT_good hg⟩, by rw [h3, sortT_idem hg], fun c hc => (hs c hc).1, fun z => (hs 10 z).2 rfl⟩
/-- a line: short, no newline, signs of the first 128, not empty -/
structure OkL (l : List Nat) : Prop where
  ne : l ≠ []
  sz : l.length ≤ 1600
  ch : ∀ c ∈ l, c < 128 ∧ c ≠ 10
theorem okL_app {a b : List Nat} (h1 : a ≠ []) (h2 : a.length ≤ 20) (h3 : ∀ c ∈ a, c < 128 ∧ c ≠ 10) (h4 : b.length ≤ 1580) (h5 : ∀ c ∈ b, c < 128 ∧ c ≠ 10) : OkL (a ++ b) :=
  ⟨by simp [h1], by rw [List.length_append]; omega, fun c hc => by
    rcases List.mem_append.mp hc with z | z
    · exact h3 c z
    · exact h5 c z⟩
theorem word_sign {w : List Nat} (h : isWordL w = true) : ∀ c ∈ w, c < 128 ∧ c ≠ 10 ∧ c ≠ 32 ∧ c ≠ 58 := fun c hc => by
  have h2 : ∀ c ∈ LETTERS, c < 128 ∧ c ≠ 10 ∧ c ≠ 32 ∧ c ≠ 58 := by decide
  exact h2 c (word_letters h c hc)
theorem goodV_sign {v : List Nat} (h : GoodV v) : ∀ c ∈ v, c < 128 ∧ c ≠ 10 := fun c hc => ⟨h.ch c hc, fun z => h.nl (z ▸ hc)⟩
theorem tab_lines {T : Tab} (h : DrawnT T) (hl : T.length ≤ 6) : (linesOf T).length ≤ 18 ∧ ∀ l ∈ linesOf T, OkL l := by
  refine ⟨?_, fun l hl => ?_⟩
  · have : ∀ T : Tab, (∀ y ∈ T, y.2.length ≤ 3) → (linesOf T).length ≤ 3 * T.length := fun T => by
      induction T with
      | nil => intro _; simp [linesOf]
      | cons y T ih =>
        intro h
        have h1 := ih fun z hz => h z (by simp [hz])
        have h2 := h y (by simp)
        rw [linesOf_cons, List.length_append, List.length_map, List.length_cons]
        omega
    have := this T h.cnt
    omega
  · obtain ⟨y, hy, hl⟩ := List.mem_flatMap.mp hl
    obtain ⟨v, hv, e⟩ := List.mem_map.mp hl
    have hw := word_ok _ (h.wd y hy)
    have hwl := word_len hw
    have hvv := h.vl y hy v hv
    have hvs := hvv.sz
    rw [← e]
    unfold lineOf
    rw [List.append_assoc]
    refine okL_app (fun z => by rw [z] at hwl; simp at hwl) (by omega) (fun c hc => ⟨(word_sign hw c hc).1, (word_sign hw c hc).2.1⟩) (by simp only [List.length_append, List.length_cons, List.length_nil]; omega) fun c hc => ?_
    rcases List.mem_append.mp hc with z | z
    · simp only [List.mem_cons, List.not_mem_nil, or_false] at z
      rcases z with z | z <;> (rw [z]; decide)
    · exact goodV_sign hvv c z
theorem drawn_sorted {T0 : Tab} (h : DrawnT T0) (hl : T0.length ≤ 6) : DrawnT (sortT T0) ∧ (sortT T0).length ≤ 6 := by
  have hm := fun x => sortT_mem (x := x) h.nd
  refine ⟨⟨?_, fun x hx => h.wd x ((hm x).mp hx), fun x hx => h.ne x ((hm x).mp hx), fun x hx => h.cnt x ((hm x).mp hx), fun x hx => h.vl x ((hm x).mp hx)⟩, ?_⟩
  · rw [sortT_keys]; exact (sortK_perm _).nodup_iff.mpr h.nd
  · unfold sortT
    rw [List.length_map, (sortK_perm _).length_eq, List.length_map]; exact hl
theorem chg_lines {c : Chg} (h : GoodC c) : (chgLines c).length ≤ 4 ∧ ∀ l ∈ chgLines c, OkL l := by
  cases c with
  | vals a w vs =>
    obtain ⟨h1, h2, h3, h4⟩ := h
    refine ⟨by unfold chgLines; simp only [List.length_cons, List.length_map]; omega, fun l hl => ?_⟩
    unfold chgLines at hl
    rcases List.mem_cons.mp hl with z | z
    · rw [z]
      have ha : a ≠ [] ∧ a.length ≤ 20 ∧ ∀ c ∈ a, c < 128 ∧ c ≠ 10 := by
        have : ∀ a ∈ [cADD, cDEL, cREP], a ≠ [] ∧ a.length ≤ 20 ∧ ∀ c ∈ a, c < 128 ∧ c ≠ 10 := by decide
        exact this a h1
      have hwl := word_len h2
      refine okL_app ha.1 ha.2.1 ha.2.2 (by rw [List.length_cons]; omega) fun c hc => ?_
      rcases List.mem_cons.mp hc with z | z
      · rw [z]; decide
      · exact ⟨(word_sign h2 c z).1, (word_sign h2 c z).2.1⟩
    · obtain ⟨v, hv, e⟩ := List.mem_map.mp z
      rw [← e]
      have := (h4 v hv).sz
      exact okL_app (by decide) (by decide) (by decide) (by omega) (goodV_sign (h4 v hv))
  | inc w i =>
    obtain ⟨h2, h3⟩ := h
    refine ⟨by unfold chgLines; simp, fun l hl => ?_⟩
    unfold chgLines at hl
    rw [List.mem_singleton.mp hl]
    have hwl := word_len h2
    have hil := h3.len
    refine okL_app (by decide) (by decide) (by decide) (by simp only [List.length_cons, List.length_append]; omega) fun c hc => ?_
    rcases List.mem_cons.mp hc with z | z
    · rw [z]; decide
    · rcases List.mem_append.mp z with z | z
      · exact ⟨(word_sign h2 c z).1, (word_sign h2 c z).2.1⟩
      · rcases List.mem_cons.mp z with z | z
        · rw [z]; decide
        · exact ⟨(h3.ch c z).1, (h3.ch c z).2.1⟩
theorem okL_head {hd s : List Nat} (h : hd ∈ [hDEL, hMOD, hREN, hLEAF, hUND]) (hs : GoodS s) : OkL (hd ++ s) := by
  have : ∀ a ∈ [hDEL, hMOD, hREN, hLEAF, hUND], a ≠ [] ∧ a.length ≤ 20 ∧ ∀ c ∈ a, c < 128 ∧ c ≠ 10 := by decide
  obtain ⟨h1, h2, h3⟩ := this hd h
  have := hs.sz
  exact okL_app h1 h2 h3 (by omega) hs.ch
theorem flat_len {cs : List Chg} (h : ∀ c ∈ cs, GoodC c) : (cs.flatMap chgLines).length ≤ 4 * cs.length := by
  induction cs with
  | nil => simp
  | cons c cs ih =>
    have h1 := ih fun z hz => h z (by simp [hz])
    have h2 := (chg_lines (h c (by simp))).1
    rw [List.flatMap_cons, List.length_append, List.length_cons]
    omega
theorem deed_lines_ok {d : Deed} (h : GoodD d) : (deedLines d).length ≤ 21 ∧ ∀ l ∈ deedLines d, OkL l := by
  cases d with
  | add x =>
    obtain ⟨T0, h1, h2, h3⟩ := h.tb
    obtain ⟨g1, g2⟩ := drawn_sorted h1 h2
    obtain ⟨t1, t2⟩ := tab_lines g1 g2
    have hn := name_len fun l hl => leaf_len (h.nm.lf l hl)
    have hl3 := h.nm.len
    have hs := name_sign fun l hl => leaf_sign (h.nm.lf l hl)
    show ((hADD ++ nameText x.L) :: linesOf x.T).length ≤ 21 ∧ ∀ l ∈ ((hADD ++ nameText x.L) :: linesOf x.T), OkL l
    rw [h3]
    refine ⟨by rw [List.length_cons]; omega, fun l hl => ?_⟩
    rcases List.mem_cons.mp hl with z | z
    · rw [z]
      exact okL_app (by decide) (by decide) (by decide) (by omega) hs
    · exact t2 l z
  | del s => exact ⟨by unfold deedLines; simp, fun l hl => by unfold deedLines at hl; rw [List.mem_singleton.mp hl]; exact okL_head (by simp) h⟩
  | mod s cs =>
    obtain ⟨h1, h2, h3⟩ := h
    have hf := flat_len h3
    refine ⟨by unfold deedLines; rw [List.length_cons]; omega, fun l hl => ?_⟩
    unfold deedLines at hl
    rcases List.mem_cons.mp hl with z | z
    · rw [z]; exact okL_head (by simp) h1
    · obtain ⟨c, hc, hl⟩ := List.mem_flatMap.mp z
      exact (chg_lines (h3 c hc)).2 l hl
  | ren s l u k =>
    obtain ⟨h1, h2, h3⟩ := h
    refine ⟨by unfold deedLines; cases u <;> cases k <;> simp [undL, keepL], fun y hl => ?_⟩
    unfold deedLines at hl
    rcases List.mem_cons.mp hl with z | z
    · rw [z]; exact okL_head (by simp) h1
    · rcases List.mem_cons.mp z with z | z
      · rw [z]; exact okL_head (by simp) h2
      · rcases List.mem_append.mp z with z | z
        · cases u with
          | none => cases z
          | some u => rw [List.mem_singleton.mp z]; exact okL_head (by simp) (h3 u rfl)
        · cases k with
          | false => cases z
          | true => rw [List.mem_singleton.mp z]; exact ⟨by decide, by decide, by decide⟩
theorem lines_sum {ls : List (List Nat)} (h : ∀ l ∈ ls, OkL l) : (ls.map List.length).sum ≤ 1600 * ls.length := sum_le (n := 1600) ls fun s hs => (h s hs).sz
theorem deed_text_len {d : Deed} (h : GoodD d) : (joinL [10] (deedLines d)).length ≤ 34000 := by
  obtain ⟨h1, h2⟩ := deed_lines_ok h
  have h3 := lines_sum h2
  have h4 := joinL_len [10] (deedLines d)
  simp only [List.length_cons, List.length_nil] at h4
  omega
abbrev R_is_integer_text : DF := DL.Fn str1 (fun s => s.length ≤ 1000000) fun s => .bl (isIntL s)
abbrev R_is_valid : DF := DL.Fn (fun s : List Nat => [.str cINT, .str s]) (fun s => s.length ≤ 1000000) fun s => .bl (isValueL s && isIntL s)
abbrev R_change_lines : DF := DL.Fn (fun c => [chgD c]) GoodC fun c => .lst (strsD (chgLines c))
abbrev R_deed_lines (aN aE : Addr) : DF := DL.Fn (fun d => [deedD aN aE d]) GoodD fun d => .lst (strsD (deedLines d))
structure GoodDs (ds : List Deed) : Prop where
  len : ds.length ≤ 6
  ok : ∀ d ∈ ds, GoodD d
abbrev R_script_text (aN aE : Addr) : DF := DL.Fn (fun ds => [.tup (ds.map (deedD aN aE))]) GoodDs fun ds => .str (scrText ds)
theorem strSub_len (x : Str) (lo hi : Nat) : (Builtin.Str.strSub x lo hi).length ≤ x.length := by
  show (x.cps.extract lo hi).size ≤ x.cps.size
  rw [Array.size_extract]
  omega
theorem rmPre_len (s t : List Nat) : (rmPre s t).length ≤ s.length := by
  unfold rmPre
  rw [← len_tl]
  unfold Txt.removeprefix Txt.affix
  split
  · split
    · rw [mkS_len]; exact Nat.le_refl _
    · exact Nat.le_trans (strSub_len _ _ _) (by rw [mkS_len]; exact Nat.le_refl _)
  · rw [mkS_len]; exact Nat.le_refl _
section
variable {P : Program} {w : World} {K : PySem.W.Frag} {mg : Str → Option Value} {base : Heap} {aN aE aR : Addr}
theorem sc_is_integer_text : FnScope ["value", "digits", "digit"] ["value"] (defScope (top 37)) := ⟨rfl, rfl, rfl, by decide +kernel, rfl, by decide +kernel, by decide +kernel⟩
theorem ok_is_integer_text {f : Addr} {fd : FuncData} (F : Fun K "is_integer_text" "is_integer_text" (top 37) f fd) (T : Txt K mg aN aE aR) : FnOk P w K mg base CX0 1 f fd ["value"] (Pr K (NoX R_is_integer_text)) := by
  have sc := sc_is_integer_text
  refine okD F sc (fun ds os PP ⟨_, e, _⟩ => by rw [e]; rfl) ?_
  apply Exists.intro
  apply And.intro
  · intro cdv A outer s H hr
    have hu := hr.units
    have hu0 : (A.deeper (envOfC "is_integer_text" (defScope (top 37)) s.heap.objs.size f cdv)).units + 1 < cLine := by omega
    exact (pb_cons (sx_set 1 sc.nd (px_m1 PySem.F.slot_str_removeprefix PySem.F.type_str_removeprefix mt_removeprefix l_remP (px_var 0) (px_str [45])))
      (pb_cons (sx_if (PXW.pt (ptw_or (DL.pt_no (DL.pt_chain op_le op_le l_le l_le px_int (px_cb call_len l_len T.n_len PySem.boot_len (pxa_cons (px_var 1) pxa_nil)) (px_gintE T.g_MAX_DIGITS))) (ptw_or1 (DL.pt_no (pt_v (px_cb (cr_all rfl) l_all T.n_all (by decide +kernel) (pxa_cons (px_lc (own := [("digit", 2)]) (own1 2) rfl sc.nd (DL.ix_str (px_var 1)) (blkOk_by (N := ["value", "digits", "digit"]) (sc := defScope (top 37)) (by decide +kernel)) (fun _ _ _ _ _ => pg_name (i := 2) sc.nd rfl (Or.inl rfl)) (fun _ _ _ _ _ => pxts_nil) (fun _ _ _ _ _ => (DL.px_cmp op_in_sign l_inS (px_var 2) (px_gstrE T.g_DIGITS)))) pxa_nil))))))) (pb_one (sx_ret px_bl)) pb_nil)
      (pb_one (sx_ret (px_or (DL.px_cmp op_eq l_eq (px_var 0) (px_str [48])) (px_one (DL.px_cmp op_ne l_ne (px_ix L2.ix_str l_ixS (px_var 1) px_int) (px_str [48]))))))))
  · rintro ds os PP ⟨s, rfl, hl, k⟩ hx
    have hr := rmPre_len s [45]
    refine q_set (d := .str (rmPre s [45])) (ev_m1 ev_var ev_c (v_remP (by omega))) eg_name ?_
    generalize hd : rmPre s [45] = d at *
    refine q_if (b := !(decide (1 ≤ d.length) && decide (d.length ≤ 30)) || !(d.all (· ∈ [48, 49, 50, 51, 52, 53, 54, 55, 56, 57]))) (evt_eq (ev_or (ev_not (ev_test (ev_chain (b1 := decide ((1 : Int) ≤ (d.length : Int))) (b2 := decide ((d.length : Int) ≤ 30)) ev_c (ev_cb (ev_cons ev_var ev_nil) (v_lenS (by omega))) v_I0 (fun _ => ev_c) (fun _ => v_I0)))) fun hb => ev_not (ev_test (ev_cb (ev_cons (evd_eq (ev_lc' (g := fun c => .bl (decide (c ∈ [48, 49, 50, 51, 52, 53, 54, 55, 56, 57]))) (ei_str (s := d) ev_var) rfl (by omega) fun c _ => ⟨_, eg_name, rfl, rfl, ev_op ev_var ev_c v_inS⟩) (b := .lst (bls (d.map fun c => decide (c ∈ [48, 49, 50, 51, 52, 53, 54, 55, 56, 57])))) (by simp [bls])) ev_nil) v_all))) ?_) (fun hb => ?_) (fun hb => ?_)
    · rw [List.all_map]
      have e1 : decide ((1 : Int) ≤ (d.length : Int)) = decide (1 ≤ d.length) := by
        by_cases z : 1 ≤ d.length
        · rw [decide_eq_true z, decide_eq_true (by omega)]
        · rw [decide_eq_false z, decide_eq_false (by omega)]
      have e2 : decide ((d.length : Int) ≤ 30) = decide (d.length ≤ 30) := by
        by_cases z : d.length ≤ 30
        · rw [decide_eq_true z, decide_eq_true (by omega)]
        · rw [decide_eq_false z, decide_eq_false (by omega)]
      rw [e1, e2]
      rfl
    · refine s_ret (d := .bl (isIntL s)) (evd_eq ev_c ?_) ⟨os, List.Sublist.refl _, k⟩
      have : isIntL s = false := by
        unfold isIntL
        rw [hd]
        simp only [Bool.or_eq_true, Bool.not_eq_true', Bool.and_eq_false_iff] at hb
        rcases hb with (hb | hb) | hb
        · rw [hb]; rfl
        · rw [hb]; simp
        · rw [hb]; simp
      rw [this]
    · refine s_next ?_
      (try dsimp only)
      simp only [Bool.or_eq_false_iff, Bool.not_eq_false', Bool.and_eq_true, decide_eq_true_eq] at hb
      obtain ⟨⟨h1, h2⟩, h3⟩ := hb
      obtain ⟨c, d', rfl⟩ : ∃ c d', d = c :: d' := by
        cases d with
        | nil => simp at h1
        | cons c d' => exact ⟨c, d', rfl⟩
      refine s_ret (d := .bl (isIntL s)) (evd_eq (ev_orV (ev_op ev_var ev_c v_eqS) fun _ => ev_op (ev_op ev_var ev_c (v_ixS (by omega) (atI_nat (j := 0) rfl))) ev_c v_neS) ?_) ⟨os, List.Sublist.refl _, k⟩
      unfold isIntL
      rw [hd, decide_eq_true h1, decide_eq_true h2, h3]
      simp
theorem sc_is_valid : FnScope ["syntax", "value"] ["syntax", "value"] (defScope (top 38)) := ⟨rfl, rfl, rfl, by decide +kernel, rfl, by decide +kernel, by decide +kernel⟩
theorem ok_is_valid {f : Addr} {fd : FuncData} (F : Fun K "is_valid" "is_valid" (top 38) f fd) (T : Txt K mg aN aE aR) (k_is_value : Kn0 P w K mg base "is_value" 1 ["value"] R_is_value) (k_is_integer_text : Kn0 P w K mg base "is_integer_text" 1 ["value"] R_is_integer_text) : FnOk P w K mg base CX0 2 f fd ["syntax", "value"] (Pr K (NoX R_is_valid)) := by
  have sc := sc_is_valid
  refine okD F sc (fun ds os PP ⟨_, e, _⟩ => by rw [e]; rfl) ?_
  apply Exists.intro
  apply And.intro
  · intro cdv A outer s H hr
    have hu := hr.units
    have hu0 : (A.deeper (envOfC "is_valid" (defScope (top 38)) s.heap.objs.size f cdv)).units + 1 < cLine := by omega
    exact (pb_cons (sx_if (DL.pt_no (pt_v (px_call0 k_is_value (hr.mono (by decide)) (pxa_cons (px_var 1) pxa_nil)))) (pb_one (sx_ret px_bl)) pb_nil)
      (pb_cons (sx_if (DL.pt_cmp op_eq l_eq (px_var 0) (px_str [110, 97, 109, 101])) (pb_one sx_never) pb_nil)
      (pb_cons (sx_if (DL.pt_cmp op_eq l_eq (px_var 0) (px_str [105, 110, 116, 101, 103, 101, 114])) (pb_one (sx_ret (px_call0 k_is_integer_text (hr.mono (by decide)) (pxa_cons (px_var 1) pxa_nil)))) pb_nil)
      (pb_cons (sx_if (DL.pt_cmp op_eq l_eq (px_var 0) (px_str [116, 114, 117, 116, 104])) (pb_one sx_never) pb_nil)
      (pb_one sx_never)))))
  · rintro ds os PP ⟨s, rfl, hl, k⟩ hx
    refine q_if (b := !isValueL s) (evt_eq (ev_not (ev_test (ev_fn s (ev_cons ev_var ev_nil) trivial))) rfl) (fun hb => ?_) (fun hb => ?_)
    · have hv : isValueL s = false := by simpa using hb
      refine s_ret (d := .bl (isValueL s && isIntL s)) (evd_eq ev_c (by rw [hv]; rfl)) ⟨os, List.Sublist.refl _, k⟩
    · have hv : isValueL s = true := by simpa using hb
      refine s_next ?_
      (try dsimp only)
      refine q_if (b := false) (evt_eq (ev_test (ev_op ev_var ev_c v_eqS)) (by decide)) (fun h => by cases h) fun _ => q_next ?_
      refine q_if (b := true) (evt_eq (ev_test (ev_op ev_var ev_c v_eqS)) (by decide)) (fun _ => ?_) (fun h => by cases h)
      exact s_ret (d := .bl (isValueL s && isIntL s)) (evd_eq (ev_fn s (ev_cons ev_var ev_nil) hl) (by rw [hv]; rfl)) ⟨os, List.Sublist.refl _, k⟩
theorem sc_change_lines : FnScope ["change", "action", "word", "what", "value"] ["change"] (defScope (top 53)) := ⟨rfl, rfl, rfl, by decide +kernel, rfl, by decide +kernel, by decide +kernel⟩
theorem ok_change_lines {f : Addr} {fd : FuncData} (F : Fun K "change_lines" "change_lines" (top 53) f fd) (T : Txt K mg aN aE aR) : FnOk P w K mg base CX0 1 f fd ["change"] (Pr K (NoX R_change_lines)) := by
  have sc := sc_change_lines
  refine okD F sc (fun ds os PP ⟨_, e, _⟩ => by rw [e]; rfl) ?_
  apply Exists.intro
  apply And.intro
  · intro cdv A outer s H hr
    have hu := hr.units
    have hu0 : (A.deeper (envOfC "change_lines" (defScope (top 53)) s.heap.objs.size f cdv)).units + 1 < cLine := by omega
    exact (pb_cons (sx_asg (px_var 0) (gx_tup (n := 3) rfl (gxs_cons (gx_name 1 sc.nd) (gxs_cons (gx_name 2 sc.nd) (gxs_cons (gx_name 3 sc.nd) gxs_nil)))))
      (pb_cons (sx_if (DL.pt_cmp op_eq l_eq (px_var 1) (px_gstrE T.g_INCREMENT)) (pb_one (sx_ret (px_lst (pxa_cons (px_joined (.cons (px_fmt (px_var 1)) (.cons (px_str [32]) (.cons (px_fmt (px_var 2)) (.cons (px_str [32]) (.cons (px_fmt (px_var 3)) .nil)))))) pxa_nil)))) pb_nil)
      (pb_one (sx_ret (px_op op_catL l_catL (px_lst (pxa_cons (px_joined (.cons (px_fmt (px_var 1)) (.cons (px_str [32]) (.cons (px_fmt (px_var 2)) .nil)))) pxa_nil)) (px_lc (own := [("value", 4)]) (own1 4) rfl sc.nd (DL.ix_tup (px_var 3)) (blkOk_by (N := ["change", "action", "word", "what", "value"]) (sc := defScope (top 53)) (by decide +kernel)) (fun _ _ _ _ _ => pg_name (i := 4) sc.nd rfl (Or.inl rfl)) (fun _ _ _ _ _ => pxts_nil) (fun _ _ _ _ _ => (px_op op_add_str l_addS (px_gstrE T.g_VALUE) (px_var 4)))))))))
  · rintro ds os PP ⟨c, rfl, hg, k⟩ hx
    obtain ⟨hcl, hok⟩ := chg_lines hg
    cases c with
    | inc w i =>
      obtain ⟨hw, hi⟩ := hg
      have hwl := word_len hw
      have hil := hi.len
      refine q_set (d := .tup [.str cINC, .str w, .int i]) ev_var (eg_tup (eg_cons eg_name (eg_cons eg_name (eg_cons eg_name eg_nil)))) ?_
      refine q_if (b := true) (evt_eq (ev_test (ev_op ev_var ev_c v_eqS)) (by decide)) (fun _ => ?_) (fun h => by cases h)
      have h9 : cINC.length = 9 := rfl
      refine s_ret (d := .lst (strsD (chgLines (.inc w i)))) (ev_lst (ds := [.str (cINC ++ (32 :: (w ++ (32 :: itx i))))]) (ev_cons ?_ ev_nil) (by simp)) ⟨os, List.Sublist.refl _, k⟩
      refine evd_eq (ev_js (s := cINC) (ev_fmtS ev_var (by decide)) (by decide) (ev_js (s := [32]) ev_c (by simp only [List.length_append, List.length_cons, List.length_nil]; omega) (ev_js (s := w) (ev_fmtS ev_var (by omega)) (by simp only [List.length_append, List.length_cons, List.length_nil]; omega) (ev_js (s := [32]) ev_c (by simp only [List.length_append, List.length_cons, List.length_nil]; omega) (ev_js (s := itx i) (ev_fmtI ev_var hi.sz) (by simp only [List.length_append, List.length_cons, List.length_nil]; omega) ev_js0))))) ?_
      simp
    | vals a w vs =>
      obtain ⟨ha, hw, hvs, hv⟩ := hg
      have hwl := word_len hw
      have hal : a.length ≤ 7 ∧ a ≠ cINC := by
        have : ∀ a ∈ [cADD, cDEL, cREP], a.length ≤ 7 ∧ a ≠ cINC := by decide
        exact this a ha
      refine q_set (d := .tup [.str a, .str w, tupS vs]) ev_var (eg_tup (eg_cons eg_name (eg_cons eg_name (eg_cons eg_name eg_nil)))) ?_
      refine q_if (b := false) (evt_eq (ev_test (ev_op ev_var ev_c v_eqS)) (decide_eq_false hal.2)) (fun h => by cases h) fun _ => q_next ?_
      refine s_ret (d := .lst (strsD (chgLines (.vals a w vs)))) (evd_eq (ev_op (ev_lst (ds := [.str (a ++ (32 :: w))]) (ev_cons (evd_eq (ev_js (s := a) (ev_fmtS ev_var (by omega)) (by simp only [List.length_nil]; omega) (ev_js (s := [32]) ev_c (by simp only [List.length_append, List.length_cons, List.length_nil]; omega) (ev_js (s := w) (ev_fmtS ev_var (by omega)) (by simp only [List.length_append, List.length_cons, List.length_nil]; omega) ev_js0))) (by simp)) ev_nil) (by simp)) (ev_lc' (l := vs) (enc := D.str) (g := fun v => .str (hVAL ++ v)) (ei_tup ev_var) rfl (by omega) fun v hv2 => ⟨_, eg_name, rfl, rfl, ev_op ev_c ev_var (v_addS (s := hVAL) (by
        have := (hv v hv2).sz
        have : hVAL.length = 2 := rfl
        omega))⟩) (v_catL (.inl rfl) (.inl rfl) (by rw [List.length_map]; simp only [List.length_cons, List.length_nil]; omega))) ?_) ⟨os, List.Sublist.refl _, k⟩
      unfold chgLines strsD
      simp only [List.map_cons, List.map_map, List.cons_append, List.nil_append]
      rfl
theorem sc_deed_lines : FnScope ["deed", "lines", "change", "leaf", "under", "keep"] ["deed"] (defScope (top 54)) := ⟨rfl, rfl, rfl, by decide +kernel, rfl, by decide +kernel, by decide +kernel⟩
theorem ok_deed_lines {f : Addr} {fd : FuncData} (F : Fun K "deed_lines" "deed_lines" (top 54) f fd) (T : Txt K mg aN aE aR) (p_Entry_name : KnP P w K mg base CX0 aE "name" 1 ["self"] (NoX (R_Entry_name aN aE))) (p_Name_text : KnP P w K mg base CX0 aN "text" 1 ["self"] (NoX (R_Name_text aN))) (k_value_lines : Kn0 P w K mg base "value_lines" 3 ["entry"] (R_value_lines aN aE)) (k_change_lines : Kn0 P w K mg base "change_lines" 1 ["change"] R_change_lines) : FnOk P w K mg base CX0 4 f fd ["deed"] (Pr K (NoX (R_deed_lines aN aE))) := by
  have sc := sc_deed_lines
  refine okD F sc (fun ds os PP ⟨_, e, _⟩ => by rw [e]; rfl) ?_
  apply Exists.intro
  apply And.intro
  · intro cdv A outer s H hr
    have hu := hr.units
    have hu0 : (A.deeper (envOfC "deed_lines" (defScope (top 54)) s.heap.objs.size f cdv)).units + 1 < cLine := by omega
    exact (pb_cons (sx_if (DL.pt_cmp op_eq l_eq (px_ix L2.ix_tup l_ixT (px_var 0) px_int) (px_str [97, 100, 100])) (pb_one (sx_ret (px_op op_catL l_catL (px_lst (pxa_cons (px_op op_add_str l_addS (px_gstrE T.g_ADD) (px_prop_0 p_Name_text (hr.mono (by decide)) (px_prop_0 p_Entry_name (hr.mono (by decide)) (px_ix L2.ix_tup l_ixT (px_var 0) px_int)))) pxa_nil)) (px_call0 k_value_lines (hr.mono (by decide)) (pxa_cons (px_ix L2.ix_tup l_ixT (px_var 0) px_int) pxa_nil))))) pb_nil)
      (pb_cons (sx_set 1 sc.nd (px_lstC (pxa_cons (px_op op_add_str l_addS (px_op op_add_str l_addS (px_ix L2.ix_tup l_ixT (px_var 0) px_int) (px_gstrE T.g_COLON)) (px_ix L2.ix_tup l_ixT (px_var 0) px_int)) pxa_nil)))
      (pb_cons (sx_if (DL.pt_cmp op_eq l_eq (px_ix L2.ix_tup l_ixT (px_var 0) px_int) (px_str [109, 111, 100, 105, 102, 121])) (pb_one (sx_for PassesOwn.never rfl (DL.ix_tup (px_ix L2.ix_tup l_ixT (px_var 0) px_int)) (gx_name 2 sc.nd) (pb_one (sx_expr (px_extend (px_var 1) (px_call0 k_change_lines (hr.mono (by decide)) (pxa_cons (px_var 2) pxa_nil))))))) (pb_one (sx_if (DL.pt_cmp op_eq l_eq (px_ix L2.ix_tup l_ixT (px_var 0) px_int) (px_str [114, 101, 110, 97, 109, 101])) (pb_cons (sx_asg (px_sl sl_tupA l_slT (px_var 0) (pxo_some px_int) pxo_none) (gx_tup (n := 3) rfl (gxs_cons (gx_name 3 sc.nd) (gxs_cons (gx_name 4 sc.nd) (gxs_cons (gx_name 5 sc.nd) gxs_nil)))))
      (pb_cons (sx_expr (px_append (px_var 1) (px_op op_add_str l_addS (px_gstrE T.g_LEAF) (px_var 3))))
      (pb_cons (sx_if (DL.pt_cmp op_notN l_notN (px_var 4) px_non) (pb_one (sx_expr (px_append (px_var 1) (px_op op_add_str l_addS (px_gstrE T.g_UNDER) (px_var 4))))) pb_nil)
      (pb_one (sx_if (pt_v (px_var 5)) (pb_one (sx_expr (px_append (px_var 1) (px_gstrE T.g_KEEP)))) pb_nil))))) pb_nil)))
      (pb_one (sx_ret (px_freeze (px_var 1)))))))
  · rintro ds os PP ⟨d, rfl, hg, k⟩ hx
    obtain ⟨hdl, hok⟩ := deed_lines_ok hg
    cases d with
    | add x =>
      obtain ⟨he, hs, hc, hn⟩ := drawnE_good hg
      have hnl := he.nm.sz
      have h5 : hADD.length = 5 := rfl
      refine q_if (b := true) (evt_eq (ev_test (ev_op (ev_op ev_var ev_c (v_ixT (atI_nat (j := 0) rfl))) ev_c v_eqS)) (by decide)) (fun _ => ?_) (fun h => by cases h)
      have hdl2 : (linesOf x.T).length + 1 ≤ 21 := hdl
      refine s_ret (d := .lst (strsD (deedLines (.add x)))) (evd_eq (ev_op (ev_lst (ds := [.str (hADD ++ nameText x.L)]) (ev_cons (ev_op ev_c (ev_prop x.L (ev_prop x (ev_op ev_var ev_c (v_ixT (atI_nat (j := 1) rfl))) (.inl rfl) rfl trivial) (.inl rfl) rfl trivial) (v_addS (s := hADD) (by omega))) ev_nil) (by simp)) (ev_fn x (ev_cons (ev_op ev_var ev_c (v_ixT (atI_nat (j := 1) rfl))) ev_nil) he) (v_catL (.inl rfl) (.inl rfl) (by rw [strs_len]; simp only [List.length_cons, List.length_nil]; omega))) rfl) ⟨os, List.Sublist.refl _, k⟩
    | del s =>
      have hsl := hg.sz
      refine q_if (b := false) (evt_eq (ev_test (ev_op (ev_op ev_var ev_c (v_ixT (atI_nat (j := 0) rfl))) ev_c v_eqS)) (by decide)) (fun h => by cases h) fun _ => q_next ?_
      refine q_lstC (ds := [.str (hDEL ++ s)]) (ev_cons (evd_eq (ev_op (ev_op (ev_op ev_var ev_c (v_ixT (atI_nat (j := 0) rfl))) ev_c (v_addS (s := cDEL) (by decide))) (ev_op ev_var ev_c (v_ixT (atI_nat (j := 1) rfl))) (v_addS (by have : (cDEL ++ tl { cps := #[58, 32] }).length = 8 := rfl; omega))) rfl) ev_nil) (by simp) fun fa hfa => ?_
      refine q_if (b := false) (evt_eq (ev_test (ev_op (ev_op ev_var ev_c (v_ixT (atI_nat (j := 0) rfl))) ev_c v_eqS)) (by decide)) (fun h => by cases h) fun _ => ?_
      refine s_if (b := false) (evt_eq (ev_test (ev_op (ev_op ev_var ev_c (v_ixT (atI_nat (j := 0) rfl))) ev_c v_eqS)) (by decide)) (fun h => by cases h) fun _ => s_next ?_
      (try dsimp only)
      refine d_ret ?_
      refine (ev_var : EvD (dVar 1) _ (.raw (.ref fa))) _ ?_
      exact ⟨fa, [], _, os, rfl, rfl, .inl rfl, os, List.Sublist.refl _, k⟩
    | mod s cs =>
      obtain ⟨hs, hcs, hgc⟩ := hg
      have hsl := hs.sz
      refine q_if (b := false) (evt_eq (ev_test (ev_op (ev_op ev_var ev_c (v_ixT (atI_nat (j := 0) rfl))) ev_c v_eqS)) (by decide)) (fun h => by cases h) fun _ => q_next ?_
      refine q_lstC (ds := [.str (hMOD ++ s)]) (ev_cons (evd_eq (ev_op (ev_op (ev_op ev_var ev_c (v_ixT (atI_nat (j := 0) rfl))) ev_c (v_addS (s := cMOD) (by decide))) (ev_op ev_var ev_c (v_ixT (atI_nat (j := 1) rfl))) (v_addS (by have : (cMOD ++ tl { cps := #[58, 32] }).length = 8 := rfl; omega))) rfl) ev_nil) (by simp) fun fa hfa => ?_
      refine q_if (b := true) (evt_eq (ev_test (ev_op (ev_op ev_var ev_c (v_ixT (atI_nat (j := 0) rfl))) ev_c v_eqS)) (by decide)) (fun _ => ?_) (fun h => by cases h)
      refine s_for (ei_tup (ds := cs.map chgD) (ev_op ev_var ev_c (v_ixT (atI_nat (j := 2) rfl)))) (fun i ρ => ∃ (s2 s3 s4 s5 : Option D), ρ = ⟨[some (deedD aN aE (.mod s cs)), some (.raw (.ref fa)), s2, s3, s4, s5], ⟨fa, .lst (strsD ((hMOD ++ s) :: (cs.take i).flatMap chgLines))⟩ :: os, fun a => a = fa ∨ False⟩) ⟨none, none, none, none, rfl⟩ ?_ ?_
      · rintro i d ρ hd ⟨s2, s3, s4, s5, rfl⟩
        rw [List.getElem?_map] at hd
        cases hc : cs[i]? with
        | none => rw [hc] at hd; cases hd
        | some c =>
          rw [hc] at hd
          cases hd
          have hcm := List.mem_of_getElem? hc
          have hil : i < cs.length := (List.getElem?_eq_some_iff.mp hc).1
          have hf1 := flat_len (cs := cs.take i) fun z hz => hgc z (List.mem_of_mem_take hz)
          have hf2 := (chg_lines (hgc c hcm)).1
          rw [List.length_take] at hf1
          refine eg_name _ ?_
          refine d_drop ?_
          refine (ev_var : EvD (dVar 1) _ (.raw (.ref fa))) _ ⟨⟨fa, _, rfl, sees_cell (l := []) rfl⟩, ?_⟩
          refine (ev_fn c (ev_cons ev_var ev_nil) (hgc c hcm)) _ ?_
          refine ⟨fa, [], os, _, strsD (chgLines c), rfl, rfl, rfl, ?_, ?_⟩
          · rw [strs_len, strs_len, List.length_cons]; omega
          · refine ⟨some (chgD c), s3, s4, s5, ?_⟩
            have e : strsD ((hMOD ++ s) :: (cs.take i).flatMap chgLines) ++ strsD (chgLines c) = strsD ((hMOD ++ s) :: (cs.take (i + 1)).flatMap chgLines) := by
              rw [← strs_app, List.take_add_one, hc, List.flatMap_append]
              simp
            rw [e]
            rfl
      · rintro ρ ⟨s2, s3, s4, s5, rfl⟩
        have e : cs.take (cs.map chgD).length = cs := by rw [List.length_map, List.take_length]
        rw [e]
        (try dsimp only)
        refine d_ret ?_
        refine (ev_var : EvD (dVar 1) _ (.raw (.ref fa))) _ ?_
        exact ⟨fa, [], _, os, rfl, rfl, .inl rfl, os, List.Sublist.refl _, k⟩
    | ren s l u kp =>
      obtain ⟨hs, hl, hu2⟩ := hg
      have hsl := hs.sz
      have hll := hl.sz
      refine q_if (b := false) (evt_eq (ev_test (ev_op (ev_op ev_var ev_c (v_ixT (atI_nat (j := 0) rfl))) ev_c v_eqS)) (by decide)) (fun h => by cases h) fun _ => q_next ?_
      refine q_lstC (ds := [.str (hREN ++ s)]) (ev_cons (evd_eq (ev_op (ev_op (ev_op ev_var ev_c (v_ixT (atI_nat (j := 0) rfl))) ev_c (v_addS (s := cREN) (by decide))) (ev_op ev_var ev_c (v_ixT (atI_nat (j := 1) rfl))) (v_addS (by have : (cREN ++ tl { cps := #[58, 32] }).length = 8 := rfl; omega))) rfl) ev_nil) (by simp) fun fa hfa => ?_
      refine q_if (b := false) (evt_eq (ev_test (ev_op (ev_op ev_var ev_c (v_ixT (atI_nat (j := 0) rfl))) ev_c v_eqS)) (by decide)) (fun h => by cases h) fun _ => ?_
      refine s_if (b := true) (evt_eq (ev_test (ev_op (ev_op ev_var ev_c (v_ixT (atI_nat (j := 0) rfl))) ev_c v_eqS)) (by decide)) (fun _ => ?_) (fun h => by cases h)
      refine q_set (d := .tup [.str l, optD u, .bl kp]) (evd_eq (ev_sl ev_var (ev_part ev_c) ev_noPart v_slT) (by unfold cutL; rfl)) (eg_tup (eg_cons eg_name (eg_cons eg_name (eg_cons eg_name eg_nil)))) ?_
      refine q_append (l := []) (r := os) (d := .str (hLEAF ++ l)) ev_var (ev_op ev_c ev_var (v_addS (s := hLEAF) (by have : hLEAF.length = 6 := rfl; omega))) rfl (by simp) ?_
      have tail : ∀ (ls : List (List Nat)) (ρ : Rho) (Q : PoS), ls.length ≤ 20 → ρ.sl[1]? = some (some (.raw (.ref fa))) → ρ.sl[5]? = some (some (.bl kp)) → ρ.os = ⟨fa, .lst (strsD ls)⟩ :: os → Q.nx ⟨ρ.sl, ⟨fa, .lst (strsD (ls ++ keepL kp))⟩ :: os, ρ.lo⟩ → dIfS (dTest (dVar 5)) (dDrop (dAppend (dVar 1) (dC (.str lKEEP)))) dNext ρ Q := fun ls ρ Q hls h1 h5 ho q => by
        cases kp with
        | true =>
          refine s_if (b := true) (ev_test (ev_var (h := h5))) (fun _ => ?_) (fun h => by cases h)
          refine s_append (l := []) (r := os) (ds := strsD ls) (d := .str lKEEP) (ev_var (h := h1)) ev_c ho (by rw [strs_len]; omega) ?_
          have e : strsD ls ++ [D.str lKEEP] = strsD (ls ++ keepL true) := by simp [strsD, keepL]
          rw [e]
          exact q
        | false =>
          refine s_if (b := false) (ev_test (ev_var (h := h5))) (fun h => by cases h) (fun _ => s_next ?_)
          have e : ls ++ keepL false = ls := by simp [keepL]
          rw [e] at q
          have : ρ = ⟨ρ.sl, ⟨fa, .lst (strsD ls)⟩ :: os, ρ.lo⟩ := by rw [← ho]
          rw [this]
          exact q
      cases u with
      | none =>
        refine q_if (b := false) (ev_test (ev_op ev_var ev_c v_notN0)) (fun h => by cases h) fun _ => q_next ?_
        refine tail [hREN ++ s, hLEAF ++ l] _ _ (by simp) rfl rfl rfl ?_
        (try dsimp only)
        refine d_ret ?_
        refine (ev_var : EvD (dVar 1) _ (.raw (.ref fa))) _ ?_
        exact ⟨fa, [], _, os, rfl, rfl, .inl rfl, os, List.Sublist.refl _, k⟩
      | some u =>
        have hul := (hu2 u rfl).sz
        refine q_if (b := true) (ev_test (ev_op ev_var ev_c (v_notN (b := false) rfl))) (fun _ => ?_) (fun h => by cases h)
        refine s_append (l := []) (r := os) (ds := strsD [hREN ++ s, hLEAF ++ l]) (d := .str (hUND ++ u)) ev_var (ev_op ev_c ev_var (v_addS (s := hUND) (by have : hUND.length = 7 := rfl; omega))) rfl (by simp [strsD]) ?_
        (try dsimp only)
        refine tail [hREN ++ s, hLEAF ++ l, hUND ++ u] _ _ (by simp) rfl rfl rfl ?_
        (try dsimp only)
        refine d_ret ?_
        refine (ev_var : EvD (dVar 1) _ (.raw (.ref fa))) _ ?_
        exact ⟨fa, [], _, os, rfl, rfl, .inl rfl, os, List.Sublist.refl _, k⟩
theorem sc_script_text : FnScope ["deeds", "deed"] ["deeds"] (defScope (top 55)) := ⟨rfl, rfl, rfl, by decide +kernel, rfl, by decide +kernel, by decide +kernel⟩
theorem ok_script_text {f : Addr} {fd : FuncData} (F : Fun K "script_text" "script_text" (top 55) f fd) (T : Txt K mg aN aE aR) (k_deed_lines : Kn0 P w K mg base "deed_lines" 4 ["deed"] (R_deed_lines aN aE)) : FnOk P w K mg base CX0 5 f fd ["deeds"] (Pr K (NoX (R_script_text aN aE))) := by
  have sc := sc_script_text
  refine okD F sc (fun ds os PP ⟨_, e, _⟩ => by rw [e]; rfl) ?_
  apply Exists.intro
  apply And.intro
  · intro cdv A outer s H hr
    have hu := hr.units
    have hu0 : (A.deeper (envOfC "script_text" (defScope (top 55)) s.heap.objs.size f cdv)).units + 1 < cLine := by omega
    exact (pb_one (sx_ret (px_m1 PySem.F.slot_str_join PySem.F.type_str_join mt_join l_join (px_op op_add_str l_addS (px_gstrE T.g_NEWLINE) (px_gstrE T.g_NEWLINE)) (px_lc (own := [("deed", 1)]) (own1 1) rfl sc.nd (DL.ix_tup (px_var 0)) (blkOk_by (N := ["deeds", "deed"]) (sc := defScope (top 55)) (by decide +kernel)) (fun _ _ _ _ _ => pg_name (i := 1) sc.nd rfl (Or.inl rfl)) (fun _ _ _ _ _ => pxts_nil) (fun _ _ _ _ _ => (px_m1 PySem.F.slot_str_join PySem.F.type_str_join mt_join l_join (px_gstrE T.g_NEWLINE) (px_call0 k_deed_lines (hr.mono (by decide)) (pxa_cons (px_var 1) pxa_nil))))))))
  · rintro ds os PP ⟨dl, rfl, hg, k⟩ hx
    have h6 := hg.len
    have hs := sum_le (n := 34000) (dl.map fun d => joinL [10] (deedLines d)) fun t ht => by
      obtain ⟨d, hd, e⟩ := List.mem_map.mp ht
      rw [← e]; exact deed_text_len (hg.ok d hd)
    rw [List.length_map] at hs
    refine s_ret (d := .str (scrText dl)) (ev_m1 (ev_op ev_c ev_c (v_addS (by decide))) (evd_eq (ev_lc' (l := dl) (enc := deedD aN aE) (g := fun d => .str (joinL [10] (deedLines d))) (ei_tup ev_var) rfl (by omega) fun d hd => ⟨_, eg_name, rfl, rfl, ev_m1 ev_c (ev_fn d (ev_cons ev_var ev_nil) (hg.ok d hd)) (v_join (sep := [10]) ?_ (.inl (.inl rfl)))⟩) (b := .lst (strsD (dl.map fun d => joinL [10] (deedLines d)))) ?_) (v_join (sep := [10, 10]) (l := dl.map fun d => joinL [10] (deedLines d)) ?_ (.inl (.inl rfl)))) ⟨os, List.Sublist.refl _, k⟩
    · obtain ⟨h1, h2⟩ := deed_lines_ok (hg.ok d hd)
      have h3 := lines_sum h2
      show _ + _ * 1 ≤ _
      omega
    · unfold strsD; rw [List.map_map]; rfl
    · rw [List.length_map]
      show _ + _ * 2 ≤ _
      omega
end
end K86

set_option Elab.async false
set_option linter.all false
set_option maxRecDepth 100000
set_option maxHeartbeats 2000000
namespace K86
open PySem PySem.Spec PyProof PyProof.Rows L2 TL DL
local macro_rules | `(tactic| walk_at "ev") => `(tactic| repeat' (with_reducible first
  | apply ev_c | (apply ev_var; with_unfolding_all exact rfl) | exact v_isStr | apply ev_op | apply ev_test | apply ev_and | apply ev_or | apply ev_not | apply ev_andV | apply ev_orV | apply ev_notV
  | apply ev_ifS | apply ev_ifI | apply ev_chain | apply ev_nil | apply ev_cons | apply ev_tup | apply ev_lst | apply ev_cb | apply ev_m0 | apply ev_m1 | apply ev_m2 | apply ev_sl | apply ev_noPart | apply ev_part | apply ev_revT | apply ev_yes
  | apply v_I0 | apply v_I | apply v_addS | apply v_eqS | apply v_eqI | apply v_eqB | apply v_neS | apply v_neI | apply v_inS | apply v_notInS | apply v_isN0 | apply v_isNS | apply v_isNT | apply v_notN0 | apply v_notNS | apply v_notNT
  | apply v_lenS | apply v_lenL | apply v_lenT | apply v_all | apply v_any | apply v_int1 | apply v_intb | apply v_max2 | apply v_min2 | apply v_join | apply v_split | apply v_part | apply v_lower | apply v_starts | apply v_find | apply v_slS | apply v_slT
  | apply ei_list | apply ei_tup | apply ei_str | apply ei_range1 | apply ei_enumS | apply eg_name | apply eg_nil | apply eg_cons | apply eg_tup
  | (intro _)))

/-! ### reading scripts -/
structure NH where
  h : List Nat
  x : Rdg
structure NR where
  h : List Nat
  r : List Nat
  x : Rdg
abbrev R_begins_with (aR : Addr) : DF := FnC (fun y : NH => [.str y.h]) (fun y => rdObj aR y.x) (fun y => rdObj aR y.x) (fun y => y.x.at_ ≤ y.x.ls.length) fun y => .bl (!decide (y.x.at_ = y.x.ls.length) && pre y.h (y.x.ls.getD y.x.at_ []))
abbrev R_rest_behind (aR : Addr) : DF := FnC (fun y : NR => [.str y.h]) (fun y => rdObj aR y.x) (fun y => rdObj aR ⟨y.x.ls, y.x.at_ + 1⟩) (fun y => y.h.length ≤ 100 ∧ y.r.length ≤ 1000000 ∧ y.x.ls[y.x.at_]? = some (y.h ++ y.r)) fun y => .str y.r
/-- lines in the middle of a text -/
structure Mid where
  pre : List (List Nat)
  mid : List (List Nat)
  post : List (List Nat)
def Mid.ls (x : Mid) : List (List Nat) := x.pre ++ (x.mid ++ x.post)
def Mid.rd (x : Mid) : Rdg := ⟨x.ls, x.pre.length⟩
def Mid.rd' (x : Mid) : Rdg := ⟨x.ls, x.pre.length + x.mid.length⟩
def BlkEnd (post : List (List Nat)) : Prop := post = [] ∨ ∃ r, post = [] :: r
structure RCh where
  pre : List (List Nat)
  c : Chg
  post : List (List Nat)
def RCh.m (x : RCh) : Mid := ⟨x.pre, chgLines x.c, x.post⟩
structure OkRC (x : RCh) : Prop where
  c : GoodC x.c
  post : ∀ l r, x.post = l :: r → pre hVAL l = false
abbrev R_read_change (aR : Addr) : DF := FnC (fun _ : RCh => []) (fun x => rdObj aR x.m.rd) (fun x => rdObj aR x.m.rd') OkRC fun x => chgD x.c
structure RDd where
  pre : List (List Nat)
  d : Deed
  post : List (List Nat)
def RDd.m (x : RDd) : Mid := ⟨x.pre, deedLines x.d, x.post⟩
structure OkRD (x : RDd) : Prop where
  d : GoodD x.d
  post : BlkEnd x.post
abbrev R_read_modify (aN aE aR : Addr) : DF := FnC (fun _ : RDd => []) (fun x => rdObj aR x.m.rd) (fun x => rdObj aR x.m.rd') (fun x => OkRD x ∧ ∃ s cs, x.d = .mod s cs) fun x => deedD aN aE x.d
abbrev R_read_rename (aN aE aR : Addr) : DF := FnC (fun _ : RDd => []) (fun x => rdObj aR x.m.rd) (fun x => rdObj aR x.m.rd') (fun x => OkRD x ∧ ∃ s l u k, x.d = .ren s l u k) fun x => deedD aN aE x.d
abbrev R_read_deed (aN aE aR : Addr) : DF := FnC (fun _ : RDd => []) (fun x => rdObj aR x.m.rd) (fun x => rdObj aR x.m.rd') OkRD fun x => deedD aN aE x.d
abbrev R_read_script (aN aE : Addr) : DF := DL.Fn (fun ds : List Deed => [.str (scrText ds)]) GoodDs fun ds => .tup (ds.map (deedD aN aE))
/-- the lines of a script -/
def scrLines : List Deed → List (List Nat)
  | [] => []
  | [d] => deedLines d
  | d :: e :: r => deedLines d ++ ([] :: scrLines (e :: r))
theorem joinL_app {sep : List Nat} : ∀ {a b : List (List Nat)}, a ≠ [] → b ≠ [] → joinL sep (a ++ b) = joinL sep a ++ (sep ++ joinL sep b)
  | [], _, h, _ => absurd rfl h
  | [x], [], _, h => absurd rfl h
  | [x], y :: b, _, _ => by simp [joinL]
  | x :: y :: a, b, _, hb => by
    have ih := joinL_app (sep := sep) (a := y :: a) (b := b) (by simp) hb
    have e1 : joinL sep (x :: y :: (a ++ b)) = x ++ (sep ++ joinL sep (y :: (a ++ b))) := by simp [joinL]
    have e2 : joinL sep (x :: y :: a) = x ++ (sep ++ joinL sep (y :: a)) := by simp [joinL]
    show joinL sep (x :: y :: (a ++ b)) = _
    rw [e1, e2]
    have : joinL sep (y :: (a ++ b)) = joinL sep (y :: a) ++ (sep ++ joinL sep b) := ih
    rw [this]
    simp
theorem deedLines_ne (d : Deed) : deedLines d ≠ [] := by cases d <;> simp [deedLines]
theorem scrLines_ne {ds : List Deed} (h : ds ≠ []) : scrLines ds ≠ [] := by
  cases ds with
  | nil => exact absurd rfl h
  | cons d r => cases r with
    | nil => exact deedLines_ne d
    | cons e r => simp [scrLines]
theorem scr_join : ∀ {ds : List Deed}, ds ≠ [] → joinL [10] (scrLines ds) = scrText ds
  | [], h => absurd rfl h
  | [d], _ => by simp [scrLines, scrText, joinL]
  | d :: e :: r, _ => by
    have ih := scr_join (ds := e :: r) (by simp)
    have hne := scrLines_ne (ds := e :: r) (by simp)
    unfold scrLines
    rw [joinL_app (deedLines_ne d) (by simp)]
    obtain ⟨y, ys, hy⟩ := List.exists_cons_of_ne_nil hne
    have e1 : joinL [10] ([] :: scrLines (e :: r)) = [10] ++ joinL [10] (scrLines (e :: r)) := by rw [hy]; simp [joinL]
    rw [e1, ih]
    unfold scrText
    simp [joinL]
theorem scr_nl : ∀ {ds : List Deed}, (∀ d ∈ ds, GoodD d) → ∀ l ∈ scrLines ds, 10 ∉ l
  | [], _, l, hl => by cases hl
  | [d], h, l, hl => fun z => (((deed_lines_ok (h d (by simp))).2 l hl).ch 10 z).2 rfl
  | d :: e :: r, h, l, hl => by
    unfold scrLines at hl
    rcases List.mem_append.mp hl with hl | hl
    · exact fun z => (((deed_lines_ok (h d (by simp))).2 l hl).ch 10 z).2 rfl
    · rcases List.mem_cons.mp hl with hl | hl
      · rw [hl]; simp
      · exact scr_nl (ds := e :: r) (fun x hx => h x (by simp [hx])) l hl
theorem scr_len {ds : List Deed} (h : GoodDs ds) : (scrText ds).length ≤ 16000000 := by
  have hs := sum_le (n := 34000) (ds.map fun d => joinL [10] (deedLines d)) fun t ht => by
    obtain ⟨d, hd, e⟩ := List.mem_map.mp ht
    rw [← e]; exact deed_text_len (h.ok d hd)
  have h2 := joinL_len [10, 10] (ds.map fun d => joinL [10] (deedLines d))
  have h6 := h.len
  rw [List.length_map] at hs h2
  simp only [List.length_cons, List.length_nil] at h2
  unfold scrText
  omega
theorem scr_nil {ds : List Deed} (h : ds ≠ []) (hg : ∀ d ∈ ds, GoodD d) : scrText ds ≠ [] := by
  cases ds with
  | nil => exact absurd rfl h
  | cons d r =>
    rw [← scr_join h]
    have hne := deedLines_ne d
    obtain ⟨l, ls, hl⟩ := List.exists_cons_of_ne_nil hne
    have hl1 := ((deed_lines_ok (hg d (by simp))).2 l (by rw [hl]; simp)).ne
    have e1 : ∃ rest, scrLines (d :: r) = l :: rest := by
      cases r with
      | nil => exact ⟨ls, hl⟩
      | cons e r => exact ⟨ls ++ ([] :: scrLines (e :: r)), by show deedLines d ++ ([] :: scrLines (e :: r)) = _; rw [hl]; rfl⟩
    obtain ⟨rest, e1⟩ := e1
    rw [e1]
    cases rest with
    | nil => simpa [joinL] using hl1
    | cons y rest => simp [joinL, hl1]
theorem pre_self (a b : List Nat) : pre a (a ++ b) = true := pre_app a b
section
variable {ρ : Rho} {to : DX} {u : DA} {P : PoS} {C p : Addr} {m : Str} {ns : List Str} {ds xs : List D} {r : List Cell} {α : Type} {enc : α → List D} {st st' : α → D} {pr : α → Prop} {out : α → D}
theorem begins {ρ : Rho} {to te : DX} {p aR : Addr} {r : List Cell} {x : Rdg} {h : List Nat} {b : Bool} (ho : EvD to ρ (.raw (.ref p))) (hc : ρ.os = ⟨p, rdObj aR x⟩ :: r) (ht : EvD te ρ (.str h)) (hle : x.at_ ≤ x.ls.length) (e : (!decide (x.at_ = x.ls.length) && pre h (x.ls.getD x.at_ [])) = b) : EvD (dMethC0 aR "begins_with" (R_begins_with aR) to (dCons te dNil)) ρ (.bl b) := by
  have := ev_methC (C := aR) (m := "begins_with") (enc := fun y : NH => [.str y.h]) (st := fun y : NH => rdObj aR y.x) (pr := fun y : NH => y.x.at_ ≤ y.x.ls.length) (out := fun y : NH => D.bl (!decide (y.x.at_ = y.x.ls.length) && pre y.h (y.x.ls.getD y.x.at_ []))) (u := dCons te dNil) (⟨h, x⟩ : NH) ho hc rfl rfl (ev_cons ht ev_nil) rfl hle
  rw [← e]
  exact this
end
section
variable {P : Program} {w : World} {K : PySem.W.Frag} {mg : Str → Option Value} {base : Heap} {aN aE aR : Addr}
theorem sc_Reading_begins_with : FnScope ["self", "head"] ["self", "head"] (defScope (inClass (top 56) 6)) := ⟨rfl, rfl, rfl, by decide +kernel, rfl, by decide +kernel, by decide +kernel⟩
theorem ok_Reading_begins_with {f : Addr} {fd : FuncData} (F : Fun K "begins_with" "Reading.begins_with" (inClass (top 56) 6) f fd) (T : Txt K mg aN aE aR) (m_Reading_is_at_end : KnM P w K mg base CX0 aR "is_at_end" 1 ["self"] (NoX (R_is_at_end aR))) : FnOk P w K mg base CX0 2 f fd ["self", "head"] (Pr K (NoX (R_begins_with aR))) := by
  have sc := sc_Reading_begins_with
  refine okD F sc (fun ds os PP ⟨_, _, e, _⟩ => by rw [e]; rfl) ?_
  apply Exists.intro
  apply And.intro
  · intro cdv A outer s H hr
    have hu := hr.units
    have hu0 : (A.deeper (envOfC "Reading.begins_with" (defScope (inClass (top 56) 6)) s.heap.objs.size f cdv)).units + 1 < cLine := by omega
    exact (pb_one (sx_ret (px_and (px_not (px_meth0C_0 m_Reading_is_at_end (hr.mono (by decide)) (px_var 0))) (px_one (px_m1 PySem.F.slot_str_startswith PySem.F.type_str_startswith mt_startswith l_starts (px_ix L2.ix_list l_ixL (px_fld T.c_Reading T.na_Reading_own_lines (px_var 0)) (px_fld T.c_Reading T.na_Reading_own_at (px_var 0))) (px_var 1))))))
  · rintro ds os PP ⟨y, p, rfl, rfl, hle, k⟩ hx
    refine s_ret (d := .bl (!decide (y.x.at_ = y.x.ls.length) && pre y.h (y.x.ls.getD y.x.at_ []))) ?_ ⟨_, List.Sublist.refl _, k⟩
    refine ev_andV (ev_notV (ev_methC y.x ev_var rfl rfl rfl ev_nil rfl trivial)) fun h => ?_
    have hlt : y.x.at_ < y.x.ls.length := by
      have : ¬ y.x.at_ = y.x.ls.length := by simpa using h
      omega
    have hg : (strsD y.x.ls)[y.x.at_]? = some (.str (y.x.ls.getD y.x.at_ [])) := by
      unfold strsD
      rw [List.getElem?_map, List.getElem?_eq_getElem hlt, List.getD_eq_getElem?_getD, List.getElem?_eq_getElem hlt]
      rfl
    exact ev_m1 (ev_op (ev_fld (k := 0) ev_var (sees_cell (l := []) rfl) rfl rfl) (ev_fld (k := 1) ev_var (sees_cell (l := []) rfl) rfl rfl) (v_ixL (.inl rfl) (atI_nat hg))) ev_var v_starts
theorem sc_Reading_rest_behind : FnScope ["self", "head", "line"] ["self", "head"] (defScope (inClass (top 56) 7)) := ⟨rfl, rfl, rfl, by decide +kernel, rfl, by decide +kernel, by decide +kernel⟩
theorem ok_Reading_rest_behind {f : Addr} {fd : FuncData} (F : Fun K "rest_behind" "Reading.rest_behind" (inClass (top 56) 7) f fd) (T : Txt K mg aN aE aR) (m_Reading_next_line : KnM P w K mg base CX0 aR "next_line" 2 ["self"] (NoX (R_next_line aR))) (m_Reading_go_on : KnM P w K mg base CX0 aR "go_on" 1 ["self"] (NoX (R_go_on aR))) : FnOk P w K mg base CX0 3 f fd ["self", "head"] (Pr K (NoX (R_rest_behind aR))) := by
  have sc := sc_Reading_rest_behind
  refine okD F sc (fun ds os PP ⟨_, _, e, _⟩ => by rw [e]; rfl) ?_
  apply Exists.intro
  apply And.intro
  · intro cdv A outer s H hr
    have hu := hr.units
    have hu0 : (A.deeper (envOfC "Reading.rest_behind" (defScope (inClass (top 56) 7)) s.heap.objs.size f cdv)).units + 1 < cLine := by omega
    exact (pb_cons (sx_set 2 sc.nd (px_meth0C_0 m_Reading_next_line (hr.mono (by decide)) (px_var 0)))
      (pb_cons (sx_if (DL.pt_no (pt_v (px_m1 PySem.F.slot_str_startswith PySem.F.type_str_startswith mt_startswith l_starts (px_var 2) (px_var 1)))) (pb_one sx_never) pb_nil)
      (pb_cons (sx_expr (px_meth0C_0 m_Reading_go_on (hr.mono (by decide)) (px_var 0)))
      (pb_one (sx_ret (px_sl sl_str l_slS (px_var 2) (pxo_some (px_cb call_len l_len T.n_len PySem.boot_len (pxa_cons (px_var 1) pxa_nil))) pxo_none))))))
  · rintro ds os PP ⟨y, p, rfl, rfl, ⟨h6, hr, hl⟩, k⟩ hx
    have hlt : y.x.at_ < y.x.ls.length := (List.getElem?_eq_some_iff.mp hl).1
    have hgd : y.x.ls.getD y.x.at_ [] = y.h ++ y.r := by rw [List.getD_eq_getElem?_getD, hl]; rfl
    have hll : (y.h ++ y.r).length ≤ 16777216 := by rw [List.length_append]; omega
    have hcut : cutL (y.h ++ y.r) (some ((y.h.length : Nat) : Int)) none = y.r := by
      unfold cutL
      rw [HT.sIx_nat, HT.sIx_none, Nat.min_eq_left (by rw [List.length_append]; omega), List.drop_left, List.take_of_length_le (by rw [List.length_append]; omega)]
    refine q_set (d := .str (y.h ++ y.r)) (evd_eq (ev_methC y.x ev_var rfl rfl rfl ev_nil rfl hlt) (by rw [hgd])) eg_name ?_
    refine q_if (b := false) (evt_eq (ev_not (ev_test (ev_m1 ev_var ev_var v_starts))) (by rw [pre_app]; rfl)) (fun h => by cases h) fun _ => ?_
    refine q_next ?_
    refine q_methC (st := rdObj aR) (st' := fun x => rdObj aR ⟨x.ls, x.at_ + 1⟩) y.x ev_var rfl rfl rfl ev_nil rfl trivial ?_
    exact s_ret (d := .str y.r) (evd_eq (ev_sl ev_var (ev_part (ev_cb (ev_cons ev_var ev_nil) (v_lenS (by omega)))) ev_noPart (v_slS hll)) (by rw [hcut])) ⟨_, List.Sublist.refl _, k⟩
theorem sc_read_change : FnScope ["reading", "words", "values"] ["reading"] (defScope (top 59)) := ⟨rfl, rfl, rfl, by decide +kernel, rfl, by decide +kernel, by decide +kernel⟩
theorem ok_read_change {f : Addr} {fd : FuncData} (F : Fun K "read_change" "read_change" (top 59) f fd) (T : Txt K mg aN aE aR) (m_Reading_next_line : KnM P w K mg base CX0 aR "next_line" 2 ["self"] (NoX (R_next_line aR))) (m_Reading_go_on : KnM P w K mg base CX0 aR "go_on" 1 ["self"] (NoX (R_go_on aR))) (m_Reading_begins_with : KnM P w K mg base CX0 aR "begins_with" 2 ["self", "head"] (NoX (R_begins_with aR))) (m_Reading_rest_behind : KnM P w K mg base CX0 aR "rest_behind" 3 ["self", "head"] (NoX (R_rest_behind aR))) (k_is_word : Kn0 P w K mg base "is_word" 1 ["value"] R_is_word) (k_is_valid : Kn0 P w K mg base "is_valid" 2 ["syntax", "value"] R_is_valid) : FnOk P w K mg base CX0 4 f fd ["reading"] (Pr K (NoX (R_read_change aR))) := by
  have sc := sc_read_change
  refine okD F sc (fun ds os PP ⟨_, _, e, _⟩ => by rw [e]; rfl) ?_
  apply Exists.intro
  apply And.intro
  · intro cdv A outer s H hr
    have hu := hr.units
    have hu0 : (A.deeper (envOfC "read_change" (defScope (top 59)) s.heap.objs.size f cdv)).units + 1 < cLine := by omega
    exact (pb_cons (sx_set 1 sc.nd (px_m1 PySem.F.slot_str_split PySem.F.type_str_split mt_split l_split (px_meth0C_0 m_Reading_next_line (hr.mono (by decide)) (px_var 0)) (px_str [32])))
      (pb_cons (sx_if (PXW.pt (ptw_and (DL.pt_cmp op_eq l_eq (px_cb call_len l_len T.n_len PySem.boot_len (pxa_cons (px_var 1) pxa_nil)) px_int) (ptw_and (DL.pt_cmp op_eq l_eq (px_ix L2.ix_list l_ixL (px_var 1) px_int) (px_gstrE T.g_INCREMENT)) (ptw_and (pt_v (px_call0 k_is_word (hr.mono (by decide)) (pxa_cons (px_ix L2.ix_list l_ixL (px_var 1) px_int) pxa_nil))) (ptw_and1 (pt_v (px_call0 k_is_valid (hr.mono (by decide)) (pxa_cons (px_str [105, 110, 116, 101, 103, 101, 114]) (pxa_cons (px_ix L2.ix_list l_ixL (px_var 1) px_int) pxa_nil))))))))) (pb_cons (sx_expr (px_meth0C_0 m_Reading_go_on (hr.mono (by decide)) (px_var 0)))
      (pb_one (sx_ret (px_tup (pxa_cons (px_gstrE T.g_INCREMENT) (pxa_cons (px_ix L2.ix_list l_ixL (px_var 1) px_int) (pxa_cons (px_ct call_int_str l_intS T.n_int (by decide +kernel) (pxa_cons (px_ix L2.ix_list l_ixL (px_var 1) px_int) pxa_nil)) pxa_nil))))))) pb_nil)
      (pb_cons (sx_if (PXW.pt (ptw_or (DL.pt_cmp op_ne l_ne (px_cb call_len l_len T.n_len PySem.boot_len (pxa_cons (px_var 1) pxa_nil)) px_int) (ptw_or (DL.pt_cmp op_notIn_seq (l_inL (neg := true)) (px_ix L2.ix_list l_ixL (px_var 1) px_int) (px_gtupE (l := [[97, 100, 100], [100, 101, 108, 101, 116, 101], [114, 101, 112, 108, 97, 99, 101]]) T.g_CHANGES)) (ptw_or1 (DL.pt_no (pt_v (px_call0 k_is_word (hr.mono (by decide)) (pxa_cons (px_ix L2.ix_list l_ixL (px_var 1) px_int) pxa_nil)))))))) (pb_one sx_never) pb_nil)
      (pb_cons (sx_expr (px_meth0C_0 m_Reading_go_on (hr.mono (by decide)) (px_var 0)))
      (pb_cons (sx_set 2 sc.nd (px_lstC pxa_nil))
      (pb_cons (sx_perm (sx_while PassesOwn.never (pt_v (px_methC_0 m_Reading_begins_with (hr.mono (by decide)) (px_var 0) (pxa_cons (px_gstrE T.g_VALUE) pxa_nil))) (pb_cons (sx_if (DL.pt_cmp op_eq l_eq (px_meth0C_0 m_Reading_next_line (hr.mono (by decide)) (px_var 0)) (px_gstrE T.g_VALUE)) (pb_one sx_never) pb_nil)
      (pb_one (sx_expr (px_append (px_var 2) (px_methC_0 m_Reading_rest_behind (hr.mono (by decide)) (px_var 0) (pxa_cons (px_gstrE T.g_VALUE) pxa_nil))))))))
      (pb_one (sx_ret (px_tup (pxa_cons (px_ix L2.ix_list l_ixL (px_var 1) px_int) (pxa_cons (px_ix L2.ix_list l_ixL (px_var 1) px_int) (pxa_cons (px_ct call_tuple_of l_tupOf T.n_tuple (by decide +kernel) (pxa_cons (px_var 2) pxa_nil)) pxa_nil))))))))))))
  · rintro ds os PP ⟨x, p, rfl, rfl, hg, k⟩ hx
    obtain ⟨hcl, hok⟩ := chg_lines hg.c
    obtain ⟨xp, c, xo⟩ := x
    cases c with
    | inc w i =>
      obtain ⟨hw, hi⟩ := hg.c
      have hwl := word_len hw
      have hil := hi.len
      have hls : (RCh.m ⟨xp, .inc w i, xo⟩).ls = xp ++ (cINC ++ (32 :: (w ++ (32 :: itx i)))) :: xo := rfl
      have hlt : xp.length < (RCh.m ⟨xp, .inc w i, xo⟩).ls.length := by rw [hls]; simp
      have hgd : (RCh.m ⟨xp, .inc w i, xo⟩).ls.getD xp.length [] = cINC ++ (32 :: (w ++ (32 :: itx i))) := by rw [List.getD_eq_getElem?_getD, hls, get_midG rfl]; rfl
      have h9 : cINC.length = 9 := rfl
      have hsp : spl [32] 0 [] (cINC ++ (32 :: (w ++ (32 :: itx i)))) = [cINC, w, itx i] := by
        have e : cINC ++ (32 :: (w ++ (32 :: itx i))) = joinL [32] [cINC, w, itx i] := by simp [joinL]
        rw [e]
        refine TL.spl_join (by simp) fun q hq => ?_
        simp only [List.mem_cons, List.not_mem_nil, or_false] at hq
        rcases hq with hq | hq | hq
        · rw [hq]; decide
        · rw [hq]; exact fun z => (word_sign hw 32 z).2.2.1 rfl
        · rw [hq]; exact fun z => (hi.ch 32 z).2.2 rfl
      refine q_set (d := .lst (strsD [cINC, w, itx i])) (evd_eq (ev_m1 (evd_eq (ev_methC (⟨(RCh.m ⟨xp, .inc w i, xo⟩).ls, xp.length⟩ : Rdg) ev_var rfl rfl rfl ev_nil rfl hlt) (congrArg D.str hgd)) ev_c (v_split (by decide) (by decide) (by simp only [List.length_append, List.length_cons]; omega))) (by show D.lst (strsD (spl [32] 0 [] _)) = _; rw [hsp])) eg_name ?_
      refine q_if (b := true) (evt_eq (ev_and (ev_test (ev_op (ev_cb (ev_cons ev_var ev_nil) v_lenL) ev_c v_eqI)) fun _ => ev_and (ev_test (ev_op (ev_op ev_var ev_c (v_ixL (.inl rfl) (atI_nat (j := 0) rfl))) ev_c v_eqS)) fun _ => ev_and (ev_test (ev_fn w (ev_cons (ev_op ev_var ev_c (v_ixL (.inl rfl) (atI_nat (j := 1) rfl))) ev_nil) (by omega))) fun _ => ev_test (ev_fn (itx i) (ev_cons ev_c (ev_cons (ev_op ev_var ev_c (v_ixL (.inl rfl) (atI_nat (j := 2) rfl))) ev_nil)) (by omega))) ?_) (fun _ => ?_) (fun h => by cases h)
      · rw [hw, hi.vl, hi.ok]; rfl
      refine q_methC (st := rdObj aR) (st' := fun x => rdObj aR ⟨x.ls, x.at_ + 1⟩) (⟨(RCh.m ⟨xp, .inc w i, xo⟩).ls, xp.length⟩ : Rdg) ev_var rfl rfl rfl ev_nil rfl trivial ?_
      refine s_ret (d := chgD (.inc w i)) (ev_tup (ev_cons ev_c (ev_cons (ev_op ev_var ev_c (v_ixL (.inl rfl) (atI_nat (j := 1) rfl))) (ev_cons (ev_cb (ev_cons (ev_op ev_var ev_c (v_ixL (.inl rfl) (atI_nat (j := 2) rfl))) ev_nil) (v_intS hi.bk (by omega))) ev_nil))) (by simp)) ⟨_, List.Sublist.refl _, k⟩
    | vals a w vs =>
      obtain ⟨ha, hw, hvs, hv⟩ := hg.c
      have hwl := word_len hw
      have hal : a.length ≤ 7 ∧ a ≠ cINC ∧ 32 ∉ a := by
        have : ∀ a ∈ [cADD, cDEL, cREP], a.length ≤ 7 ∧ a ≠ cINC ∧ 32 ∉ a := by decide
        exact this a ha
      have hls : (RCh.m ⟨xp, .vals a w vs, xo⟩).ls = xp ++ (a ++ (32 :: w)) :: (vs.map (hVAL ++ ·) ++ xo) := rfl
      generalize hLS : (RCh.m ⟨xp, .vals a w vs, xo⟩).ls = LS at hls
      have hlt : xp.length < LS.length := by rw [hls]; simp
      have hgd : LS.getD xp.length [] = a ++ (32 :: w) := by rw [List.getD_eq_getElem?_getD, hls, get_midG rfl]; rfl
      have hsp : spl [32] 0 [] (a ++ (32 :: w)) = [a, w] := by
        have e : a ++ (32 :: w) = joinL [32] [a, w] := by simp [joinL]
        rw [e]
        refine TL.spl_join (by simp) fun q hq => ?_
        simp only [List.mem_cons, List.not_mem_nil, or_false] at hq
        rcases hq with hq | hq
        · rw [hq]; exact hal.2.2
        · rw [hq]; exact fun z => (word_sign hw 32 z).2.2.1 rfl
      have hst : rdObj aR (RCh.m ⟨xp, .vals a w vs, xo⟩).rd = rdObj aR ⟨LS, xp.length⟩ := by rw [← hLS]; rfl
      have hst' : rdObj aR (RCh.m ⟨xp, .vals a w vs, xo⟩).rd' = rdObj aR ⟨LS, xp.length + 1 + vs.length⟩ := by
        rw [← hLS]
        show rdObj aR ⟨_, xp.length + (chgLines (.vals a w vs)).length⟩ = _
        have : (chgLines (.vals a w vs)).length = 1 + vs.length := by unfold chgLines; rw [List.length_cons, List.length_map]; omega
        rw [this]
        congr 2
        omega
      dsimp only at k
      rw [hst'] at k
      show dSeq _ _ (start0 3 _ [⟨p, rdObj aR (RCh.m ⟨xp, .vals a w vs, xo⟩).rd⟩]) _
      rw [hst]
      refine q_set (d := .lst (strsD [a, w])) (evd_eq (ev_m1 (evd_eq (ev_methC (⟨LS, xp.length⟩ : Rdg) ev_var rfl rfl rfl ev_nil rfl hlt) (congrArg D.str hgd)) ev_c (v_split (by decide) (by decide) (by simp only [List.length_append, List.length_cons]; omega))) (by show D.lst (strsD (spl [32] 0 [] _)) = _; rw [hsp])) eg_name ?_
      refine q_if (b := false) (evt_eq (ev_and (b1 := false) (b2 := false) (ev_test (ev_op (ev_cb (ev_cons ev_var ev_nil) v_lenL) ev_c v_eqI)) fun h => by cases h) rfl) (fun h => by cases h) fun _ => q_next ?_
      refine q_if (b := false) (evt_eq (ev_or (ev_test (ev_op (ev_cb (ev_cons ev_var ev_nil) v_lenL) ev_c v_neI)) fun _ => ev_or (ev_test (ev_op (ev_op ev_var ev_c (v_ixL (.inl rfl) (atI_nat (j := 0) rfl))) ev_c (v_inL (neg := true) (.inr rfl)))) fun _ => ev_not (ev_test (ev_fn w (ev_cons (ev_op ev_var ev_c (v_ixL (.inl rfl) (atI_nat (j := 1) rfl))) ev_nil) (by omega)))) ?_) (fun h => by cases h) fun _ => q_next ?_
      · have : a ∈ ([[97, 100, 100], [100, 101, 108, 101, 116, 101], [114, 101, 112, 108, 97, 99, 101]] : List (List Nat)) := ha
        rw [hw, decide_eq_true this]
        rfl
      refine q_methC (st := rdObj aR) (st' := fun x => rdObj aR ⟨x.ls, x.at_ + 1⟩) (⟨LS, xp.length⟩ : Rdg) ev_var rfl rfl rfl ev_nil rfl trivial ?_
      refine q_lstC ev_nil (by simp) fun fa hfa => ?_
      apply q_seq
      refine ⟨[⟨p, rdObj aR ⟨LS, xp.length + 1⟩⟩, ⟨fa, .lst []⟩], List.Perm.swap _ _ _, ?_⟩
      refine s_while (fun m ρ => ∃ (v1 v2 : List (List Nat)), vs = v1 ++ v2 ∧ m = v2.length ∧ ρ = ⟨[some (.raw (.ref p)), some (.lst (strsD [a, w])), some (.raw (.ref fa))], [⟨p, rdObj aR ⟨LS, xp.length + 1 + v1.length⟩⟩, ⟨fa, .lst (strsD v1)⟩], fun a => a = fa ∨ False⟩) vs.length ⟨[], vs, rfl, rfl, rfl⟩ ?_
      rintro m ρ ⟨v1, v2, hv12, rfl, rfl⟩
      have hls2 : LS = (xp ++ ((a ++ (32 :: w)) :: v1.map (hVAL ++ ·))) ++ (v2.map (hVAL ++ ·) ++ xo) := by rw [hls, hv12]; simp
      have hpl : (xp ++ ((a ++ (32 :: w)) :: v1.map (hVAL ++ ·))).length = xp.length + 1 + v1.length := by simp; omega
      have hle : xp.length + 1 + v1.length ≤ LS.length := by rw [hls2, List.length_append, hpl]; omega
      cases v2 with
      | cons v v2 =>
        have hvv := hv v (by rw [hv12]; simp)
        have hvsz := hvv.sz
        have hline : LS[xp.length + 1 + v1.length]? = some (hVAL ++ v) := by
          rw [hls2, List.map_cons, List.cons_append]
          exact get_midG hpl.symm
        have hlt2 : xp.length + 1 + v1.length < LS.length := (List.getElem?_eq_some_iff.mp hline).1
        have hgd2 : LS.getD (xp.length + 1 + v1.length) [] = hVAL ++ v := by rw [List.getD_eq_getElem?_getD, hline]; rfl
        refine ⟨true, ev_test (begins (aR := aR) (x := ⟨LS, xp.length + 1 + v1.length⟩) (h := hVAL) ev_var rfl ev_c hle ?_), fun _ => ?_, fun h => by cases h⟩
        · dsimp only
          rw [hgd2, pre_app, decide_eq_false (by omega)]; rfl
        · refine q_if (b := false) (evt_eq (ev_test (ev_op (evd_eq (ev_methC (⟨LS, xp.length + 1 + v1.length⟩ : Rdg) ev_var rfl rfl rfl ev_nil rfl hlt2) (congrArg D.str hgd2)) ev_c v_eqS)) ?_) (fun h => by cases h) fun _ => q_next ?_
          · refine decide_eq_false fun z => ?_
            have : hVAL ++ v = hVAL := z
            have := congrArg List.length this
            rw [List.length_append] at this
            exact hvv.ne (List.eq_nil_of_length_eq_zero (by omega))
          · refine d_drop ?_
            refine (ev_var : EvD (dVar 2) _ (.raw (.ref fa))) _ ⟨⟨fa, _, rfl, sees_cell (l := [⟨p, rdObj aR ⟨LS, xp.length + 1 + v1.length⟩⟩]) rfl⟩, ?_⟩
            refine methC_up (st := fun y : NR => rdObj aR y.x) (st' := fun y : NR => rdObj aR ⟨y.x.ls, y.x.at_ + 1⟩) (⟨hVAL, v, ⟨LS, xp.length + 1 + v1.length⟩⟩ : NR) ev_var rfl rfl rfl (ev_cons ev_c ev_nil) rfl ⟨by show hVAL.length ≤ 100; decide, by show v.length ≤ 1000000; omega, hline⟩ ?_
            refine ⟨fa, [⟨p, rdObj aR ⟨LS, xp.length + 1 + v1.length + 1⟩⟩], [], strsD v1, rfl, rfl, ?_, v2.length, by rw [List.length_cons]; omega, v1 ++ [v], v2, by rw [hv12]; simp, rfl, ?_⟩
            · rw [strs_len]
              have := congrArg List.length hv12
              rw [List.length_append] at this
              omega
            · have e1 : strsD v1 ++ [D.str v] = strsD (v1 ++ [v]) := by simp [strsD]
              have e2 : xp.length + 1 + (v1 ++ [v]).length = xp.length + 1 + v1.length + 1 := by simp; omega
              rw [e1, e2]
              rfl
      | nil =>
        refine ⟨false, ev_test (begins (aR := aR) (x := ⟨LS, xp.length + 1 + v1.length⟩) (h := hVAL) ev_var rfl ev_c hle ?_), fun h => (by cases h), fun _ => ?_⟩
        · dsimp only
          cases hxo : xo with
          | nil =>
            have : xp.length + 1 + v1.length = LS.length := by rw [hls2, List.length_append, hpl, hxo]; simp
            rw [decide_eq_true this]; rfl
          | cons l r =>
            have hline : LS[xp.length + 1 + v1.length]? = some l := by
              rw [hls2, hxo, List.map_nil, List.nil_append]
              exact get_midG hpl.symm
            have hgd2 : LS.getD (xp.length + 1 + v1.length) [] = l := by rw [List.getD_eq_getElem?_getD, hline]; rfl
            rw [hgd2, hg.post l r hxo]
            simp
        · have hv1 : v1 = vs := by rw [hv12]; simp
          subst hv1
          (try dsimp only)
          refine s_ret (d := chgD (.vals a w v1)) (ev_tup (ev_cons (ev_op ev_var ev_c (v_ixL (.inl rfl) (atI_nat (j := 0) rfl))) (ev_cons (ev_op ev_var ev_c (v_ixL (.inl rfl) (atI_nat (j := 1) rfl))) (ev_cons (ev_cb (ev_cons ev_var ev_nil) (v_tupOf (.inl (sees_cell (l := [⟨p, rdObj aR ⟨LS, xp.length + 1 + v1.length⟩⟩]) rfl)))) ev_nil))) (by simp)) ⟨[⟨p, rdObj aR ⟨LS, xp.length + 1 + v1.length⟩⟩], by simp, k⟩
end
end K86

set_option Elab.async false
set_option linter.all false
set_option maxRecDepth 100000
set_option maxHeartbeats 2000000
namespace K86
open PySem PySem.Spec PyProof PyProof.Rows L2 TL DL
local macro_rules | `(tactic| walk_at "ev") => `(tactic| repeat' (with_reducible first
  | apply ev_c | (apply ev_var; with_unfolding_all exact rfl) | exact v_isStr | apply ev_op | apply ev_test | apply ev_and | apply ev_or | apply ev_not | apply ev_andV | apply ev_orV | apply ev_notV
  | apply ev_ifS | apply ev_ifI | apply ev_chain | apply ev_nil | apply ev_cons | apply ev_tup | apply ev_lst | apply ev_cb | apply ev_m0 | apply ev_m1 | apply ev_m2 | apply ev_sl | apply ev_noPart | apply ev_part | apply ev_revT | apply ev_yes
  | apply v_I0 | apply v_I | apply v_addS | apply v_eqS | apply v_eqI | apply v_eqB | apply v_neS | apply v_neI | apply v_inS | apply v_notInS | apply v_isN0 | apply v_isNS | apply v_isNT | apply v_notN0 | apply v_notNS | apply v_notNT
  | apply v_lenS | apply v_lenL | apply v_lenT | apply v_all | apply v_any | apply v_int1 | apply v_intb | apply v_max2 | apply v_min2 | apply v_join | apply v_split | apply v_part | apply v_lower | apply v_starts | apply v_find | apply v_slS | apply v_slT
  | apply ei_list | apply ei_tup | apply ei_str | apply ei_range1 | apply ei_enumS | apply eg_name | apply eg_nil | apply eg_cons | apply eg_tup
  | (intro _)))

/-! ### modify, rename, deeds, scripts -/
theorem beg_val (A B : List (List Nat)) (h : List Nat) : (!decide (A.length = (A ++ B).length) && pre h ((A ++ B).getD A.length [])) = (match B with | [] => false | l :: _ => pre h l) := by
  cases B with
  | nil => simp
  | cons l r =>
    have h1 : (A ++ l :: r).getD A.length [] = l := by rw [List.getD_eq_getElem?_getD, get_midG rfl]; rfl
    rw [h1, decide_eq_false (by simp)]
    rfl
theorem preVAL {l : List Nat} (h : l.head? ≠ some 61) : pre hVAL l = false := by
  cases l with
  | nil => rfl
  | cons c l =>
    have hc : c ≠ 61 := fun z => h (by rw [z]; rfl)
    unfold pre hVAL
    simp [hc]
theorem chg_head {c : Chg} (hg : GoodC c) : ∃ l r, chgLines c = l :: r ∧ pre hVAL l = false := by
  cases c with
  | vals a w vs =>
    refine ⟨_, _, rfl, preVAL ?_⟩
    have : ∀ a ∈ [cADD, cDEL, cREP], ∀ y, (a ++ y : List Nat).head? ≠ some 61 := by
      intro a ha y
      simp only [List.mem_cons, List.not_mem_nil, or_false] at ha
      rcases ha with e | e | e <;> (rw [e]; simp [cADD, cDEL, cREP])
    exact this a hg.1 _
  | inc w i => exact ⟨_, _, rfl, preVAL (by simp [cINC])⟩
theorem callC_upE {ρ : Rho} {u : DA} {p : Addr} {xs : List D} {r : List Cell} {α : Type} {enc : α → List D} {st st' : α → D} {pr : α → Prop} {out : α → D} {Q : Po D} {d d' : D} (x : α) (hu : EvA u ρ (.raw (.ref p) :: xs)) (hc : ρ.os = ⟨p, d⟩ :: r) (hd : d = st x) (hd' : st' x = d') (e : xs = enc x) (h : pr x) (q : Q.ok (out x) ⟨ρ.sl, ⟨p, d'⟩ :: r, ρ.lo⟩) : dCallC0 (FnC enc st st' pr out) u ρ Q := by
  subst hd hd'
  exact callC_up x hu hc e h q
theorem d_tupC {ρ : Rho} {u : DA} {Q : Po D} (h : u ρ ⟨fun ds ρ1 => ds.length ≤ 16777216 ∧ Q.ok (.tup ds) ρ1, Q.ex⟩) : dTup u ρ Q := h
theorem d_append {ρ : Rho} {to te : DX} {Q : Po D} {a : Addr} {ds : List D} (ho : EvD to ρ (.raw (.ref a))) (hs : Sees ρ (.raw (.ref a)) (.lst ds)) (h : te ρ ⟨fun d ρ2 => ∃ a' l r ds, D.raw (.ref a) = .raw (.ref a') ∧ ρ2.os = l ++ ⟨a', .lst ds⟩ :: r ∧ ds.length < 16777216 ∧ Q.ok .non (ρ2.os' (l ++ ⟨a', .lst (ds ++ [d])⟩ :: r)), Q.ex⟩) : dAppend to te ρ Q :=
  ho _ ⟨⟨a, ds, rfl, hs⟩, h⟩
def pfx (d1 : List Deed) : List (List Nat) := if d1 = [] then [] else scrLines d1 ++ [[]]
def sfx (d2 : List Deed) : List (List Nat) := if d2 = [] then [] else [] :: scrLines d2
theorem scr_split : ∀ (d1 : List Deed) (d : Deed) (d2 : List Deed), scrLines (d1 ++ d :: d2) = pfx d1 ++ (deedLines d ++ sfx d2)
  | [], d, [] => by simp [scrLines, pfx, sfx]
  | [], d, e :: r => by simp [scrLines, pfx, sfx]
  | [a], d, d2 => by
    have ih := scr_split [] d d2
    rw [List.nil_append] at ih
    show deedLines a ++ ([] :: scrLines (d :: d2)) = _
    rw [ih]
    simp [pfx, scrLines]
  | a :: b :: d1, d, d2 => by
    have ih := scr_split (b :: d1) d d2
    show deedLines a ++ ([] :: scrLines (b :: (d1 ++ d :: d2))) = _
    have e : scrLines (b :: (d1 ++ d :: d2)) = pfx (b :: d1) ++ (deedLines d ++ sfx d2) := ih
    rw [e]
    simp [pfx, scrLines]
theorem scr_snoc {d1 : List Deed} {d : Deed} : (scrLines (d1 ++ [d])) = pfx d1 ++ deedLines d := by
  rw [scr_split]; simp [sfx]
theorem sfx_end (d2 : List Deed) : BlkEnd (sfx d2) := by
  unfold sfx
  by_cases h : d2 = []
  · rw [if_pos h]; exact .inl rfl
  · rw [if_neg h]; exact .inr ⟨_, rfl⟩
section
variable {P : Program} {w : World} {K : PySem.W.Frag} {mg : Str → Option Value} {base : Heap} {aN aE aR : Addr}
theorem sc_read_modify : FnScope ["reading", "name", "changes"] ["reading"] (defScope (top 60)) := ⟨rfl, rfl, rfl, by decide +kernel, rfl, by decide +kernel, by decide +kernel⟩
theorem ok_read_modify {f : Addr} {fd : FuncData} (F : Fun K "read_modify" "read_modify" (top 60) f fd) (T : Txt K mg aN aE aR) (m_Reading_ends_block : KnM P w K mg base CX0 aR "ends_block" 2 ["self"] (NoX (R_ends_block aR))) (m_Reading_rest_behind : KnM P w K mg base CX0 aR "rest_behind" 3 ["self", "head"] (NoX (R_rest_behind aR))) (k_read_change : Kn0 P w K mg base "read_change" 4 ["reading"] (R_read_change aR)) : FnOk P w K mg base CX0 5 f fd ["reading"] (Pr K (NoX (R_read_modify aN aE aR))) := by
  have sc := sc_read_modify
  refine okD F sc (fun ds os PP ⟨_, _, e, _⟩ => by rw [e]; rfl) ?_
  apply Exists.intro
  apply And.intro
  · intro cdv A outer s H hr
    have hu := hr.units
    have hu0 : (A.deeper (envOfC "read_modify" (defScope (top 60)) s.heap.objs.size f cdv)).units + 1 < cLine := by omega
    exact (pb_cons (sx_par 1 2 rfl sc.nd (pxa_cons (px_methC_0 m_Reading_rest_behind (hr.mono (by decide)) (px_var 0) (pxa_cons (px_gstrE T.g_MODIFY) pxa_nil)) (pxa_cons (px_lstC pxa_nil) pxa_nil)) rfl (by decide))
      (pb_cons (sx_perm (sx_while PassesOwn.never (DL.pt_no (pt_v (px_meth0C_0 m_Reading_ends_block (hr.mono (by decide)) (px_var 0)))) (pb_one (sx_expr (px_append (px_var 2) (px_callC0 k_read_change (hr.mono (by decide)) (pxa_cons (px_var 0) pxa_nil)))))))
      (pb_one (sx_ret (px_tup (pxa_cons (px_str [109, 111, 100, 105, 102, 121]) (pxa_cons (px_var 1) (pxa_cons (px_ct call_tuple_of l_tupOf T.n_tuple (by decide +kernel) (pxa_cons (px_var 2) pxa_nil)) pxa_nil))))))))
  · rintro ds os PP ⟨⟨xp, dd, xo⟩, p, rfl, rfl, ⟨hg, s, cs, hd⟩, k⟩ hx
    dsimp only at hd
    subst hd
    obtain ⟨hs, hcs, hgc⟩ := hg.d
    have hpost := hg.post
    dsimp only at hpost
    have hsl := hs.sz
    have hls : (RDd.m ⟨xp, .mod s cs, xo⟩).ls = xp ++ (hMOD ++ s) :: (cs.flatMap chgLines ++ xo) := rfl
    generalize hLS : (RDd.m ⟨xp, .mod s cs, xo⟩).ls = LS at hls
    have hst : rdObj aR (RDd.m ⟨xp, .mod s cs, xo⟩).rd = rdObj aR ⟨LS, xp.length⟩ := by rw [← hLS]; rfl
    have hst' : rdObj aR (RDd.m ⟨xp, .mod s cs, xo⟩).rd' = rdObj aR ⟨LS, xp.length + 1 + (cs.flatMap chgLines).length⟩ := by
      rw [← hLS]
      show rdObj aR ⟨_, xp.length + ((hMOD ++ s) :: cs.flatMap chgLines).length⟩ = _
      congr 2
      rw [List.length_cons]; omega
    dsimp only at k
    rw [hst'] at k
    show dSeq _ _ (start0 3 _ [⟨p, rdObj aR (RDd.m ⟨xp, .mod s cs, xo⟩).rd⟩]) _
    rw [hst]
    apply q_seq
    refine d_par (d_cons ?_)
    refine methC_up (st := fun y : NR => rdObj aR y.x) (st' := fun y : NR => rdObj aR ⟨y.x.ls, y.x.at_ + 1⟩) (⟨hMOD, s, ⟨LS, xp.length⟩⟩ : NR) ev_var rfl rfl rfl (ev_cons ev_c ev_nil) rfl ⟨by show hMOD.length ≤ 100; decide, by show s.length ≤ 1000000; omega, by rw [hls]; exact get_midG rfl⟩ ?_
    (try dsimp only)
    refine d_cons ?_
    refine (ev_nil : EvA dNil _ []) _ ⟨by simp, fun fa hfa => ?_⟩
    (try dsimp only)
    refine d_nil ?_
    (try dsimp only)
    refine ⟨_, _, rfl, ?_⟩
    apply q_seq
    refine ⟨[⟨p, rdObj aR ⟨LS, xp.length + 1⟩⟩, ⟨fa, .lst []⟩], List.Perm.swap _ _ _, ?_⟩
    refine s_while (fun m ρ => ∃ (c1 c2 : List Chg), cs = c1 ++ c2 ∧ m = c2.length ∧ ρ = ⟨[some (.raw (.ref p)), some (.str s), some (.raw (.ref fa))], [⟨p, rdObj aR ⟨LS, xp.length + 1 + (c1.flatMap chgLines).length⟩⟩, ⟨fa, .lst (c1.map chgD)⟩], fun a => a = fa ∨ False⟩) cs.length ⟨[], cs, rfl, rfl, rfl⟩ ?_
    rintro m ρ ⟨c1, c2, hc12, rfl, rfl⟩
    have hls2 : LS = (xp ++ ((hMOD ++ s) :: c1.flatMap chgLines)) ++ (c2.flatMap chgLines ++ xo) := by rw [hls, hc12]; simp
    have hpl : (xp ++ ((hMOD ++ s) :: c1.flatMap chgLines)).length = xp.length + 1 + (c1.flatMap chgLines).length := by rw [List.length_append, List.length_cons]; omega
    have hle : xp.length + 1 + (c1.flatMap chgLines).length ≤ LS.length := by rw [hls2, List.length_append, hpl]; omega
    cases c2 with
    | cons c c2 =>
      have hcg := hgc c (by rw [hc12]; simp)
      obtain ⟨l, r, hcl, hcv⟩ := chg_head hcg
      have hlok := (chg_lines hcg).2 l (by rw [hcl]; simp)
      have hline : LS[xp.length + 1 + (c1.flatMap chgLines).length]? = some l := by
        rw [hls2, List.flatMap_cons, hcl, List.cons_append, List.cons_append]
        exact get_midG hpl.symm
      have hlt2 : xp.length + 1 + (c1.flatMap chgLines).length < LS.length := (List.getElem?_eq_some_iff.mp hline).1
      have hgd2 : LS.getD (xp.length + 1 + (c1.flatMap chgLines).length) [] = l := by rw [List.getD_eq_getElem?_getD, hline]; rfl
      refine ⟨true, evt_eq (ev_not (ev_test (ev_methC (⟨LS, xp.length + 1 + (c1.flatMap chgLines).length⟩ : Rdg) ev_var rfl rfl rfl ev_nil rfl hle))) ?_, fun _ => ?_, fun h => by cases h⟩
      · dsimp only
        rw [hgd2, decide_eq_false (by omega), decide_eq_false hlok.ne]; rfl
      · refine d_drop (d_append ev_var (sees_cell (l := [⟨p, rdObj aR ⟨LS, xp.length + 1 + (c1.flatMap chgLines).length⟩⟩]) rfl) ?_)
        have hx1 : (RCh.m ⟨xp ++ ((hMOD ++ s) :: c1.flatMap chgLines), c, c2.flatMap chgLines ++ xo⟩).ls = LS := by
          rw [hls2]
          show (xp ++ ((hMOD ++ s) :: c1.flatMap chgLines)) ++ (chgLines c ++ (c2.flatMap chgLines ++ xo)) = _
          simp
        refine callC_upE (st := fun x : RCh => rdObj aR x.m.rd) (st' := fun x : RCh => rdObj aR x.m.rd') (d' := rdObj aR ⟨LS, xp.length + 1 + ((c1 ++ [c]).flatMap chgLines).length⟩) (⟨xp ++ ((hMOD ++ s) :: c1.flatMap chgLines), c, c2.flatMap chgLines ++ xo⟩ : RCh) (ev_cons ev_var ev_nil) rfl ?_ ?_ rfl ⟨hcg, ?_⟩ ?_
        · show rdObj aR _ = rdObj aR ⟨(RCh.m ⟨xp ++ ((hMOD ++ s) :: c1.flatMap chgLines), c, c2.flatMap chgLines ++ xo⟩).ls, (xp ++ ((hMOD ++ s) :: c1.flatMap chgLines)).length⟩
          rw [hx1, hpl]
        · show rdObj aR ⟨(RCh.m ⟨xp ++ ((hMOD ++ s) :: c1.flatMap chgLines), c, c2.flatMap chgLines ++ xo⟩).ls, (xp ++ ((hMOD ++ s) :: c1.flatMap chgLines)).length + (chgLines c).length⟩ = _
          rw [hx1, hpl, List.flatMap_append]
          simp only [List.length_append, List.flatMap_cons, List.flatMap_nil, List.append_nil]
          congr 2
          omega
        · intro l2 r2 e
          dsimp only at e
          cases c2 with
          | cons c' c2 =>
            obtain ⟨l3, r3, h3, h4⟩ := chg_head (hgc c' (by rw [hc12]; simp))
            rw [List.flatMap_cons, h3] at e
            have : l3 = l2 := by
              have := congrArg List.head? e
              simpa using this
            rw [← this]; exact h4
          | nil =>
            rw [List.flatMap_nil, List.nil_append] at e
            rcases hpost with h | ⟨r4, h⟩
            · rw [h] at e; cases e
            · rw [h] at e
              cases e
              rfl
        · refine ⟨fa, [⟨p, rdObj aR ⟨LS, xp.length + 1 + ((c1 ++ [c]).flatMap chgLines).length⟩⟩], [], c1.map chgD, rfl, rfl, ?_, c2.length, by rw [List.length_cons]; omega, c1 ++ [c], c2, by rw [hc12]; simp, rfl, ?_⟩
          · rw [List.length_map]
            have := congrArg List.length hc12
            rw [List.length_append] at this
            omega
          · have e1 : c1.map chgD ++ [chgD c] = (c1 ++ [c]).map chgD := by simp
            rw [e1]
            rfl
    | nil =>
      have hc1 : c1 = cs := by rw [hc12]; simp
      subst hc1
      refine ⟨false, evt_eq (ev_not (ev_test (ev_methC (⟨LS, xp.length + 1 + (c1.flatMap chgLines).length⟩ : Rdg) ev_var rfl rfl rfl ev_nil rfl hle))) ?_, fun h => (by cases h), fun _ => ?_⟩
      · dsimp only
        rcases hpost with h | ⟨r4, h⟩
        · have : xp.length + 1 + (c1.flatMap chgLines).length = LS.length := by rw [hls2, List.length_append, hpl, h]; simp
          rw [decide_eq_true this]; rfl
        · have hline : LS[xp.length + 1 + (c1.flatMap chgLines).length]? = some [] := by
            rw [hls2, h, List.flatMap_nil, List.nil_append]
            exact get_midG hpl.symm
          rw [List.getD_eq_getElem?_getD, hline]
          simp
      · (try dsimp only)
        refine s_ret (d := deedD aN aE (.mod s c1)) (ev_tup (ev_cons ev_c (ev_cons ev_var (ev_cons (ev_cb (ev_cons ev_var ev_nil) (v_tupOf (.inl (sees_cell (l := [⟨p, rdObj aR ⟨LS, xp.length + 1 + (c1.flatMap chgLines).length⟩⟩]) rfl)))) ev_nil))) (by simp)) ⟨[⟨p, rdObj aR ⟨LS, xp.length + 1 + (c1.flatMap chgLines).length⟩⟩], by simp, k⟩
theorem sc_read_rename : FnScope ["reading", "name", "leaf", "under", "keep"] ["reading"] (defScope (top 61)) := ⟨rfl, rfl, rfl, by decide +kernel, rfl, by decide +kernel, by decide +kernel⟩
theorem ok_read_rename {f : Addr} {fd : FuncData} (F : Fun K "read_rename" "read_rename" (top 61) f fd) (T : Txt K mg aN aE aR) (m_Reading_next_line : KnM P w K mg base CX0 aR "next_line" 2 ["self"] (NoX (R_next_line aR))) (m_Reading_go_on : KnM P w K mg base CX0 aR "go_on" 1 ["self"] (NoX (R_go_on aR))) (m_Reading_begins_with : KnM P w K mg base CX0 aR "begins_with" 2 ["self", "head"] (NoX (R_begins_with aR))) (m_Reading_rest_behind : KnM P w K mg base CX0 aR "rest_behind" 3 ["self", "head"] (NoX (R_rest_behind aR))) : FnOk P w K mg base CX0 4 f fd ["reading"] (Pr K (NoX (R_read_rename aN aE aR))) := by
  have sc := sc_read_rename
  refine okD F sc (fun ds os PP ⟨_, _, e, _⟩ => by rw [e]; rfl) ?_
  apply Exists.intro
  apply And.intro
  · intro cdv A outer s H hr
    have hu := hr.units
    have hu0 : (A.deeper (envOfC "read_rename" (defScope (top 61)) s.heap.objs.size f cdv)).units + 1 < cLine := by omega
    exact (pb_cons (sx_set 1 sc.nd (px_methC_0 m_Reading_rest_behind (hr.mono (by decide)) (px_var 0) (pxa_cons (px_gstrE T.g_RENAME) pxa_nil)))
      (pb_cons (sx_set 2 sc.nd (px_methC_0 m_Reading_rest_behind (hr.mono (by decide)) (px_var 0) (pxa_cons (px_gstrE T.g_LEAF) pxa_nil)))
      (pb_cons (sx_set 3 sc.nd (px_if (pt_v (px_methC_0 m_Reading_begins_with (hr.mono (by decide)) (px_var 0) (pxa_cons (px_gstrE T.g_UNDER) pxa_nil))) (px_methC_0 m_Reading_rest_behind (hr.mono (by decide)) (px_var 0) (pxa_cons (px_gstrE T.g_UNDER) pxa_nil)) px_non))
      (pb_cons (sx_set 4 sc.nd (px_and (px_methC_0 m_Reading_begins_with (hr.mono (by decide)) (px_var 0) (pxa_cons (px_gstrE T.g_KEEP) pxa_nil)) (px_one (DL.px_cmp op_eq l_eq (px_meth0C_0 m_Reading_next_line (hr.mono (by decide)) (px_var 0)) (px_gstrE T.g_KEEP)))))
      (pb_cons (sx_if (pt_v (px_var 4)) (pb_one (sx_expr (px_meth0C_0 m_Reading_go_on (hr.mono (by decide)) (px_var 0)))) pb_nil)
      (pb_one (sx_ret (px_tup (pxa_cons (px_str [114, 101, 110, 97, 109, 101]) (pxa_cons (px_var 1) (pxa_cons (px_var 2) (pxa_cons (px_var 3) (pxa_cons (px_var 4) pxa_nil)))))))))))))
  · rintro ds os PP ⟨⟨xp, dd, xo⟩, p, rfl, rfl, ⟨hg, s, l, u, kp, hd⟩, k⟩ hx
    dsimp only at hd
    subst hd
    obtain ⟨hs, hl, hu2⟩ := hg.d
    have hpost := hg.post
    dsimp only at hpost
    have hsl := hs.sz
    have hll := hl.sz
    let UL : List (List Nat) := undL u
    let KL : List (List Nat) := keepL kp
    have hls : (RDd.m ⟨xp, .ren s l u kp, xo⟩).ls = xp ++ (hREN ++ s) :: ((hLEAF ++ l) :: (UL ++ (KL ++ xo))) := by
      show xp ++ (((hREN ++ s) :: (hLEAF ++ l) :: (UL ++ KL)) ++ xo) = _
      simp
    generalize hLS : (RDd.m ⟨xp, .ren s l u kp, xo⟩).ls = LS at hls
    have hst : rdObj aR (RDd.m ⟨xp, .ren s l u kp, xo⟩).rd = rdObj aR ⟨LS, xp.length⟩ := by rw [← hLS]; rfl
    have hst' : rdObj aR (RDd.m ⟨xp, .ren s l u kp, xo⟩).rd' = rdObj aR ⟨LS, xp.length + 1 + 1 + UL.length + KL.length⟩ := by
      rw [← hLS]
      show rdObj aR ⟨_, xp.length + ((hREN ++ s) :: (hLEAF ++ l) :: (UL ++ KL)).length⟩ = _
      congr 2
      simp only [List.length_cons, List.length_append]; omega
    dsimp only at k
    rw [hst'] at k
    show dSeq _ _ (start0 5 _ [⟨p, rdObj aR (RDd.m ⟨xp, .ren s l u kp, xo⟩).rd⟩]) _
    rw [hst]
    refine q_setMC (st := fun y : NR => rdObj aR y.x) (st' := fun y : NR => rdObj aR ⟨y.x.ls, y.x.at_ + 1⟩) (⟨hREN, s, ⟨LS, xp.length⟩⟩ : NR) ev_var rfl rfl rfl (ev_cons ev_c ev_nil) rfl ⟨by show hREN.length ≤ 100; decide, by show s.length ≤ 1000000; omega, by rw [hls]; exact get_midG rfl⟩ ?_
    have hls1 : LS = (xp ++ [hREN ++ s]) ++ (hLEAF ++ l) :: (UL ++ (KL ++ xo)) := by rw [hls]; simp
    refine q_setMC (st := fun y : NR => rdObj aR y.x) (st' := fun y : NR => rdObj aR ⟨y.x.ls, y.x.at_ + 1⟩) (⟨hLEAF, l, ⟨LS, xp.length + 1⟩⟩ : NR) ev_var rfl rfl rfl (ev_cons ev_c ev_nil) rfl ⟨by show hLEAF.length ≤ 100; decide, by show l.length ≤ 1000000; omega, by rw [hls1]; exact get_midG (by simp)⟩ ?_
    have hls2 : LS = (xp ++ [hREN ++ s, hLEAF ++ l]) ++ (UL ++ (KL ++ xo)) := by rw [hls]; simp
    have hp2 : (xp ++ [hREN ++ s, hLEAF ++ l]).length = xp.length + 1 + 1 := by simp
    have hls3 : LS = (xp ++ [hREN ++ s, hLEAF ++ l] ++ UL) ++ (KL ++ xo) := by rw [hls]; simp
    have hp3 : (xp ++ [hREN ++ s, hLEAF ++ l] ++ UL).length = xp.length + 1 + 1 + UL.length := by rw [List.length_append, hp2]
    have rest : ∀ ρ : Rho, ρ = ⟨[some (.raw (.ref p)), some (.str s), some (.str l), some (optD u), none], [⟨p, rdObj aR ⟨LS, xp.length + 1 + 1 + UL.length⟩⟩], fun _ => False⟩ →
        dSeq (dSet (dAndV (dMethC0 aR "begins_with" (R_begins_with aR) (dVar 0) (dCons (dC (.str lKEEP)) dNil)) (dOp rdEq (dMethC0 aR "next_line" (R_next_line aR) (dVar 0) dNil) (dC (.str lKEEP)))) (dgName 4)) (dSeq (dIfS (dTest (dVar 4)) (dDrop (dMethC0 aR "go_on" (R_go_on aR) (dVar 0) dNil)) dNext) (dRet (dTup (dCons (dC (.str cREN)) (dCons (dVar 1) (dCons (dVar 2) (dCons (dVar 3) (dCons (dVar 4) dNil)))))))) ρ (bodyP PP) := fun ρ hρ => by
      subst hρ
      have hle3 : xp.length + 1 + 1 + UL.length ≤ LS.length := by rw [hls3, List.length_append, hp3]; omega
      cases kp with
      | true =>
        have hline : LS[xp.length + 1 + 1 + UL.length]? = some lKEEP := by rw [hls3]; exact get_midG hp3.symm
        have hlt : xp.length + 1 + 1 + UL.length < LS.length := (List.getElem?_eq_some_iff.mp hline).1
        have hgd : LS.getD (xp.length + 1 + 1 + UL.length) [] = lKEEP := by rw [List.getD_eq_getElem?_getD, hline]; rfl
        refine q_set (d := .bl true) (ev_andV (b1 := true) (b2 := true) (begins (x := ⟨LS, xp.length + 1 + 1 + UL.length⟩) ev_var rfl ev_c hle3 (by dsimp only; rw [hgd, decide_eq_false (by omega)]; decide)) fun _ => evd_eq (ev_op (evd_eq (ev_methC (⟨LS, xp.length + 1 + 1 + UL.length⟩ : Rdg) ev_var rfl rfl rfl ev_nil rfl hlt) (congrArg D.str hgd)) ev_c v_eqS) (by simp)) eg_name ?_
        refine q_if (b := true) (ev_test ev_var) (fun _ => ?_) (fun h => by cases h)
        refine s_methC (st := rdObj aR) (st' := fun x => rdObj aR ⟨x.ls, x.at_ + 1⟩) (⟨LS, xp.length + 1 + 1 + UL.length⟩ : Rdg) ev_var rfl rfl rfl ev_nil rfl trivial ?_
        (try dsimp only)
        exact s_ret (d := deedD aN aE (.ren s l u true)) (ev_tup (ev_cons ev_c (ev_cons ev_var (ev_cons ev_var (ev_cons ev_var (ev_cons ev_var ev_nil))))) (by simp)) ⟨_, List.Sublist.refl _, k⟩
      | false =>
        refine q_set (d := .bl false) (evd_eq (ev_andV (b1 := false) (b2 := false) (begins (x := ⟨LS, xp.length + 1 + 1 + UL.length⟩) ev_var rfl ev_c hle3 ?_) fun h => by cases h) rfl) eg_name ?_
        · have := beg_val (xp ++ [hREN ++ s, hLEAF ++ l] ++ UL) (KL ++ xo) lKEEP
          rw [← hls3, hp3] at this
          dsimp only
          rw [this]
          rcases hpost with h | ⟨r4, h⟩
          · rw [h]; rfl
          · rw [h]; rfl
        · refine q_if (b := false) (ev_test ev_var) (fun h => by cases h) fun _ => q_next ?_
          exact s_ret (d := deedD aN aE (.ren s l u false)) (ev_tup (ev_cons ev_c (ev_cons ev_var (ev_cons ev_var (ev_cons ev_var (ev_cons ev_var ev_nil))))) (by simp)) ⟨_, List.Sublist.refl _, k⟩
    have hle2 : xp.length + 1 + 1 ≤ LS.length := by rw [hls2, List.length_append, hp2]; omega
    refine q_setN ?_
    have hbeg := beg_val (xp ++ [hREN ++ s, hLEAF ++ l]) (UL ++ (KL ++ xo)) hUND
    rw [← hls2, hp2] at hbeg
    cases u with
    | none =>
      refine d_if (b := false) (ev_test (begins (x := ⟨LS, xp.length + 1 + 1⟩) (h := hUND) ev_var rfl ev_c hle2 ?_)) (fun h => by cases h) (fun _ => ?_)
      · dsimp only
        rw [hbeg]
        cases kp with
        | true => rfl
        | false =>
          rcases hpost with h | ⟨r4, h⟩
          · rw [h]; rfl
          · rw [h]; rfl
      · refine ev_c _ ?_
        exact rest _ rfl
    | some u =>
      have hul := (hu2 u rfl).sz
      refine d_if (b := true) (ev_test (begins (x := ⟨LS, xp.length + 1 + 1⟩) (h := hUND) ev_var rfl ev_c hle2 ?_)) (fun _ => ?_) (fun h => by cases h)
      · dsimp only
        rw [hbeg]
        exact pre_app _ _
      · refine methC_up (st := fun y : NR => rdObj aR y.x) (st' := fun y : NR => rdObj aR ⟨y.x.ls, y.x.at_ + 1⟩) (⟨hUND, u, ⟨LS, xp.length + 1 + 1⟩⟩ : NR) ev_var rfl rfl rfl (ev_cons ev_c ev_nil) rfl ⟨by show hUND.length ≤ 100; decide, by show u.length ≤ 1000000; omega, by rw [hls2]; exact get_midG hp2.symm⟩ ?_
        exact rest _ rfl
end
end K86

set_option Elab.async false
set_option linter.all false
set_option maxRecDepth 100000
set_option maxHeartbeats 2000000
namespace K86
open PySem PySem.Spec PyProof PyProof.Rows L2 TL DL
local macro_rules | `(tactic| walk_at "ev") => `(tactic| repeat' (with_reducible first
  | apply ev_c | (apply ev_var; with_unfolding_all exact rfl) | exact v_isStr | apply ev_op | apply ev_test | apply ev_and | apply ev_or | apply ev_not | apply ev_andV | apply ev_orV | apply ev_notV
  | apply ev_ifS | apply ev_ifI | apply ev_chain | apply ev_nil | apply ev_cons | apply ev_tup | apply ev_lst | apply ev_cb | apply ev_m0 | apply ev_m1 | apply ev_m2 | apply ev_sl | apply ev_noPart | apply ev_part | apply ev_revT | apply ev_yes
  | apply v_I0 | apply v_I | apply v_addS | apply v_eqS | apply v_eqI | apply v_eqB | apply v_neS | apply v_neI | apply v_inS | apply v_notInS | apply v_isN0 | apply v_isNS | apply v_isNT | apply v_notN0 | apply v_notNS | apply v_notNT
  | apply v_lenS | apply v_lenL | apply v_lenT | apply v_all | apply v_any | apply v_int1 | apply v_intb | apply v_max2 | apply v_min2 | apply v_join | apply v_split | apply v_part | apply v_lower | apply v_starts | apply v_find | apply v_slS | apply v_slT
  | apply ei_list | apply ei_tup | apply ei_str | apply ei_range1 | apply ei_enumS | apply eg_name | apply eg_nil | apply eg_cons | apply eg_tup
  | (intro _)))

theorem begins_at {ρ : Rho} {to te : DX} {p aR : Addr} {r : List Cell} {LS A B : List (List Nat)} {h l : List Nat} {n : Nat} {b : Bool} (ho : EvD to ρ (.raw (.ref p))) (hc : ρ.os = ⟨p, rdObj aR ⟨LS, n⟩⟩ :: r) (ht : EvD te ρ (.str h)) (hl : LS = A ++ l :: B) (hn : n = A.length) (e : pre h l = b) : EvD (dMethC0 aR "begins_with" (R_begins_with aR) to (dCons te dNil)) ρ (.bl b) := by
  refine begins (x := ⟨LS, n⟩) ho hc ht ?_ ?_
  · dsimp only; rw [hl, hn]; simp
  · dsimp only
    have := beg_val A (l :: B) h
    rw [← hl, ← hn] at this
    rw [this]; exact e
theorem dl_add (x : Ent2) : deedLines (.add x) = (hADD ++ nameText x.L) :: linesOf x.T := rfl
theorem m_ls (xp : List (List Nat)) (d : Deed) (xo : List (List Nat)) : (RDd.m ⟨xp, d, xo⟩).ls = xp ++ (deedLines d ++ xo) := rfl
section
variable {P : Program} {w : World} {K : PySem.W.Frag} {mg : Str → Option Value} {base : Heap} {aN aE aR : Addr}

theorem sc_read_deed : FnScope ["reading", "found"] ["reading"] (defScope (top 62)) := ⟨rfl, rfl, rfl, by decide +kernel, rfl, by decide +kernel, by decide +kernel⟩
theorem ok_read_deed {f : Addr} {fd : FuncData} (F : Fun K "read_deed" "read_deed" (top 62) f fd) (T : Txt K mg aN aE aR) (m_Reading_ends_block : KnM P w K mg base CX0 aR "ends_block" 2 ["self"] (NoX (R_ends_block aR))) (m_Reading_begins_with : KnM P w K mg base CX0 aR "begins_with" 2 ["self", "head"] (NoX (R_begins_with aR))) (m_Reading_rest_behind : KnM P w K mg base CX0 aR "rest_behind" 3 ["self", "head"] (NoX (R_rest_behind aR))) (k_read_block : Kn0 P w K mg base "read_block" 11 ["reading", "head"] (R_read_block aN aE aR)) (k_read_modify : Kn0 P w K mg base "read_modify" 5 ["reading"] (R_read_modify aN aE aR)) (k_read_rename : Kn0 P w K mg base "read_rename" 4 ["reading"] (R_read_rename aN aE aR)) : FnOk P w K mg base CX0 12 f fd ["reading"] (Pr K (NoX (R_read_deed aN aE aR))) := by
  have sc := sc_read_deed
  refine okD F sc (fun ds os PP ⟨_, _, e, _⟩ => by rw [e]; rfl) ?_
  apply Exists.intro
  apply And.intro
  · intro cdv A outer s H hr
    have hu := hr.units
    have hu0 : (A.deeper (envOfC "read_deed" (defScope (top 62)) s.heap.objs.size f cdv)).units + 1 < cLine := by omega
    exact (pb_cons (sx_if (pt_v (px_methC_0 m_Reading_begins_with (hr.mono (by decide)) (px_var 0) (pxa_cons (px_gstrE T.g_ADD) pxa_nil))) (pb_one (sx_set 1 sc.nd (px_tup (pxa_cons (px_str [97, 100, 100]) (pxa_cons (px_callC0 k_read_block (hr.mono (by decide)) (pxa_cons (px_var 0) (pxa_cons (px_gstrE T.g_ADD) pxa_nil))) pxa_nil))))) (pb_one (sx_if (pt_v (px_methC_0 m_Reading_begins_with (hr.mono (by decide)) (px_var 0) (pxa_cons (px_gstrE T.g_MODIFY) pxa_nil))) (pb_one (sx_set 1 sc.nd (px_callC0 k_read_modify (hr.mono (by decide)) (pxa_cons (px_var 0) pxa_nil)))) (pb_one (sx_if (pt_v (px_methC_0 m_Reading_begins_with (hr.mono (by decide)) (px_var 0) (pxa_cons (px_gstrE T.g_RENAME) pxa_nil))) (pb_one (sx_set 1 sc.nd (px_callC0 k_read_rename (hr.mono (by decide)) (pxa_cons (px_var 0) pxa_nil)))) (pb_one (sx_set 1 sc.nd (px_tup (pxa_cons (px_str [100, 101, 108, 101, 116, 101]) (pxa_cons (px_methC_0 m_Reading_rest_behind (hr.mono (by decide)) (px_var 0) (pxa_cons (px_gstrE T.g_DELETE) pxa_nil)) pxa_nil))))))))))
      (pb_cons (sx_if (DL.pt_no (pt_v (px_meth0C_0 m_Reading_ends_block (hr.mono (by decide)) (px_var 0)))) (pb_one sx_never) pb_nil)
      (pb_one (sx_ret (px_var 1)))))
  · rintro ds os PP ⟨⟨xp, d, xo⟩, p, rfl, rfl, hg, k⟩ hx
    have hpost := hg.post
    dsimp only at hpost
    have hls := m_ls xp d xo
    generalize hLS : (RDd.m ⟨xp, d, xo⟩).ls = LS at hls
    have hst : rdObj aR (RDd.m ⟨xp, d, xo⟩).rd = rdObj aR ⟨LS, xp.length⟩ := by rw [← hLS]; rfl
    have hst' : rdObj aR (RDd.m ⟨xp, d, xo⟩).rd' = rdObj aR ⟨LS, xp.length + (deedLines d).length⟩ := by rw [← hLS]; rfl
    dsimp only at k
    rw [hst'] at k
    show dSeq _ _ (start0 2 _ [⟨p, rdObj aR (RDd.m ⟨xp, d, xo⟩).rd⟩]) _
    rw [hst]
    have hls2 : LS = (xp ++ deedLines d) ++ xo := by rw [hls]; simp
    have hp2 : (xp ++ deedLines d).length = xp.length + (deedLines d).length := by rw [List.length_append]
    have hle2 : xp.length + (deedLines d).length ≤ LS.length := by rw [hls2, List.length_append, hp2]; omega
    have fin : ∀ ρ : Rho, ρ.sl[0]? = some (some (.raw (.ref p))) → ρ.sl[1]? = some (some (deedD aN aE d)) → ρ.os = [⟨p, rdObj aR ⟨LS, xp.length + (deedLines d).length⟩⟩] →
        dSeq (dIfS (dNot (dTest (dMethC0 aR "ends_block" (R_ends_block aR) (dVar 0) dNil))) dNever dNext) (dRet (dVar 1)) ρ (bodyP PP) := fun ρ h0 h1 ho => by
      refine q_if (b := false) (evt_eq (ev_not (b := true) (ev_test (evd_eq (ev_methC (C := aR) (m := "ends_block") (enc := fun _ : Rdg => []) (st := rdObj aR) (pr := fun x : Rdg => x.at_ ≤ x.ls.length) (out := fun x : Rdg => D.bl (decide (x.at_ = x.ls.length) || decide ((x.ls.getD x.at_ []) = []))) (u := dNil) (⟨LS, xp.length + (deedLines d).length⟩ : Rdg) (ev_var (h := h0)) ho rfl rfl ev_nil rfl hle2) ?_))) rfl) (fun h => by cases h) fun _ => q_next ?_
      · dsimp only
        rcases hpost with h | ⟨r4, h⟩
        · have : xp.length + (deedLines d).length = LS.length := by rw [hls2, List.length_append, hp2, h]; simp
          rw [decide_eq_true this]; rfl
        · have hline : LS[xp.length + (deedLines d).length]? = some [] := by
            rw [hls2, h]
            exact get_midG hp2.symm
          rw [List.getD_eq_getElem?_getD, hline]
          simp
      · refine s_ret (ev_var (h := h1)) ⟨_, List.Sublist.refl _, ?_⟩
        rw [ho]; exact k
    cases d with
    | add x =>
      obtain ⟨he, hso, hc, hn⟩ := drawnE_good hg.d
      have hl1 : LS = xp ++ (hADD ++ nameText x.L) :: (linesOf x.T ++ xo) := by rw [hls]; rfl
      refine q_if (b := true) (ev_test (begins_at (A := xp) ev_var rfl ev_c hl1 rfl (pre_app _ _))) (fun _ => ?_) (fun h => by cases h)
      refine d_setN (d_tupC (d_cons ?_))
      refine ev_c _ ?_
      (try dsimp only)
      refine d_cons ?_
      have hra : (RB.mk hADD xp x.L x.T xo).ra.ls = LS := by
        rw [hl1]
        show (xp ++ [hADD ++ nameText x.L]) ++ (linesOf x.T ++ xo) = _
        simp
      refine callC_upE (st := fun x : RB => rdObj aR x.rd) (st' := fun x : RB => rdObj aR x.ra.rd') (d' := rdObj aR ⟨LS, xp.length + (deedLines (.add x)).length⟩) (RB.mk hADD xp x.L x.T xo) (ev_cons ev_var (ev_cons ev_c ev_nil)) rfl ?_ ?_ rfl ⟨by show hADD.length ≤ 100; decide, he.nm, he.tb, hpost⟩ ?_
      · show rdObj aR _ = rdObj aR ⟨(RB.mk hADD xp x.L x.T xo).ra.ls, xp.length⟩
        rw [hra]
      · show rdObj aR ⟨(RB.mk hADD xp x.L x.T xo).ra.ls, (xp ++ [hADD ++ nameText x.L]).length + (linesOf x.T).length⟩ = _
        rw [hra, dl_add]
        congr 2
        simp only [List.length_append, List.length_cons, List.length_nil]; omega
      · (try dsimp only)
        refine d_nil ?_
        (try dsimp only)
        refine ⟨by simp, ?_⟩
        rw [hso]
        exact fin _ rfl rfl rfl
    | mod s cs =>
      have hl1 : LS = xp ++ (hMOD ++ s) :: (cs.flatMap chgLines ++ xo) := by rw [hls]; rfl
      refine q_if (b := false) (ev_test (begins_at (A := xp) ev_var rfl ev_c hl1 rfl (by rfl))) (fun h => by cases h) fun _ => ?_
      refine s_if (b := true) (ev_test (begins_at (A := xp) ev_var rfl ev_c hl1 rfl (pre_app _ _))) (fun _ => ?_) (fun h => by cases h)
      refine d_setN ?_
      refine callC_upE (st := fun x : RDd => rdObj aR x.m.rd) (st' := fun x : RDd => rdObj aR x.m.rd') (⟨xp, .mod s cs, xo⟩ : RDd) (ev_cons ev_var ev_nil) rfl hst.symm hst' rfl ⟨hg, s, cs, rfl⟩ ?_
      exact fin _ rfl rfl rfl
    | ren s l u kp =>
      have hl1 : LS = xp ++ (hREN ++ s) :: ((hLEAF ++ l) :: (undL u ++ keepL kp) ++ xo) := by rw [hls]; rfl
      refine q_if (b := false) (ev_test (begins_at (A := xp) ev_var rfl ev_c hl1 rfl (by rfl))) (fun h => by cases h) fun _ => ?_
      refine s_if (b := false) (ev_test (begins_at (A := xp) ev_var rfl ev_c hl1 rfl (by rfl))) (fun h => by cases h) fun _ => ?_
      refine s_if (b := true) (ev_test (begins_at (A := xp) ev_var rfl ev_c hl1 rfl (pre_app _ _))) (fun _ => ?_) (fun h => by cases h)
      refine d_setN ?_
      refine callC_upE (st := fun x : RDd => rdObj aR x.m.rd) (st' := fun x : RDd => rdObj aR x.m.rd') (⟨xp, .ren s l u kp, xo⟩ : RDd) (ev_cons ev_var ev_nil) rfl hst.symm hst' rfl ⟨hg, s, l, u, kp, rfl⟩ ?_
      exact fin _ rfl rfl rfl
    | del s =>
      have hsl := hg.d.sz
      have hl1 : LS = xp ++ (hDEL ++ s) :: xo := by rw [hls]; rfl
      refine q_if (b := false) (ev_test (begins_at (A := xp) ev_var rfl ev_c hl1 rfl (by rfl))) (fun h => by cases h) fun _ => ?_
      refine s_if (b := false) (ev_test (begins_at (A := xp) ev_var rfl ev_c hl1 rfl (by rfl))) (fun h => by cases h) fun _ => ?_
      refine s_if (b := false) (ev_test (begins_at (A := xp) ev_var rfl ev_c hl1 rfl (by rfl))) (fun h => by cases h) fun _ => ?_
      refine d_setN (d_tupC (d_cons ?_))
      refine ev_c _ ?_
      (try dsimp only)
      refine d_cons ?_
      refine methC_up (st := fun y : NR => rdObj aR y.x) (st' := fun y : NR => rdObj aR ⟨y.x.ls, y.x.at_ + 1⟩) (⟨hDEL, s, ⟨LS, xp.length⟩⟩ : NR) ev_var rfl rfl rfl (ev_cons ev_c ev_nil) rfl ⟨by show hDEL.length ≤ 100; decide, by show s.length ≤ 1000000; have := hg.d.sz; omega, by rw [hl1]; exact get_midG rfl⟩ ?_
      (try dsimp only)
      refine d_nil ?_
      (try dsimp only)
      refine ⟨by simp, ?_⟩
      exact fin _ rfl rfl rfl
theorem sc_read_script : FnScope ["text", "reading", "found"] ["text"] (defScope (top 63)) := ⟨rfl, rfl, rfl, by decide +kernel, rfl, by decide +kernel, by decide +kernel⟩
theorem ok_read_script {f : Addr} {fd : FuncData} (F : Fun K "read_script" "read_script" (top 63) f fd) (T : Txt K mg aN aE aR) (m_Reading_is_at_end : KnM P w K mg base CX0 aR "is_at_end" 1 ["self"] (NoX (R_is_at_end aR))) (m_Reading_go_on : KnM P w K mg base CX0 aR "go_on" 1 ["self"] (NoX (R_go_on aR))) (i_Reading : KnI P w K mg base CX0 "Reading" aR 1 ["self", "text"] (NoX (R_Reading_init aR))) (k_read_deed : Kn0 P w K mg base "read_deed" 12 ["reading"] (R_read_deed aN aE aR)) : FnOk P w K mg base CX0 13 f fd ["text"] (Pr K (NoX (R_read_script aN aE))) := by
  have sc := sc_read_script
  refine okD F sc (fun ds os PP ⟨_, e, _⟩ => by rw [e]; rfl) ?_
  apply Exists.intro
  apply And.intro
  · intro cdv A outer s H hr
    have hu := hr.units
    have hu0 : (A.deeper (envOfC "read_script" (defScope (top 63)) s.heap.objs.size f cdv)).units + 1 < cLine := by omega
    exact (pb_cons (sx_par 1 2 rfl sc.nd (pxa_cons (px_makeC_0 i_Reading (hr.mono (by decide)) (pxa_cons (px_var 0) pxa_nil)) (pxa_cons (px_lstC pxa_nil) pxa_nil)) rfl (by decide))
      (pb_cons (sx_perm (sx_while PassesOwn.never (PXW.pt (ptw_and (DL.pt_cmp op_ne l_ne (px_var 0) (px_str [])) (ptw_and1 (DL.pt_no (pt_v (px_meth0C_0 m_Reading_is_at_end (hr.mono (by decide)) (px_var 1))))))) (pb_cons (sx_if (DL.pt_cmp (op_neLE (Nat.lt_of_succ_lt hu0)) l_LE (px_var 2) (px_lst pxa_nil)) (pb_one (sx_expr (px_meth0C_0 m_Reading_go_on (hr.mono (by decide)) (px_var 1)))) pb_nil)
      (pb_one (sx_expr (px_append (px_var 2) (px_callC0 k_read_deed (hr.mono (by decide)) (pxa_cons (px_var 1) pxa_nil))))))))
      (pb_one (sx_ret (px_ct call_tuple_of l_tupOf T.n_tuple (by decide +kernel) (pxa_cons (px_var 2) pxa_nil))))))
  · rintro ds os PP ⟨dl, rfl, hg, k⟩ hx
    have h6 := hg.len
    have hnl := scr_nl hg.ok
    have hsz := scr_len hg
    obtain ⟨LS, hLSj, hLSne, hLSnl, hLS2⟩ : ∃ LS : List (List Nat), scrText dl = joinL [10] LS ∧ LS ≠ [] ∧ (∀ l ∈ LS, 10 ∉ l) ∧ (dl ≠ [] → LS = scrLines dl) := by
      by_cases h : dl = []
      · subst h
        exact ⟨[[]], rfl, by simp, fun l hl => by rw [List.mem_singleton.mp hl]; simp, fun z => absurd rfl z⟩
      · exact ⟨scrLines dl, (scr_join h).symm, scrLines_ne h, hnl, fun _ => rfl⟩
    apply q_seq
    refine d_par (d_cons ?_)
    refine (ev_cons ev_var ev_nil : EvA _ _ [.str (scrText dl)]) _ ?_
    intro p hp
    refine ⟨LS, p, by rw [hLSj], hLSne, hLSnl, by rw [← hLSj]; exact hsz, rfl, rfl, _, [], rfl, ?_⟩
    (try dsimp only)
    refine d_cons ?_
    refine (ev_nil : EvA dNil _ []) _ ⟨by simp, fun fa hfa => ?_⟩
    (try dsimp only)
    refine d_nil ?_
    (try dsimp only)
    refine ⟨_, _, rfl, ?_⟩
    apply q_seq
    have hperm : List.Perm (Cell.mk fa (.lst []) :: Cell.mk p (rdObj aR ⟨LS, 0⟩) :: os) (Cell.mk p (rdObj aR ⟨LS, 0⟩) :: Cell.mk fa (.lst []) :: os) := List.Perm.swap _ _ _
    refine ⟨_, hperm, ?_⟩
    let pos (d1 : List Deed) : Nat := (if d1 = [] then [] else scrLines d1).length
    refine s_while (fun m ρ => ∃ (d1 d2 : List Deed) (lo : Addr → Prop), dl = d1 ++ d2 ∧ m = d2.length ∧ ρ = ⟨[some (.str (scrText dl)), some (.raw (.ref p)), some (.raw (.ref fa))], ⟨p, rdObj aR ⟨LS, pos d1⟩⟩ :: ⟨fa, .lst (d1.map (deedD aN aE))⟩ :: os, lo⟩) dl.length ⟨[], dl, _, rfl, rfl, rfl⟩ ?_
    rintro m ρ ⟨d1, d2, lo, hd12, rfl, rfl⟩
    have fin : dRet (dCB rdTupOf (dCons (dVar 2) dNil)) ⟨[some (.str (scrText dl)), some (.raw (.ref p)), some (.raw (.ref fa))], ⟨p, rdObj aR ⟨LS, pos dl⟩⟩ :: ⟨fa, .lst (dl.map (deedD aN aE))⟩ :: os, lo⟩ (bodyP PP) :=
      s_ret (d := .tup (dl.map (deedD aN aE))) (ev_cb (ev_cons ev_var ev_nil) (v_tupOf (.inl (sees_cell (l := [⟨p, rdObj aR ⟨LS, pos dl⟩⟩]) rfl)))) ⟨os, (List.sublist_cons_self _ _).trans (List.sublist_cons_self _ _), k⟩
    cases d2 with
    | cons d d2 =>
      have hdl : dl ≠ [] := by rw [hd12]; simp
      have hLS3 : LS = pfx d1 ++ (deedLines d ++ sfx d2) := by rw [hLS2 hdl, hd12, scr_split]
      have hposle : pos d1 ≤ (pfx d1).length := by
        show (if d1 = [] then [] else scrLines d1).length ≤ (if d1 = [] then [] else scrLines d1 ++ [[]]).length
        by_cases h : d1 = []
        · rw [if_pos h, if_pos h]; exact Nat.le_refl _
        · rw [if_neg h, if_neg h]; simp
      have hdne : 0 < (deedLines d).length := List.length_pos_iff.mpr (deedLines_ne d)
      have hlt : pos d1 < LS.length := by rw [hLS3, List.length_append, List.length_append]; omega
      refine ⟨true, evt_eq (ev_and (ev_test (ev_op ev_var ev_c v_neS)) fun _ => ev_not (ev_test (ev_methC (⟨LS, pos d1⟩ : Rdg) ev_var rfl rfl rfl ev_nil rfl trivial))) ?_, fun _ => ?_, fun h => by cases h⟩
      · dsimp only
        have : scrText dl ≠ tl { cps := #[] } := scr_nil hdl hg.ok
        rw [decide_eq_false this, decide_eq_false (by omega)]; rfl
      · have body : ∀ ρ : Rho, ρ = ⟨[some (.str (scrText dl)), some (.raw (.ref p)), some (.raw (.ref fa))], ⟨p, rdObj aR ⟨LS, (pfx d1).length⟩⟩ :: ⟨fa, .lst (d1.map (deedD aN aE))⟩ :: os, lo⟩ → ∀ Q : PoS, (∀ ρ2 : Rho, ρ2 = ⟨[some (.str (scrText dl)), some (.raw (.ref p)), some (.raw (.ref fa))], ⟨p, rdObj aR ⟨LS, pos (d1 ++ [d])⟩⟩ :: ⟨fa, .lst ((d1 ++ [d]).map (deedD aN aE))⟩ :: os, lo⟩ → Q.nx ρ2) →
            dDrop (dAppend (dVar 2) (dCallC0 (R_read_deed aN aE aR) (dCons (dVar 1) dNil))) ρ Q := fun ρ hρ Q hq => by
          subst hρ
          refine d_drop (d_append ev_var (sees_cell (l := [⟨p, rdObj aR ⟨LS, (pfx d1).length⟩⟩]) rfl) ?_)
          refine callC_upE (st := fun x : RDd => rdObj aR x.m.rd) (st' := fun x : RDd => rdObj aR x.m.rd') (d' := rdObj aR ⟨LS, pos (d1 ++ [d])⟩) (⟨pfx d1, d, sfx d2⟩ : RDd) (ev_cons ev_var ev_nil) rfl ?_ ?_ rfl ⟨hg.ok d (by rw [hd12]; simp), sfx_end d2⟩ ?_
          · show rdObj aR _ = rdObj aR ⟨(RDd.m ⟨pfx d1, d, sfx d2⟩).ls, (pfx d1).length⟩
            rw [m_ls, ← hLS3]
          · show rdObj aR ⟨(RDd.m ⟨pfx d1, d, sfx d2⟩).ls, (pfx d1).length + (deedLines d).length⟩ = _
            rw [m_ls, ← hLS3]
            congr 2
            show _ = (if d1 ++ [d] = [] then [] else scrLines (d1 ++ [d])).length
            rw [if_neg (by simp), scr_snoc, List.length_append]
          · refine ⟨fa, [⟨p, rdObj aR ⟨LS, pos (d1 ++ [d])⟩⟩], os, d1.map (deedD aN aE), rfl, rfl, ?_, hq _ ?_⟩
            · rw [List.length_map]
              have := congrArg List.length hd12
              rw [List.length_append] at this
              omega
            · have e1 : d1.map (deedD aN aE) ++ [deedD aN aE d] = (d1 ++ [d]).map (deedD aN aE) := by simp
              rw [e1]
              rfl
        have done : ∀ ρ2 : Rho, ρ2 = ⟨[some (.str (scrText dl)), some (.raw (.ref p)), some (.raw (.ref fa))], ⟨p, rdObj aR ⟨LS, pos (d1 ++ [d])⟩⟩ :: ⟨fa, .lst ((d1 ++ [d]).map (deedD aN aE))⟩ :: os, lo⟩ → ∃ m', m' < (d :: d2).length ∧ ∃ (d1 d2 : List Deed) (lo : Addr → Prop), dl = d1 ++ d2 ∧ m' = d2.length ∧ ρ2 = ⟨[some (.str (scrText dl)), some (.raw (.ref p)), some (.raw (.ref fa))], ⟨p, rdObj aR ⟨LS, pos d1⟩⟩ :: ⟨fa, .lst (d1.map (deedD aN aE))⟩ :: os, lo⟩ := fun ρ2 h => ⟨d2.length, by rw [List.length_cons]; omega, d1 ++ [d], d2, lo, by rw [hd12]; simp, rfl, h⟩
        by_cases h1 : d1 = []
        · have e0 : pos d1 = (pfx d1).length := by
            show (if d1 = [] then [] else scrLines d1).length = (if d1 = [] then [] else scrLines d1 ++ [[]]).length
            rw [if_pos h1, if_pos h1]
          refine q_if (b := false) (evt_eq (ev_test (ev_op ev_var (ev_lst ev_nil (by simp)) (v_LE (ds := d1.map (deedD aN aE)) (sees_cell (l := [⟨p, rdObj aR ⟨LS, pos d1⟩⟩]) rfl) (.inl rfl)))) (by rw [h1]; rfl)) (fun h => by cases h) fun _ => q_next ?_
          exact body _ (by rw [e0]) _ done
        · have e0 : pos d1 + 1 = (pfx d1).length := by
            show (if d1 = [] then [] else scrLines d1).length + 1 = (if d1 = [] then [] else scrLines d1 ++ [[]]).length
            rw [if_neg h1, if_neg h1]; simp
          refine q_if (b := true) (evt_eq (ev_test (ev_op ev_var (ev_lst ev_nil (by simp)) (v_LE (ds := d1.map (deedD aN aE)) (sees_cell (l := [⟨p, rdObj aR ⟨LS, pos d1⟩⟩]) rfl) (.inl rfl)))) ?_) (fun _ => ?_) (fun h => by cases h)
          · cases d1 with
            | nil => exact absurd rfl h1
            | cons _ _ => rfl
          · refine s_methC (st := rdObj aR) (st' := fun x => rdObj aR ⟨x.ls, x.at_ + 1⟩) (⟨LS, pos d1⟩ : Rdg) ev_var rfl rfl rfl ev_nil rfl trivial ?_
            refine body _ ?_ _ done
            dsimp only
            rw [e0]
    | nil =>
      have hd1 : d1 = dl := by rw [hd12]; simp
      subst hd1
      refine ⟨false, ?_, fun h => (by cases h), fun _ => fin⟩
      by_cases h1 : d1 = []
      · refine evt_eq (ev_and (b1 := false) (b2 := false) (evt_eq (ev_test (ev_op ev_var ev_c v_neS)) ?_) fun h => by cases h) rfl
        rw [h1]; rfl
      · refine evt_eq (ev_and (ev_test (ev_op ev_var ev_c v_neS)) fun _ => ev_not (ev_test (ev_methC (⟨LS, pos d1⟩ : Rdg) ev_var rfl rfl rfl ev_nil rfl trivial))) ?_
        dsimp only
        have : pos d1 = LS.length := by
          show (if d1 = [] then [] else scrLines d1).length = _
          rw [if_neg h1, hLS2 h1]
        rw [decide_eq_true this]; simp
end
end K86

set_option Elab.async false
set_option linter.all false
set_option maxRecDepth 100000
set_option maxHeartbeats 2000000
namespace K86
open PySem PySem.Spec PyProof PyProof.Rows L2 TL DL
local macro_rules | `(tactic| walk_at "ev") => `(tactic| repeat' (with_reducible first
  | apply ev_c | (apply ev_var; with_unfolding_all exact rfl) | exact v_isStr | apply ev_op | apply ev_test | apply ev_and | apply ev_or | apply ev_not | apply ev_andV | apply ev_orV | apply ev_notV
  | apply ev_ifS | apply ev_ifI | apply ev_chain | apply ev_nil | apply ev_cons | apply ev_tup | apply ev_lst | apply ev_cb | apply ev_m0 | apply ev_m1 | apply ev_m2 | apply ev_sl | apply ev_noPart | apply ev_part | apply ev_revT | apply ev_yes
  | apply v_I0 | apply v_I | apply v_addS | apply v_eqS | apply v_eqI | apply v_eqB | apply v_neS | apply v_neI | apply v_inS | apply v_notInS | apply v_isN0 | apply v_isNS | apply v_isNT | apply v_notN0 | apply v_notNS | apply v_notNT
  | apply v_lenS | apply v_lenL | apply v_lenT | apply v_all | apply v_any | apply v_int1 | apply v_intb | apply v_max2 | apply v_min2 | apply v_join | apply v_split | apply v_part | apply v_lower | apply v_starts | apply v_find | apply v_slS | apply v_slT
  | apply ei_list | apply ei_tup | apply ei_str | apply ei_range1 | apply ei_enumS | apply eg_name | apply eg_nil | apply eg_cons | apply eg_tup
  | (intro _)))

def STRS : List (List Nat) := [[], [99, 110, 61, 97], [99, 110, 61, 97, 44, 111, 117, 61, 98], [110, 111, 32, 110, 97, 109, 101], [32], [107, 101, 101, 112, 58, 32, 84, 82, 85, 69], [58, 32], [108, 101, 97, 102, 58, 32, 120], [97, 61, 92]]
def CWS : List (List Nat) := [[99, 110], [97, 103, 101], [97, 100, 100], [118, 97, 108, 117, 101, 115], [107, 101, 101, 112], [122], [97, 98, 99, 100, 101, 102, 103, 104, 105, 106, 107, 108]]
def INTSL : List Int := [0, 1, -1, 12, -305, 10 ^ 30 - 1, 1 - 10 ^ 30, -3]

theorem strs_ok : ∀ s ∈ STRS, GoodS s := by
  have : ∀ s ∈ STRS, s.length ≤ 100 ∧ ∀ c ∈ s, c < 128 ∧ c ≠ 10 := by decide
  exact fun s hs => ⟨(this s hs).1, (this s hs).2⟩
theorem cws_ok : ∀ s ∈ CWS, isWordL s = true := by decide
theorem ints_ok : ∀ i ∈ INTSL, GoodI i := by
  have : ∀ i ∈ INTSL, i.natAbs.log2 < 1920 ∧ (itx i).length ≤ 31 ∧ isIntL (itx i) = true ∧ isValueL (itx i) = true ∧ PySem.intText? (mkS (itx i)) = some i ∧ ∀ c ∈ itx i, c < 128 ∧ c ≠ 10 ∧ c ≠ 32 := by decide +kernel
  exact fun i hi => ⟨(this i hi).1, (this i hi).2.1, (this i hi).2.2.1, (this i hi).2.2.2.1, (this i hi).2.2.2.2.1, (this i hi).2.2.2.2.2⟩
abbrev R__law_string : DF := Dr 1 noArgs (fun _ => True) (fun _ d => ∃ s, d = .str s ∧ GoodS s)
abbrev R__law_drawn_change : DF := Dr 15 noArgs (fun _ => True) (fun _ d => ∃ c, d = chgD c ∧ GoodC c)
abbrev R__law_deed (aN aE : Addr) : DF := Dr 102 noArgs (fun _ => True) (fun _ d => ∃ dd, d = deedD aN aE dd ∧ GoodD dd)
abbrev R__law_deed_lines (aN aE : Addr) : DF := DL.Fn (fun d => [deedD aN aE d]) GoodD fun d => .lst (strsD (deedLines d))
abbrev R__law_script_lines (aN aE : Addr) : DF := DL.Fn (fun ds => [.tup (ds.map (deedD aN aE))]) GoodDs fun ds => .lst (strsD (scrLines ds))
theorem mem_ints {d : D} {l : List Int} (h : d ∈ l.map D.int) : ∃ i, d = .int i ∧ i ∈ l := by
  obtain ⟨s, hs, e⟩ := List.mem_map.mp h
  exact ⟨s, e.symm, hs⟩
theorem chgs_of : ∀ {l : List D} {α : Type} {f : α → D} {p : α → Prop}, (∀ d ∈ l, ∃ c, d = f c ∧ p c) → ∃ m : List α, l = m.map f ∧ ∀ c ∈ m, p c
  | [], _, _, _, _ => ⟨[], rfl, fun _ h => by cases h⟩
  | d :: l, _, f, p, h => by
    obtain ⟨s, e, hs⟩ := h d (by simp)
    obtain ⟨m, e2, h2⟩ := chgs_of (l := l) (f := f) (p := p) fun x hx => h x (by simp [hx])
    refine ⟨s :: m, by rw [e, e2]; rfl, fun x hx => ?_⟩
    rcases List.mem_cons.mp hx with z | z
    · rw [z]; exact hs
    · exact h2 x z
theorem scr_count : ∀ {ds : List Deed}, (∀ d ∈ ds, GoodD d) → (scrLines ds).length ≤ 22 * ds.length
  | [], _ => by simp [scrLines]
  | [d], h => by have := (deed_lines_ok (h d (by simp))).1; simp only [scrLines, List.length_cons, List.length_nil]; omega
  | d :: e :: r, h => by
    have h1 := (deed_lines_ok (h d (by simp))).1
    have h2 := scr_count (ds := e :: r) fun x hx => h x (by simp [hx])
    show (deedLines d ++ ([] :: scrLines (e :: r))).length ≤ _
    rw [List.length_append, List.length_cons, List.length_cons (as := e :: r)]
    omega
section
variable {P : Program} {w : World} {K : PySem.W.Frag} {mg : Str → Option Value} {base : Heap} {aN aE aR : Addr}
theorem sc__law_string : FnScope ["_law_m"] ["_law_m"] (defScope (top 73)) := ⟨rfl, rfl, rfl, by decide +kernel, rfl, by decide +kernel, by decide +kernel⟩
theorem ok__law_string {f : Addr} {fd : FuncData} (F : Fun K "_law_string" "_law_string" (top 73) f fd) (T : Txt K mg aN aE aR) (k__law_pick : Kn0 P w K mg base "_law_pick" 2 ["_law_m", "_law_items"] R__law_pick) : FnOk P w K mg base CX0 3 f fd ["_law_m"] (Pr K (NoX R__law_string)) := by
  have sc := sc__law_string
  refine okD F sc (fun ds os PP ⟨_, _, _, _, e, _⟩ => by rw [e]; rfl) ?_
  apply Exists.intro
  apply And.intro
  · intro cdv A outer s H hr
    have hu := hr.units
    have hu0 : (A.deeper (envOfC "_law_string" (defScope (top 73)) s.heap.objs.size f cdv)).units + 1 < cLine := by omega
    exact (pb_one (sx_ret (px_callC0 k__law_pick (hr.mono (by decide)) (pxa_cons (px_var 0) (pxa_cons (px_lst (pxa_cons (px_str []) (pxa_cons (px_str [99, 110, 61, 97]) (pxa_cons (px_str [99, 110, 61, 97, 44, 111, 117, 61, 98]) (pxa_cons (px_str [110, 111, 32, 110, 97, 109, 101]) (pxa_cons (px_str [32]) (pxa_cons (px_str [107, 101, 101, 112, 58, 32, 84, 82, 85, 69]) (pxa_cons (px_str [58, 32]) (pxa_cons (px_str [108, 101, 97, 102, 58, 32, 120]) (pxa_cons (px_str [97, 61, 92]) pxa_nil)))))))))) pxa_nil)))))
  · rintro ds os PP ⟨x, p, q, n, rfl, hd, hn, _, k⟩ hx
    refine d_ret ?_
    refine d_draw (r := []) (strsD STRS) (ev_cons ev_var (ev_cons (ev_lst (ev_cons ev_c (ev_cons ev_c (ev_cons ev_c (ev_cons ev_c (ev_cons ev_c (ev_cons ev_c (ev_cons ev_c (ev_cons ev_c (ev_cons ev_c ev_nil))))))))) (by decide)) ev_nil)) rfl (by rw [List.append_nil]; exact List.Perm.refl _) hd hn ⟨by decide, by decide⟩ fun d os1 hm hd1 => ?_
    obtain ⟨s, rfl, hs⟩ := mem_strs hm
    exact ⟨os1, List.sublist_append_left _ _, k _ _ ⟨s, rfl, strs_ok s hs⟩ hd1⟩
theorem sc__law_drawn_change : FnScope ["_law_m", "_law_word", "_law_action", "_law_k"] ["_law_m"] (defScope (top 74)) := ⟨rfl, rfl, rfl, by decide +kernel, rfl, by decide +kernel, by decide +kernel⟩
theorem ok__law_drawn_change {f : Addr} {fd : FuncData} (F : Fun K "_law_drawn_change" "_law_drawn_change" (top 74) f fd) (T : Txt K mg aN aE aR) (k__law_draw : Kn0 P w K mg base "_law_draw" 1 ["_law_m", "_law_top"] R__law_draw) (k__law_pick : Kn0 P w K mg base "_law_pick" 2 ["_law_m", "_law_items"] R__law_pick) (k__law_value : Kn0 P w K mg base "_law_value" 3 ["_law_m"] R__law_value) : FnOk P w K mg base CX0 4 f fd ["_law_m"] (Pr K (NoX R__law_drawn_change)) := by
  have sc := sc__law_drawn_change
  refine okD F sc (fun ds os PP ⟨_, _, _, _, e, _⟩ => by rw [e]; rfl) ?_
  apply Exists.intro
  apply And.intro
  · intro cdv A outer s H hr
    have hu := hr.units
    have hu0 : (A.deeper (envOfC "_law_drawn_change" (defScope (top 74)) s.heap.objs.size f cdv)).units + 1 < cLine := by omega
    exact (pb_cons (sx_set 1 sc.nd (px_callC0 k__law_pick (hr.mono (by decide)) (pxa_cons (px_var 0) (pxa_cons (px_lst (pxa_cons (px_str [99, 110]) (pxa_cons (px_str [97, 103, 101]) (pxa_cons (px_str [97, 100, 100]) (pxa_cons (px_str [118, 97, 108, 117, 101, 115]) (pxa_cons (px_str [107, 101, 101, 112]) (pxa_cons (px_str [122]) (pxa_cons (px_str [97, 98, 99, 100, 101, 102, 103, 104, 105, 106, 107, 108]) pxa_nil)))))))) pxa_nil))))
      (pb_cons (sx_set 2 sc.nd (px_callC0 k__law_pick (hr.mono (by decide)) (pxa_cons (px_var 0) (pxa_cons (px_lst (pxa_cons (px_str [97, 100, 100]) (pxa_cons (px_str [100, 101, 108, 101, 116, 101]) (pxa_cons (px_str [114, 101, 112, 108, 97, 99, 101]) (pxa_cons (px_str [105, 110, 99, 114, 101, 109, 101, 110, 116]) pxa_nil))))) pxa_nil))))
      (pb_cons (sx_if (DL.pt_cmp op_eq l_eq (px_var 2) (px_str [105, 110, 99, 114, 101, 109, 101, 110, 116])) (pb_one (sx_ret (px_tup (pxa_cons (px_var 2) (pxa_cons (px_var 1) (pxa_cons (px_callC0 k__law_pick (hr.mono (by decide)) (pxa_cons (px_var 0) (pxa_cons (px_lst (pxa_cons px_int (pxa_cons px_int (pxa_cons (px_negE px_int) (pxa_cons px_int (pxa_cons (px_negE px_int) (pxa_cons (px_op op_sub l_sub (px_op op_pow l_pow px_int px_int) px_int) (pxa_cons (px_op op_sub l_sub px_int (px_op op_pow l_pow px_int px_int)) pxa_nil)))))))) pxa_nil))) pxa_nil)))))) pb_nil)
      (pb_one (sx_ret (px_tup (pxa_cons (px_var 2) (pxa_cons (px_var 1) (pxa_cons (px_ct call_tuple_of l_tupOf T.n_tuple (by decide +kernel) (pxa_cons (px_lc (own := [("_law_k", 3)]) (own1 3) rfl sc.nd (DL.ix_range1 T.n_range (pxa_cons (px_callC0 k__law_draw (hr.mono (by decide)) (pxa_cons (px_var 0) (pxa_cons px_int pxa_nil))) pxa_nil)) (blkOk_by (N := ["_law_m", "_law_word", "_law_action", "_law_k"]) (sc := defScope (top 74)) (by decide +kernel)) (fun _ _ _ _ _ => pg_name (i := 3) sc.nd rfl (Or.inl rfl)) (fun _ _ _ _ _ => pxts_nil) (fun _ _ _ _ _ => (px_callC0 k__law_value (hr.mono (by decide)) (pxa_cons (px_var 0) pxa_nil)))) pxa_nil)) pxa_nil)))))))))
  · rintro ds os PP ⟨x, p, q, n, rfl, hd, hn, _, k⟩ hx
    refine q_setN ?_
    refine d_draw (r := []) (strsD CWS) (ev_cons ev_var (ev_cons (ev_lst (ev_cons ev_c (ev_cons ev_c (ev_cons ev_c (ev_cons ev_c (ev_cons ev_c (ev_cons ev_c (ev_cons ev_c ev_nil))))))) (by decide)) ev_nil)) rfl (by rw [List.append_nil]; exact List.Perm.refl _) hd (by omega) ⟨by decide, by decide⟩ fun d os1 hm hd1 => ?_
    obtain ⟨w1, rfl, hw⟩ := mem_strs hm
    have hw := cws_ok w1 hw
    (try dsimp only)
    refine q_setN ?_
    refine d_draw (r := []) (strsD [cADD, cDEL, cREP, cINC]) (ev_cons ev_var (ev_cons (ev_lst (ev_cons ev_c (ev_cons ev_c (ev_cons ev_c (ev_cons ev_c ev_nil)))) (by decide)) ev_nil)) rfl (List.Perm.refl _) hd1 (by omega) ⟨by decide, by decide⟩ fun d os2 hm hd2 => ?_
    obtain ⟨a, rfl, ha⟩ := mem_strs hm
    (try dsimp only)
    by_cases hai : a = cINC
    · subst hai
      refine q_if (b := true) (evt_eq (ev_test (ev_op ev_var ev_c v_eqS)) (by decide)) (fun _ => ?_) (fun h => by cases h)
      refine d_ret (d_tupC (d_cons ?_))
      refine (ev_var : EvD (dVar 2) _ (.str cINC)) _ ?_
      (try dsimp only)
      refine d_cons ?_
      refine (ev_var : EvD (dVar 1) _ (.str w1)) _ ?_
      (try dsimp only)
      refine d_cons ?_
      refine d_draw (r := []) ([0, 1, -1, 12, -305, 10 ^ 30 - 1, 1 - 10 ^ 30].map D.int) (ev_cons ev_var (ev_cons (ev_lst (ev_cons ev_c (ev_cons ev_c (ev_cons (ev_neg ev_c) (ev_cons ev_c (ev_cons (ev_neg ev_c) (ev_cons (ev_op (ev_op ev_c ev_c (v_I ⟨by decide, by decide, by decide⟩)) ev_c v_I0) (ev_cons (ev_op ev_c (ev_op ev_c ev_c (v_I ⟨by decide, by decide, by decide⟩)) v_I0) ev_nil))))))) (by decide)) ev_nil)) rfl (List.Perm.refl _) hd2 (by omega) ⟨by decide, by decide⟩ fun d os3 hm hd3 => ?_
      obtain ⟨i, rfl, hi⟩ := mem_ints hm
      have hi2 : GoodI i := ints_ok i (by
        have : ∀ i ∈ ([0, 1, -1, 12, -305, 10 ^ 30 - 1, 1 - 10 ^ 30] : List Int), i ∈ INTSL := by decide
        exact this i hi)
      (try dsimp only)
      refine d_nil ?_
      (try dsimp only)
      exact ⟨by simp, os3, List.sublist_append_left _ _, k _ _ ⟨.inc w1 i, rfl, hw, hi2⟩ (hd3.mono (by omega))⟩
    · refine q_if (b := false) (evt_eq (ev_test (ev_op ev_var ev_c v_eqS)) (decide_eq_false hai)) (fun h => by cases h) fun _ => q_next ?_
      have ha2 : a ∈ [cADD, cDEL, cREP] := by
        simp only [List.mem_cons, List.not_mem_nil, or_false] at ha ⊢
        rcases ha with h | h | h | h
        · exact .inl h
        · exact .inr (.inl h)
        · exact .inr (.inr h)
        · exact absurd h hai
      refine d_ret (d_tupC (d_cons ?_))
      refine (ev_var : EvD (dVar 2) _ (.str a)) _ ?_
      (try dsimp only)
      refine d_cons ?_
      refine (ev_var : EvD (dVar 1) _ (.str w1)) _ ?_
      (try dsimp only)
      refine d_cons ?_
      refine d_cb (d_cons (d_lc (d_rng (d_cons ?_))))
      refine d_draw (r := []) 4 (ev_cons ev_var (ev_cons ev_c ev_nil)) rfl (List.Perm.refl _) hd2 (by omega) ⟨by decide, by decide⟩ fun d os3 ⟨t, ht, ed⟩ hd3 => ?_
      subst ed
      (try dsimp only)
      refine d_nil ?_
      (try dsimp only)
      refine ⟨(t : Int), rfl, by omega, by omega, ?_⟩
      have hlen : (intsD 0 ((t : Int)).toNat).length = t := by simp [intsD]
      refine lc_draws (out := fun d => ∃ s, d = .str s ∧ GoodV s) (r := []) (c := 4) rfl hd3 (by rw [hlen]; omega) (fun i d os' Q' hi hd' kk => ?_) fun l os4 hl ho hd4 => ?_
      · have hil : i < t := by rw [← hlen]; exact (List.getElem?_eq_some_iff.mp hi).1
        refine eg_name _ ?_
        refine d_draw (r := []) () (ev_cons ev_var ev_nil) rfl (List.Perm.refl _) hd' (by omega) trivial fun d2 os2 hm2 hd2 => ?_
        exact kk _ d2 os2 hm2 hd2
      · obtain ⟨m, rfl, hml, hm⟩ := strs_of ho
        rw [hlen] at hl hd4
        have hml2 : m.length = t := by rw [← hl]; simp [strsD]
        (try dsimp only)
        refine d_nil ?_
        (try dsimp only)
        refine v_tupOf (.inl (.inl rfl)) _ ?_
        (try dsimp only)
        refine d_nil ?_
        (try dsimp only)
        exact ⟨by simp, os4, List.sublist_append_left _ _, k _ _ ⟨.vals a w1 m, rfl, ha2, hw, by omega, hm⟩ (hd4.mono (by omega))⟩
theorem sc__law_deed : FnScope ["_law_m", "_law_way", "_law_k"] ["_law_m"] (defScope (top 75)) := ⟨rfl, rfl, rfl, by decide +kernel, rfl, by decide +kernel, by decide +kernel⟩
theorem ok__law_deed {f : Addr} {fd : FuncData} (F : Fun K "_law_deed" "_law_deed" (top 75) f fd) (T : Txt K mg aN aE aR) (k__law_draw : Kn0 P w K mg base "_law_draw" 1 ["_law_m", "_law_top"] R__law_draw) (k__law_pick : Kn0 P w K mg base "_law_pick" 2 ["_law_m", "_law_items"] R__law_pick) (k__law_name : Kn0 P w K mg base "_law_name" 4 ["_law_m"] R__law_name) (k__law_table : Kn0 P w K mg base "_law_table" 4 ["_law_m"] R__law_table) (c_Entry_of : KnC P w K mg base aE "of" 10 (R_Entry_of aN aE)) (k__law_string : Kn0 P w K mg base "_law_string" 3 ["_law_m"] R__law_string) (k__law_drawn_change : Kn0 P w K mg base "_law_drawn_change" 4 ["_law_m"] R__law_drawn_change) : FnOk P w K mg base CX0 11 f fd ["_law_m"] (Pr K (NoX (R__law_deed aN aE))) := by
  have sc := sc__law_deed
  refine okD F sc (fun ds os PP ⟨_, _, _, _, e, _⟩ => by rw [e]; rfl) ?_
  apply Exists.intro
  apply And.intro
  · intro cdv A outer s H hr
    have hu := hr.units
    have hu0 : (A.deeper (envOfC "_law_deed" (defScope (top 75)) s.heap.objs.size f cdv)).units + 1 < cLine := by omega
    exact (pb_cons (sx_set 1 sc.nd (px_callC0 k__law_draw (hr.mono (by decide)) (pxa_cons (px_var 0) (pxa_cons px_int pxa_nil))))
      (pb_cons (sx_if (DL.pt_cmp op_eq l_eq (px_var 1) px_int) (pb_one (sx_ret (px_tup (pxa_cons (px_str [97, 100, 100]) (pxa_cons (px_cmeth c_Entry_of (hr.mono (by decide)) (px_gref T.a_Entry) (pxa_cons (px_callC0 k__law_name (hr.mono (by decide)) (pxa_cons (px_var 0) pxa_nil)) (pxa_cons (px_callC0 k__law_table (hr.mono (by decide)) (pxa_cons (px_var 0) pxa_nil)) pxa_nil))) pxa_nil))))) pb_nil)
      (pb_cons (sx_if (DL.pt_cmp op_eq l_eq (px_var 1) px_int) (pb_one (sx_ret (px_tup (pxa_cons (px_str [100, 101, 108, 101, 116, 101]) (pxa_cons (px_callC0 k__law_string (hr.mono (by decide)) (pxa_cons (px_var 0) pxa_nil)) pxa_nil))))) pb_nil)
      (pb_cons (sx_if (DL.pt_cmp op_eq l_eq (px_var 1) px_int) (pb_one (sx_ret (px_tup (pxa_cons (px_str [109, 111, 100, 105, 102, 121]) (pxa_cons (px_callC0 k__law_string (hr.mono (by decide)) (pxa_cons (px_var 0) pxa_nil)) (pxa_cons (px_ct call_tuple_of l_tupOf T.n_tuple (by decide +kernel) (pxa_cons (px_lc (own := [("_law_k", 2)]) (own1 2) rfl sc.nd (DL.ix_range1 T.n_range (pxa_cons (px_callC0 k__law_draw (hr.mono (by decide)) (pxa_cons (px_var 0) (pxa_cons px_int pxa_nil))) pxa_nil)) (blkOk_by (N := ["_law_m", "_law_way", "_law_k"]) (sc := defScope (top 75)) (by decide +kernel)) (fun _ _ _ _ _ => pg_name (i := 2) sc.nd rfl (Or.inl rfl)) (fun _ _ _ _ _ => pxts_nil) (fun _ _ _ _ _ => (px_callC0 k__law_drawn_change (hr.mono (by decide)) (pxa_cons (px_var 0) pxa_nil)))) pxa_nil)) pxa_nil)))))) pb_nil)
      (pb_one (sx_ret (px_tup (pxa_cons (px_str [114, 101, 110, 97, 109, 101]) (pxa_cons (px_callC0 k__law_string (hr.mono (by decide)) (pxa_cons (px_var 0) pxa_nil)) (pxa_cons (px_callC0 k__law_string (hr.mono (by decide)) (pxa_cons (px_var 0) pxa_nil)) (pxa_cons (px_callC0 k__law_pick (hr.mono (by decide)) (pxa_cons (px_var 0) (pxa_cons (px_lst (pxa_cons px_non (pxa_cons (px_str []) (pxa_cons (px_str [111, 117, 61, 98]) (pxa_cons (px_str [120]) pxa_nil))))) pxa_nil))) (pxa_cons (DL.px_cmp op_eq l_eq (px_callC0 k__law_draw (hr.mono (by decide)) (pxa_cons (px_var 0) (pxa_cons px_int pxa_nil))) px_int) pxa_nil))))))))))))
  · rintro ds os PP ⟨x, p, q, n, rfl, hd, hn, _, k⟩ hx
    refine q_setN ?_
    refine d_draw (r := []) 4 (ev_cons ev_var (ev_cons ev_c ev_nil)) rfl (by rw [List.append_nil]; exact List.Perm.refl _) hd (by omega) ⟨by decide, by decide⟩ fun d os1 ⟨t, ht, ed⟩ hd1 => ?_
    subst ed
    (try dsimp only)
    have hcase : t = 0 ∨ t = 1 ∨ t = 2 ∨ t = 3 := by omega
    rcases hcase with rfl | rfl | rfl | rfl
    · refine q_if (b := true) (evt_eq (ev_test (ev_op ev_var ev_c v_eqI)) (by decide)) (fun _ => ?_) (fun h => by cases h)
      refine d_ret (d_tupC (d_cons ?_))
      refine ev_c _ ?_
      (try dsimp only)
      refine d_cons ?_
      refine d_cons ?_
      refine d_draw (r := []) () (ev_cons ev_var ev_nil) rfl (List.Perm.refl _) hd1 (by omega) trivial fun d os2 ⟨L, ed, hL⟩ hd2 => ?_
      subst ed
      (try dsimp only)
      refine d_cons ?_
      refine d_draw (r := []) () (ev_cons ev_var ev_nil) rfl (List.Perm.refl _) hd2 (by omega) trivial fun d os3 ⟨T0, ed, hT, hTl⟩ hd3 => ?_
      subst ed
      (try dsimp only)
      refine d_nil ?_
      (try dsimp only)
      refine ⟨L, T0, _, rfl, .inl rfl, drawnN_good hL, drawn_good hT (by omega), ?_⟩
      (try dsimp only)
      refine d_nil ?_
      (try dsimp only)
      exact ⟨by simp, os3, List.sublist_append_left _ _, k _ _ ⟨.add ⟨L, sortT T0⟩, rfl, hL, T0, hT, hTl, rfl⟩ (hd3.mono (by omega))⟩
    · refine q_if (b := false) (evt_eq (ev_test (ev_op ev_var ev_c v_eqI)) (by decide)) (fun h => by cases h) fun _ => q_next ?_
      refine q_if (b := true) (evt_eq (ev_test (ev_op ev_var ev_c v_eqI)) (by decide)) (fun _ => ?_) (fun h => by cases h)
      refine d_ret (d_tupC (d_cons ?_))
      refine ev_c _ ?_
      (try dsimp only)
      refine d_cons ?_
      refine d_draw (r := []) () (ev_cons ev_var ev_nil) rfl (List.Perm.refl _) hd1 (by omega) trivial fun d os2 ⟨s, ed, hs⟩ hd2 => ?_
      subst ed
      (try dsimp only)
      refine d_nil ?_
      (try dsimp only)
      exact ⟨by simp, os2, List.sublist_append_left _ _, k _ _ ⟨.del s, rfl, hs⟩ (hd2.mono (by omega))⟩
    · refine q_if (b := false) (evt_eq (ev_test (ev_op ev_var ev_c v_eqI)) (by decide)) (fun h => by cases h) fun _ => q_next ?_
      refine q_if (b := false) (evt_eq (ev_test (ev_op ev_var ev_c v_eqI)) (by decide)) (fun h => by cases h) fun _ => q_next ?_
      refine q_if (b := true) (evt_eq (ev_test (ev_op ev_var ev_c v_eqI)) (by decide)) (fun _ => ?_) (fun h => by cases h)
      refine d_ret (d_tupC (d_cons ?_))
      refine ev_c _ ?_
      (try dsimp only)
      refine d_cons ?_
      refine d_draw (r := []) () (ev_cons ev_var ev_nil) rfl (List.Perm.refl _) hd1 (by omega) trivial fun d os2 ⟨s, ed, hs⟩ hd2 => ?_
      subst ed
      (try dsimp only)
      refine d_cons ?_
      refine d_cb (d_cons (d_lc (d_rng (d_cons ?_))))
      refine d_draw (r := []) 5 (ev_cons ev_var (ev_cons ev_c ev_nil)) rfl (List.Perm.refl _) hd2 (by omega) ⟨by decide, by decide⟩ fun d os3 ⟨t, ht, ed⟩ hd3 => ?_
      subst ed
      (try dsimp only)
      refine d_nil ?_
      (try dsimp only)
      refine ⟨(t : Int), rfl, by omega, by omega, ?_⟩
      have hlen : (intsD 0 ((t : Int)).toNat).length = t := by simp [intsD]
      refine lc_draws (out := fun d => ∃ c, d = chgD c ∧ GoodC c) (r := []) (c := 15) rfl hd3 (by rw [hlen]; omega) (fun i d os' Q' hi hd' kk => ?_) fun l os4 hl ho hd4 => ?_
      · have hil : i < t := by rw [← hlen]; exact (List.getElem?_eq_some_iff.mp hi).1
        refine eg_name _ ?_
        refine d_draw (r := []) () (ev_cons ev_var ev_nil) rfl (List.Perm.refl _) hd' (by omega) trivial fun d2 os2 hm2 hd2 => ?_
        exact kk _ d2 os2 hm2 hd2
      · obtain ⟨m, rfl, hm⟩ := chgs_of ho
        rw [hlen] at hl hd4
        rw [List.length_map] at hl
        (try dsimp only)
        refine d_nil ?_
        (try dsimp only)
        refine v_tupOf (.inl (.inl rfl)) _ ?_
        (try dsimp only)
        refine d_nil ?_
        (try dsimp only)
        exact ⟨by simp, os4, List.sublist_append_left _ _, k _ _ ⟨.mod s m, rfl, hs, by omega, hm⟩ (hd4.mono (by omega))⟩
    · refine q_if (b := false) (evt_eq (ev_test (ev_op ev_var ev_c v_eqI)) (by decide)) (fun h => by cases h) fun _ => q_next ?_
      refine q_if (b := false) (evt_eq (ev_test (ev_op ev_var ev_c v_eqI)) (by decide)) (fun h => by cases h) fun _ => q_next ?_
      refine q_if (b := false) (evt_eq (ev_test (ev_op ev_var ev_c v_eqI)) (by decide)) (fun h => by cases h) fun _ => q_next ?_
      refine d_ret (d_tupC (d_cons ?_))
      refine ev_c _ ?_
      (try dsimp only)
      refine d_cons ?_
      refine d_draw (r := []) () (ev_cons ev_var ev_nil) rfl (List.Perm.refl _) hd1 (by omega) trivial fun d os2 ⟨s, ed, hs⟩ hd2 => ?_
      subst ed
      (try dsimp only)
      refine d_cons ?_
      refine d_draw (r := []) () (ev_cons ev_var ev_nil) rfl (List.Perm.refl _) hd2 (by omega) trivial fun d os3 ⟨l, ed, hl⟩ hd3 => ?_
      subst ed
      (try dsimp only)
      refine d_cons ?_
      refine d_draw (r := []) [.non, .str [], .str [111, 117, 61, 98], .str [120]] (ev_cons ev_var (ev_cons (ev_lst (ev_cons ev_c (ev_cons ev_c (ev_cons ev_c (ev_cons ev_c ev_nil)))) (by decide)) ev_nil)) rfl (List.Perm.refl _) hd3 (by omega) ⟨by simp, by decide⟩ fun d os4 hm hd4 => ?_
      have hu : ∃ u, d = optD u ∧ ∀ z, u = some z → GoodS z := by
        have hgs : ∀ z ∈ [[], [111, 117, 61, 98], [120]], GoodS z := by
          have : ∀ z ∈ [[], [111, 117, 61, 98], [120]], z.length ≤ 100 ∧ ∀ c ∈ z, c < 128 ∧ c ≠ 10 := by decide
          exact fun z hz => ⟨(this z hz).1, (this z hz).2⟩
        simp only [List.mem_cons, List.not_mem_nil, or_false] at hm
        rcases hm with e | e | e | e
        · exact ⟨none, e, fun z h => by cases h⟩
        · exact ⟨some [], e, fun z h => by cases h; exact hgs _ (by simp)⟩
        · exact ⟨some _, e, fun z h => by cases h; exact hgs _ (by simp)⟩
        · exact ⟨some [120], e, fun z h => by cases h; exact hgs _ (by simp)⟩
      obtain ⟨u, rfl, hu⟩ := hu
      (try dsimp only)
      refine d_cons (d_op ?_)
      refine d_draw (r := []) 2 (ev_cons ev_var (ev_cons ev_c ev_nil)) rfl (List.Perm.refl _) hd4 (by omega) ⟨by decide, by decide⟩ fun d os5 ⟨t, ht, ed⟩ hd5 => ?_
      subst ed
      (try dsimp only)
      refine ev_c _ ?_
      (try dsimp only)
      refine v_eqI _ ?_
      (try dsimp only)
      refine d_nil ?_
      (try dsimp only)
      exact ⟨by simp, os5, List.sublist_append_left _ _, k _ _ ⟨.ren s l u (decide ((t : Int) = 1)), rfl, hs, hl, hu⟩ (hd5.mono (by omega))⟩
end
end K86

set_option Elab.async false
set_option linter.all false
set_option maxRecDepth 100000
set_option maxHeartbeats 2000000
namespace K86
open PySem PySem.Spec PyProof PyProof.Rows L2 TL DL
local macro_rules | `(tactic| walk_at "ev") => `(tactic| repeat' (with_reducible first
  | apply ev_c | (apply ev_var; with_unfolding_all exact rfl) | exact v_isStr | apply ev_op | apply ev_test | apply ev_and | apply ev_or | apply ev_not | apply ev_andV | apply ev_orV | apply ev_notV
  | apply ev_ifS | apply ev_ifI | apply ev_chain | apply ev_nil | apply ev_cons | apply ev_tup | apply ev_lst | apply ev_cb | apply ev_m0 | apply ev_m1 | apply ev_m2 | apply ev_sl | apply ev_noPart | apply ev_part | apply ev_revT | apply ev_yes
  | apply v_I0 | apply v_I | apply v_addS | apply v_eqS | apply v_eqI | apply v_eqB | apply v_neS | apply v_neI | apply v_inS | apply v_notInS | apply v_isN0 | apply v_isNS | apply v_isNT | apply v_notN0 | apply v_notNS | apply v_notNT
  | apply v_lenS | apply v_lenL | apply v_lenT | apply v_all | apply v_any | apply v_int1 | apply v_intb | apply v_max2 | apply v_min2 | apply v_join | apply v_split | apply v_part | apply v_lower | apply v_starts | apply v_find | apply v_slS | apply v_slT
  | apply ei_list | apply ei_tup | apply ei_str | apply ei_range1 | apply ei_enumS | apply eg_name | apply eg_nil | apply eg_cons | apply eg_tup
  | (intro _)))

theorem d_call0 {R : DF} {u : DA} {ρ : Rho} {Q : Po D} (h : u ρ ⟨fun ds ρ1 => R ds [] ⟨fun d os' => Q.ok d ρ1, exN⟩, Q.ex⟩) : dCall0 R u ρ Q := h
theorem tab_snoc {T : Tab} {y : List Nat × List (List Nat)} {r : Tab} (nd : ((T ++ y :: r).map Prod.fst).Nodup) : tabD (putT T y.1 y.2) = tabD (T ++ [y]) := by
  have : kix (T.map Prod.fst) y.1 = none := by
    have hn : y.1 ∉ T.map Prod.fst := fun z => by
      rw [List.map_append, List.map_cons] at nd
      exact (List.nodup_append.mp nd).2.2 _ z _ (by simp) rfl
    exact kix_none hn
  unfold putT
  rw [this]
section
variable {P : Program} {w : World} {K : PySem.W.Frag} {mg : Str → Option Value} {base : Heap} {aN aE aR : Addr}
theorem sc__law_deed_lines : FnScope ["_law_one", "_law_table_here", "_law_word", "_law_found", "_law_action", "_law_what", "_law_value_here"] ["_law_one"] (defScope (top 76)) := ⟨rfl, rfl, rfl, by decide +kernel, rfl, by decide +kernel, by decide +kernel⟩
theorem ok__law_deed_lines {f : Addr} {fd : FuncData} (F : Fun K "_law_deed_lines" "_law_deed_lines" (top 76) f fd) (T : Txt K mg aN aE aR) (p_Entry_words : KnP P w K mg base CX0 aE "words" 1 ["self"] (NoX (R_Entry_words aN aE))) (p_Entry_name : KnP P w K mg base CX0 aE "name" 1 ["self"] (NoX (R_Entry_name aN aE))) (p_Name_text : KnP P w K mg base CX0 aN "text" 1 ["self"] (NoX (R_Name_text aN))) (s_Entry_getitem : KnS P w K mg base aE "__getitem__" 1 ["self", "word"] (R_Entry_getitem aN aE)) (k__law_entry_lines : Kn0 P w K mg base "_law_entry_lines" 1 ["_law_head", "_law_name_here", "_law_table_here"] R__law_entry_lines) : FnOk P w K mg base CX0 3 f fd ["_law_one"] (Pr K (NoX (R__law_deed_lines aN aE))) := by
  have sc := sc__law_deed_lines
  refine okD F sc (fun ds os PP ⟨_, e, _⟩ => by rw [e]; rfl) ?_
  apply Exists.intro
  apply And.intro
  · intro cdv A outer s H hr
    have hu := hr.units
    have hu0 : (A.deeper (envOfC "_law_deed_lines" (defScope (top 76)) s.heap.objs.size f cdv)).units + 1 < cLine := by omega
    exact (pb_cons (sx_if (DL.pt_cmp op_eq l_eq (px_ix L2.ix_tup l_ixT (px_var 0) px_int) (px_str [97, 100, 100])) (pb_cons (sx_set 1 sc.nd px_dictC)
      (pb_cons (sx_for PassesOwn.never rfl (DL.ix_tup (px_prop_0 p_Entry_words (hr.mono (by decide)) (px_ix L2.ix_tup l_ixT (px_var 0) px_int))) (gx_name 2 sc.nd) (pb_one (sx_dput hu0 (px_var 1) (px_var 2) (px_getOwn s_Entry_getitem (hr.mono (by decide)) (px_ix L2.ix_tup l_ixT (px_var 0) px_int) (px_var 2)))))
      (pb_one (sx_ret (px_call0 k__law_entry_lines (hr.mono (by decide)) (pxa_cons (px_str [97, 100, 100, 58, 32]) (pxa_cons (px_prop_0 p_Name_text (hr.mono (by decide)) (px_prop_0 p_Entry_name (hr.mono (by decide)) (px_ix L2.ix_tup l_ixT (px_var 0) px_int))) (pxa_cons (px_freeze (px_var 1)) pxa_nil)))))))) pb_nil)
      (pb_cons (sx_set 3 sc.nd (px_lstC (pxa_cons (px_op op_add_str l_addS (px_op op_add_str l_addS (px_ix L2.ix_tup l_ixT (px_var 0) px_int) (px_str [58, 32])) (px_ix L2.ix_tup l_ixT (px_var 0) px_int)) pxa_nil)))
      (pb_cons (sx_if (DL.pt_cmp op_eq l_eq (px_ix L2.ix_tup l_ixT (px_var 0) px_int) (px_str [109, 111, 100, 105, 102, 121])) (pb_one (sx_for PassesOwn.never rfl (DL.ix_tup (px_ix L2.ix_tup l_ixT (px_var 0) px_int)) (gx_tup (n := 3) rfl (gxs_cons (gx_name 4 sc.nd) (gxs_cons (gx_name 2 sc.nd) (gxs_cons (gx_name 5 sc.nd) gxs_nil)))) (pb_one (sx_if (DL.pt_cmp op_eq l_eq (px_var 4) (px_str [105, 110, 99, 114, 101, 109, 101, 110, 116])) (pb_one (sx_expr (px_append (px_var 3) (px_op op_add_str l_addS (px_op op_add_str l_addS (px_op op_add_str l_addS (px_str [105, 110, 99, 114, 101, 109, 101, 110, 116, 32]) (px_var 2)) (px_str [32])) (px_ct call_str_int l_strI T.n_str (by decide +kernel) (pxa_cons (px_var 5) pxa_nil)))))) (pb_one (sx_set 3 sc.nd (px_catC (px_op op_catL l_catL (px_var 3) (px_lst (pxa_cons (px_op op_add_str l_addS (px_op op_add_str l_addS (px_var 4) (px_str [32])) (px_var 2)) pxa_nil))) (px_lc (own := [("_law_value_here", 6)]) (own1 6) rfl sc.nd (DL.ix_tup (px_var 5)) (blkOk_by (N := ["_law_one", "_law_table_here", "_law_word", "_law_found", "_law_action", "_law_what", "_law_value_here"]) (sc := defScope (top 76)) (by decide +kernel)) (fun _ _ _ _ _ => pg_name (i := 6) sc.nd rfl (Or.inl rfl)) (fun _ _ _ _ _ => pxts_nil) (fun _ _ _ _ _ => (px_op op_add_str l_addS (px_str [61, 32]) (px_var 6))))))))))) (pb_one (sx_if (DL.pt_cmp op_eq l_eq (px_ix L2.ix_tup l_ixT (px_var 0) px_int) (px_str [114, 101, 110, 97, 109, 101])) (pb_cons (sx_expr (px_append (px_var 3) (px_op op_add_str l_addS (px_str [108, 101, 97, 102, 58, 32]) (px_ix L2.ix_tup l_ixT (px_var 0) px_int))))
      (pb_cons (sx_if (DL.pt_cmp op_notN l_notN (px_ix L2.ix_tup l_ixT (px_var 0) px_int) px_non) (pb_one (sx_expr (px_append (px_var 3) (px_op op_add_str l_addS (px_str [117, 110, 100, 101, 114, 58, 32]) (px_ix L2.ix_tup l_ixT (px_var 0) px_int))))) pb_nil)
      (pb_one (sx_if (pt_v (px_ix L2.ix_tup l_ixT (px_var 0) px_int)) (pb_one (sx_expr (px_append (px_var 3) (px_str [107, 101, 101, 112, 58, 32, 84, 82, 85, 69])))) pb_nil)))) pb_nil)))
      (pb_one (sx_ret (px_freeze (px_var 3)))))))
  · rintro ds os PP ⟨d, rfl, hg, k⟩ hx
    obtain ⟨hdl, hok⟩ := deed_lines_ok hg
    cases d with
    | add x =>
      obtain ⟨he, hso, hc, hn⟩ := drawnE_good hg
      have hlen := he.tb.len
      refine q_if (b := true) (evt_eq (ev_test (ev_op (ev_op ev_var ev_c (v_ixT (atI_nat (j := 0) rfl))) ev_c v_eqS)) (by decide)) (fun _ => ?_) (fun h => by cases h)
      refine q_setN ?_
      intro fa hfa
      (try dsimp only)
      apply q_seq
      refine s_for (ei_tup (ds := strsD (x.T.map Prod.fst)) (ev_prop x (ev_op ev_var ev_c (v_ixT (atI_nat (j := 1) rfl))) (.inl rfl) rfl trivial)) (fun i ρ => ∃ (T r : Tab) (s2 s3 s4 s5 s6 : Option D), x.T = T ++ r ∧ T.length = i ∧ ρ = ⟨[some (deedD aN aE (.add x)), some (.raw (.ref fa)), s2, s3, s4, s5, s6], ⟨fa, tabD T⟩ :: os, fun a => a = fa ∨ False⟩) ⟨[], x.T, none, none, none, none, none, rfl, rfl, rfl⟩ ?_ ?_
      · rintro i d ρ hd ⟨T, r, s2, s3, s4, s5, s6, hT, hTl, rfl⟩
        cases r with
        | nil =>
          unfold strsD at hd
          rw [List.getElem?_map, List.getElem?_map, hT, List.append_nil, List.getElem?_eq_none (by omega)] at hd
          cases hd
        | cons y r =>
          have hy : x.T[i]? = some y := by rw [hT, List.getElem?_append_right (by omega), hTl, Nat.sub_self]; rfl
          have hd2 : d = .str y.1 := by
            unfold strsD at hd
            rw [List.getElem?_map, List.getElem?_map, hy] at hd
            cases hd; rfl
          subst hd2
          have hyT := List.mem_of_getElem? hy
          have hnd := he.tb.nd
          rw [hT] at hnd
          refine eg_name _ ?_
          refine (evd_eq (ev_getO (x, y.1) (ev_op ev_var ev_c (v_ixT (atI_nat (j := 1) rfl))) ev_var (.inl rfl) rfl trivial) (b := tupS y.2) ?_) _ ?_
          · show tupS (look x.T y.1) = _
            rw [look_mem he.tb.nd hyT]
          refine (ev_var : EvD (dVar 1) _ (.raw (.ref fa))) _ ?_
          refine (ev_var : EvD (dVar 2) _ (.str y.1)) _ ?_
          refine ⟨fa, [], os, T.map Prod.fst, T.map fun x => tupS x.2, y.1, rfl, rfl, rfl, ?_, ?_, T ++ [y], r, some (.str y.1), s3, s4, s5, s6, by rw [hT]; simp, by simp [hTl], ?_⟩
          · rw [List.map_append] at hnd
            exact (List.nodup_append.mp hnd).1
          · rw [List.length_map]
            have := congrArg List.length hT
            rw [List.length_append, List.length_cons] at this
            omega
          · have := put_tab T y.1 y.2
            rw [tab_snoc hnd] at this
            rw [this]
            rfl
      · rintro ρ ⟨T, r, s2, s3, s4, s5, s6, hT, hTl, rfl⟩
        have hr : r = [] := by
          rw [strs_len, List.length_map] at hTl
          have := congrArg List.length hT
          rw [List.length_append] at this
          exact List.eq_nil_of_length_eq_zero (by omega)
        subst hr
        rw [List.append_nil] at hT
        subst hT
        (try dsimp only)
        refine d_ret (d_call0 (d_cons ?_))
        refine ev_c _ ?_
        (try dsimp only)
        refine d_cons ?_
        refine (ev_prop x.L (ev_prop x (ev_op ev_var ev_c (v_ixT (atI_nat (j := 1) rfl))) (.inl rfl) rfl trivial) (.inl rfl) rfl trivial) _ ?_
        (try dsimp only)
        refine d_cons ?_
        refine (ev_var : EvD (dVar 1) _ (.raw (.ref fa))) _ ⟨fa, [], tabD x.T, os, rfl, rfl, .inl rfl, ?_⟩
        (try dsimp only)
        refine d_nil ?_
        (try dsimp only)
        refine ⟨(hADD, x), rfl, ⟨by show hADD.length ≤ 100; decide, he⟩, os, List.Sublist.refl _, ?_⟩
        show PP.ok (.lst (strsD ((hADD ++ nameText x.L) :: linesOf (sortT x.T)))) os
        rw [hso]
        exact k
    | del s =>
      have hsl := hg.sz
      refine q_if (b := false) (evt_eq (ev_test (ev_op (ev_op ev_var ev_c (v_ixT (atI_nat (j := 0) rfl))) ev_c v_eqS)) (by decide)) (fun h => by cases h) fun _ => q_next ?_
      refine q_lstC (ds := [.str (hDEL ++ s)]) (ev_cons (evd_eq (ev_op (ev_op (ev_op ev_var ev_c (v_ixT (atI_nat (j := 0) rfl))) ev_c (v_addS (s := cDEL) (by decide))) (ev_op ev_var ev_c (v_ixT (atI_nat (j := 1) rfl))) (v_addS (by simp only [List.length_append, List.length_cons, List.length_nil]; have : cDEL.length = 6 := rfl; omega))) rfl) ev_nil) (by simp) fun fa hfa => ?_
      refine q_if (b := false) (evt_eq (ev_test (ev_op (ev_op ev_var ev_c (v_ixT (atI_nat (j := 0) rfl))) ev_c v_eqS)) (by decide)) (fun h => by cases h) fun _ => ?_
      refine s_if (b := false) (evt_eq (ev_test (ev_op (ev_op ev_var ev_c (v_ixT (atI_nat (j := 0) rfl))) ev_c v_eqS)) (by decide)) (fun h => by cases h) fun _ => s_next ?_
      (try dsimp only)
      refine d_ret ?_
      refine (ev_var : EvD (dVar 3) _ (.raw (.ref fa))) _ ?_
      exact ⟨fa, [], _, os, rfl, rfl, .inl rfl, os, List.Sublist.refl _, k⟩
    | mod s cs =>
      obtain ⟨hs, hcs, hgc⟩ := hg
      have hsl := hs.sz
      refine q_if (b := false) (evt_eq (ev_test (ev_op (ev_op ev_var ev_c (v_ixT (atI_nat (j := 0) rfl))) ev_c v_eqS)) (by decide)) (fun h => by cases h) fun _ => q_next ?_
      refine q_lstC (ds := [.str (hMOD ++ s)]) (ev_cons (evd_eq (ev_op (ev_op (ev_op ev_var ev_c (v_ixT (atI_nat (j := 0) rfl))) ev_c (v_addS (s := cMOD) (by decide))) (ev_op ev_var ev_c (v_ixT (atI_nat (j := 1) rfl))) (v_addS (by simp only [List.length_append, List.length_cons, List.length_nil]; have : cMOD.length = 6 := rfl; omega))) rfl) ev_nil) (by simp) fun fa0 hfa => ?_
      refine q_if (b := true) (evt_eq (ev_test (ev_op (ev_op ev_var ev_c (v_ixT (atI_nat (j := 0) rfl))) ev_c v_eqS)) (by decide)) (fun _ => ?_) (fun h => by cases h)
      refine s_for (ei_tup (ds := cs.map chgD) (ev_op ev_var ev_c (v_ixT (atI_nat (j := 2) rfl)))) (fun i ρ => ∃ (fa : Addr) (junk : List Cell) (lo : Addr → Prop) (s1 s2 s4 s5 s6 : Option D), lo fa ∧ ρ = ⟨[some (deedD aN aE (.mod s cs)), s1, s2, some (.raw (.ref fa)), s4, s5, s6], ⟨fa, .lst (strsD ((hMOD ++ s) :: (cs.take i).flatMap chgLines))⟩ :: (junk ++ os), lo⟩) ⟨fa0, [], _, none, none, none, none, none, .inl rfl, rfl⟩ ?_ ?_
      · rintro i d ρ hd ⟨fa, junk, lo, s1, s2, s4, s5, s6, hlo, rfl⟩
        rw [List.getElem?_map] at hd
        cases hc : cs[i]? with
        | none => rw [hc] at hd; cases hd
        | some c =>
          rw [hc] at hd
          cases hd
          have hcm := List.mem_of_getElem? hc
          have hgcc := hgc c hcm
          have hil : i < cs.length := (List.getElem?_eq_some_iff.mp hc).1
          have hf1 := flat_len (cs := cs.take i) fun z hz => hgc z (List.mem_of_mem_take hz)
          have hf2 := (chg_lines hgcc).1
          rw [List.length_take] at hf1
          have etk : strsD ((hMOD ++ s) :: (cs.take i).flatMap chgLines) ++ strsD (chgLines c) = strsD ((hMOD ++ s) :: (cs.take (i + 1)).flatMap chgLines) := by
            rw [← strs_app, List.take_add_one, hc, List.flatMap_append]
            simp
          have hll : (strsD ((hMOD ++ s) :: (cs.take i).flatMap chgLines)).length ≤ 100 := by rw [strs_len, List.length_cons]; omega
          cases c with
          | inc w1 i1 =>
            obtain ⟨hw, hi⟩ := hgcc
            have hwl := word_len hw
            have hil := hi.len
            have h9 : cINC.length = 9 := rfl
            refine eg_tup (ds := [.str cINC, .str w1, .int i1]) (eg_cons eg_name (eg_cons eg_name (eg_cons eg_name eg_nil))) rfl _ ?_
            refine s_if (b := true) (evt_eq (ev_test (ev_op ev_var ev_c v_eqS)) (by decide)) (fun _ => ?_) (fun h => by cases h)
            refine s_append (l := []) (r := junk ++ os) (ds := strsD ((hMOD ++ s) :: (cs.take i).flatMap chgLines)) (d := .str (cINC ++ (32 :: (w1 ++ (32 :: itx i1))))) ev_var (evd_eq (ev_op (ev_op (ev_op ev_c ev_var (v_addS (s := cINC ++ [32]) ?_)) ev_c (v_addS ?_)) (ev_cb (ev_cons ev_var ev_nil) (v_strI hi.sz)) (v_addS ?_)) ?_) rfl (by omega) ?_
            · simp only [List.length_append, List.length_cons, List.length_nil]; omega
            · simp only [List.length_append, List.length_cons, List.length_nil]; omega
            · simp only [List.length_append, List.length_cons, List.length_nil]; omega
            · simp
            · have e : strsD ((hMOD ++ s) :: (cs.take i).flatMap chgLines) ++ [D.str (cINC ++ (32 :: (w1 ++ (32 :: itx i1))))] = strsD ((hMOD ++ s) :: (cs.take (i + 1)).flatMap chgLines) := etk
              rw [e]
              exact ⟨fa, junk, lo, s1, some (.str w1), some (.str cINC), some (.int i1), s6, hlo, rfl⟩
          | vals a w1 vs =>
            obtain ⟨ha, hw, hvs, hv⟩ := hgcc
            have hwl := word_len hw
            have hal : a.length ≤ 7 ∧ a ≠ cINC := by
              have : ∀ a ∈ [cADD, cDEL, cREP], a.length ≤ 7 ∧ a ≠ cINC := by decide
              exact this a ha
            refine eg_tup (ds := [.str a, .str w1, tupS vs]) (eg_cons eg_name (eg_cons eg_name (eg_cons eg_name eg_nil))) rfl _ ?_
            refine s_if (b := false) (evt_eq (ev_test (ev_op ev_var ev_c v_eqS)) (decide_eq_false hal.2)) (fun h => by cases h) fun _ => ?_
            refine d_setN ?_
            refine (ev_op ev_var (ev_lst (ds := [.str (a ++ [32] ++ w1)]) (ev_cons (ev_op (ev_op ev_var ev_c (v_addS ?_)) ev_var (v_addS ?_)) ev_nil) (by simp)) (v_catL (sees_cell (l := []) rfl) (.inl rfl) ?_)) _ ?_
            · simp only [List.length_cons, List.length_nil]; omega
            · simp only [List.length_append, List.length_cons, List.length_nil]; omega
            · simp only [List.length_cons, List.length_nil]; omega
            (try dsimp only)
            refine (ev_lc' (l := vs) (enc := D.str) (g := fun v => .str (hVAL ++ v)) (ei_tup ev_var) rfl (by omega) fun v hv2 => ⟨_, eg_name, rfl, rfl, ev_op ev_c ev_var (v_addS (s := hVAL) (by
              have := (hv v hv2).sz
              have : hVAL.length = 2 := rfl
              omega))⟩) _ ?_
            refine ⟨_, _, .inl rfl, .inl rfl, ?_, fun p2 hp2 => ?_⟩
            · rw [List.length_append, List.length_map]; simp only [List.length_cons, List.length_nil]; omega
            · have e : (strsD ((hMOD ++ s) :: (cs.take i).flatMap chgLines) ++ [D.str (a ++ [32] ++ w1)]) ++ vs.map (fun v => D.str (hVAL ++ v)) = strsD ((hMOD ++ s) :: (cs.take (i + 1)).flatMap chgLines) := by
                rw [← etk, List.append_assoc]
                congr 1
                unfold chgLines strsD
                simp only [List.map_cons, List.map_map, List.cons_append, List.nil_append, List.append_assoc]
                rfl
              rw [e]
              exact ⟨p2, ⟨fa, .lst (strsD ((hMOD ++ s) :: (cs.take i).flatMap chgLines))⟩ :: junk, _, s1, some (.str w1), some (.str a), some (tupS vs), s6, .inl rfl, rfl⟩
      · rintro ρ ⟨fa, junk, lo, s1, s2, s4, s5, s6, hlo, rfl⟩
        have e : cs.take (cs.map chgD).length = cs := by rw [List.length_map, List.take_length]
        rw [e]
        (try dsimp only)
        refine d_ret ?_
        refine (ev_var : EvD (dVar 3) _ (.raw (.ref fa))) _ ?_
        exact ⟨fa, [], _, junk ++ os, rfl, rfl, hlo, os, List.sublist_append_right _ _, k⟩
    | ren s l u kp =>
      obtain ⟨hs, hl, hu2⟩ := hg
      have hsl := hs.sz
      have hll := hl.sz
      refine q_if (b := false) (evt_eq (ev_test (ev_op (ev_op ev_var ev_c (v_ixT (atI_nat (j := 0) rfl))) ev_c v_eqS)) (by decide)) (fun h => by cases h) fun _ => q_next ?_
      refine q_lstC (ds := [.str (hREN ++ s)]) (ev_cons (evd_eq (ev_op (ev_op (ev_op ev_var ev_c (v_ixT (atI_nat (j := 0) rfl))) ev_c (v_addS (s := cREN) (by decide))) (ev_op ev_var ev_c (v_ixT (atI_nat (j := 1) rfl))) (v_addS (by simp only [List.length_append, List.length_cons, List.length_nil]; have : cREN.length = 6 := rfl; omega))) rfl) ev_nil) (by simp) fun fa hfa => ?_
      refine q_if (b := false) (evt_eq (ev_test (ev_op (ev_op ev_var ev_c (v_ixT (atI_nat (j := 0) rfl))) ev_c v_eqS)) (by decide)) (fun h => by cases h) fun _ => ?_
      refine s_if (b := true) (evt_eq (ev_test (ev_op (ev_op ev_var ev_c (v_ixT (atI_nat (j := 0) rfl))) ev_c v_eqS)) (by decide)) (fun _ => ?_) (fun h => by cases h)
      refine q_append (l := []) (r := os) (d := .str (hLEAF ++ l)) ev_var (ev_op ev_c (ev_op ev_var ev_c (v_ixT (atI_nat (j := 2) rfl))) (v_addS (s := hLEAF) (by have : hLEAF.length = 6 := rfl; omega))) rfl (by simp) ?_
      have tail : ∀ (ls : List (List Nat)) (ρ : Rho) (Q : PoS), ls.length ≤ 20 → ρ.sl[0]? = some (some (deedD aN aE (.ren s l u kp))) → ρ.sl[3]? = some (some (.raw (.ref fa))) → ρ.os = ⟨fa, .lst (strsD ls)⟩ :: os → Q.nx ⟨ρ.sl, ⟨fa, .lst (strsD (ls ++ keepL kp))⟩ :: os, ρ.lo⟩ → dIfS (dTest (dOp rdIxT (dVar 0) (dC (.int 4)))) (dDrop (dAppend (dVar 3) (dC (.str lKEEP)))) dNext ρ Q := fun ls ρ Q hls h1 h5 ho q => by
        cases kp with
        | true =>
          refine s_if (b := true) (ev_test (ev_op (ev_var (h := h1)) ev_c (v_ixT (atI_nat (j := 4) rfl)))) (fun _ => ?_) (fun h => by cases h)
          refine s_append (l := []) (r := os) (ds := strsD ls) (d := .str lKEEP) (ev_var (h := h5)) ev_c ho (by rw [strs_len]; omega) ?_
          have e : strsD ls ++ [D.str lKEEP] = strsD (ls ++ keepL true) := by simp [strsD, keepL]
          rw [e]
          exact q
        | false =>
          refine s_if (b := false) (ev_test (ev_op (ev_var (h := h1)) ev_c (v_ixT (atI_nat (j := 4) rfl)))) (fun h => by cases h) (fun _ => s_next ?_)
          have e : ls ++ keepL false = ls := by simp [keepL]
          rw [e] at q
          have : ρ = ⟨ρ.sl, ⟨fa, .lst (strsD ls)⟩ :: os, ρ.lo⟩ := by rw [← ho]
          rw [this]
          exact q
      cases u with
      | none =>
        refine q_if (b := false) (ev_test (ev_op (ev_op ev_var ev_c (v_ixT (atI_nat (j := 3) rfl))) ev_c v_notN0)) (fun h => by cases h) fun _ => q_next ?_
        refine tail [hREN ++ s, hLEAF ++ l] _ _ (by simp) rfl rfl rfl ?_
        (try dsimp only)
        refine d_ret ?_
        refine (ev_var : EvD (dVar 3) _ (.raw (.ref fa))) _ ?_
        exact ⟨fa, [], _, os, rfl, rfl, .inl rfl, os, List.Sublist.refl _, k⟩
      | some u =>
        have hul := (hu2 u rfl).sz
        refine q_if (b := true) (ev_test (ev_op (ev_op ev_var ev_c (v_ixT (atI_nat (j := 3) rfl))) ev_c (v_notN (b := false) rfl))) (fun _ => ?_) (fun h => by cases h)
        refine s_append (l := []) (r := os) (ds := strsD [hREN ++ s, hLEAF ++ l]) (d := .str (hUND ++ u)) ev_var (ev_op ev_c (ev_op ev_var ev_c (v_ixT (atI_nat (j := 3) rfl))) (v_addS (s := hUND) (by have : hUND.length = 7 := rfl; omega))) rfl (by simp [strsD]) ?_
        (try dsimp only)
        refine tail [hREN ++ s, hLEAF ++ l, hUND ++ u] _ _ (by simp) rfl rfl rfl ?_
        (try dsimp only)
        refine d_ret ?_
        refine (ev_var : EvD (dVar 3) _ (.raw (.ref fa))) _ ?_
        exact ⟨fa, [], _, os, rfl, rfl, .inl rfl, os, List.Sublist.refl _, k⟩
theorem sc__law_script_lines : FnScope ["_law_some", "_law_found", "_law_one"] ["_law_some"] (defScope (top 77)) := ⟨rfl, rfl, rfl, by decide +kernel, rfl, by decide +kernel, by decide +kernel⟩
theorem ok__law_script_lines {f : Addr} {fd : FuncData} (F : Fun K "_law_script_lines" "_law_script_lines" (top 77) f fd) (T : Txt K mg aN aE aR) (k__law_deed_lines : Kn0 P w K mg base "_law_deed_lines" 3 ["_law_one"] (R__law_deed_lines aN aE)) : FnOk P w K mg base CX0 4 f fd ["_law_some"] (Pr K (NoX (R__law_script_lines aN aE))) := by
  have sc := sc__law_script_lines
  refine okD F sc (fun ds os PP ⟨_, e, _⟩ => by rw [e]; rfl) ?_
  apply Exists.intro
  apply And.intro
  · intro cdv A outer s H hr
    have hu := hr.units
    have hu0 : (A.deeper (envOfC "_law_script_lines" (defScope (top 77)) s.heap.objs.size f cdv)).units + 1 < cLine := by omega
    exact (pb_cons (sx_set 1 sc.nd (px_lst pxa_nil))
      (pb_cons (sx_for PassesOwn.never rfl (DL.ix_tup (px_var 0)) (gx_name 2 sc.nd) (pb_one (sx_set 1 sc.nd (px_op op_catL l_catL (px_op op_catL l_catL (px_var 1) (px_if (DL.pt_cmp (op_neLE (Nat.lt_of_succ_lt hu0)) l_LE (px_var 1) (px_lst pxa_nil)) (px_lst (pxa_cons (px_str []) pxa_nil)) (px_lst pxa_nil))) (px_call0 k__law_deed_lines (hr.mono (by decide)) (pxa_cons (px_var 2) pxa_nil))))))
      (pb_one (sx_ret (px_var 1)))))
  · rintro ds os PP ⟨dl, rfl, hg, k⟩ hx
    have h6 := hg.len
    have hcnt : ∀ i, (scrLines (dl.take i)).length ≤ 22 * 6 := fun i => by
      have := scr_count (ds := dl.take i) fun d hd => hg.ok d (List.mem_of_mem_take hd)
      rw [List.length_take] at this
      omega
    refine q_set (d := .lst []) (ev_lst ev_nil (by simp)) eg_name ?_
    apply q_seq
    refine s_for (ei_tup (ds := dl.map (deedD aN aE)) ev_var) (fun i ρ => ∃ (s2 : Option D), ρ = ⟨[some (.tup (dl.map (deedD aN aE))), some (.lst (strsD (scrLines (dl.take i)))), s2], os, fun _ => False⟩) ⟨none, rfl⟩ ?_ ?_
    · rintro i d ρ hd ⟨s2, rfl⟩
      rw [List.getElem?_map] at hd
      cases hc : dl[i]? with
      | none => rw [hc] at hd; cases hd
      | some c =>
        rw [hc] at hd
        cases hd
        have hgd := hg.ok c (List.mem_of_getElem? hc)
        have hil : i < dl.length := (List.getElem?_eq_some_iff.mp hc).1
        have hdl := (deed_lines_ok hgd).1
        have h1 := hcnt i
        refine eg_name _ ?_
        have etk : dl.take (i + 1) = dl.take i ++ [c] := by rw [List.take_add_one, hc]; rfl
        refine s_set (d := .lst (strsD (scrLines (dl.take (i + 1))))) (evd_eq (ev_op (ev_op ev_var (ev_ifG (b := !(strsD (scrLines (dl.take i))).isEmpty) (x := .lst (strsD [[]])) (y := .lst []) (ev_test (ev_op ev_var (ev_lst ev_nil (by simp)) (v_LE (.inl rfl) (.inl rfl)))) (fun _ => ev_lst (ds := strsD [[]]) (ev_cons ev_c ev_nil) (by simp [strsD])) (fun _ => ev_lst ev_nil (by simp))) (v_catL (ys := if (!(strsD (scrLines (dl.take i))).isEmpty) = true then strsD [[]] else []) (.inl rfl) (.inl (by split <;> rfl)) ?_)) (ev_fn c (ev_cons ev_var ev_nil) hgd) (v_catL (.inl rfl) (.inl rfl) ?_)) ?_) eg_name ⟨some (deedD aN aE c), rfl⟩
        · rw [strs_len]; split <;> simp [strsD] <;> omega
        · rw [List.length_append, strs_len, strs_len]; split <;> simp [strsD] <;> omega
        · rw [etk, scr_snoc, strs_app]
          congr 2
          unfold pfx
          by_cases h0 : dl.take i = []
          · rw [if_pos h0, h0]; rfl
          · rw [if_neg h0, strs_app]
            obtain ⟨l, r, hlr⟩ := List.exists_cons_of_ne_nil (scrLines_ne h0)
            rw [hlr]
            rfl
    · rintro ρ ⟨s2, rfl⟩
      have e : dl.take (dl.map (deedD aN aE)).length = dl := by rw [List.length_map, List.take_length]
      rw [e]
      (try dsimp only)
      exact s_ret ev_var ⟨os, List.Sublist.refl _, k⟩
end
end K86

set_option Elab.async false
set_option linter.all false
set_option maxRecDepth 100000
set_option maxHeartbeats 2000000
namespace K86
open PySem PySem.Spec PyProof PyProof.Rows L2 TL DL
local macro_rules | `(tactic| walk_at "ev") => `(tactic| repeat' (with_reducible first
  | apply ev_c | (apply ev_var; with_unfolding_all exact rfl) | exact v_isStr | apply ev_op | apply ev_test | apply ev_and | apply ev_or | apply ev_not | apply ev_andV | apply ev_orV | apply ev_notV
  | apply ev_ifS | apply ev_ifI | apply ev_chain | apply ev_nil | apply ev_cons | apply ev_tup | apply ev_lst | apply ev_cb | apply ev_m0 | apply ev_m1 | apply ev_m2 | apply ev_sl | apply ev_noPart | apply ev_part | apply ev_revT | apply ev_yes
  | apply v_I0 | apply v_I | apply v_addS | apply v_eqS | apply v_eqI | apply v_eqB | apply v_neS | apply v_neI | apply v_inS | apply v_notInS | apply v_isN0 | apply v_isNS | apply v_isNT | apply v_notN0 | apply v_notNS | apply v_notNT
  | apply v_lenS | apply v_lenL | apply v_lenT | apply v_all | apply v_any | apply v_int1 | apply v_intb | apply v_max2 | apply v_min2 | apply v_join | apply v_split | apply v_part | apply v_lower | apply v_starts | apply v_find | apply v_slS | apply v_slT
  | apply ei_list | apply ei_tup | apply ei_str | apply ei_range1 | apply ei_enumS | apply eg_name | apply eg_nil | apply eg_cons | apply eg_tup
  | (intro _)))

def TH0 : Tab := [([110, 97, 109, 101], [[99, 110, 61, 98], [110, 97, 109, 101, 58, 32]]), ([97, 100, 100], [[58, 32], [32]]), ([122, 122], [[61, 32, 120]])]
def SH0 : Tab := [([97, 100, 100], [[58, 32], [32]]), ([110, 97, 109, 101], [[99, 110, 61, 98], [110, 97, 109, 101, 58, 32]]), ([122, 122], [[61, 32, 120]])]
def DUE0 : List Nat := [110, 97, 109, 101, 58, 32, 10, 97, 100, 100, 58, 32, 58, 32, 10, 97, 100, 100, 58, 32, 32, 10, 110, 97, 109, 101, 58, 32, 99, 110, 61, 98, 10, 110, 97, 109, 101, 58, 32, 110, 97, 109, 101, 58, 32, 10, 122, 122, 58, 32, 61, 32, 120]

theorem unL_ent (aN aE : Addr) (L : List (List Pr2)) (T : Tab) : unL (entObj aN aE L T) = entObj aN aE L T := by
  unfold entObj keyD
  rw [unL, unLs, unLs, unLs, unLs, unL_nameObj, unL_tab, unL, unLs, unLs, unLs, unL, unL, unL_map unL_row]
  all_goals (intros; rename_i h; cases h)
theorem word_chars {w : List Nat} (h : isWordL w = true) : charsOk w := fun c hc => by
  have := word_letters h c hc
  have h2 : ∀ c ∈ LETTERS, c < 128 := by decide
  exact h2 c this
theorem toPy_tupS (l : List (List Nat)) : toPy (tupS l) = some (tupP l) := by
  show (toPys (strsD l)).map PyData.tuple = _
  rw [toPy_strs]; rfl
theorem sh0 : sortT TH0 = SH0 := by
  have h : sortK (TH0.map Prod.fst) = SH0.map Prod.fst := (sorted_is (by decide) (by decide +kernel)).symm
  unfold sortT
  rw [h]
  decide
theorem gt0 : GoodTab TH0 := ⟨by decide, by decide, by decide, by decide, by decide, by decide, by unfold charsOk; decide, by decide⟩
theorem goodN0 : GoodName [] := ⟨fun _ h => (by cases h), by decide, by decide⟩
theorem gtE : GoodTab [] := ⟨by decide, by decide, by decide, by decide, by decide, by decide, by unfold charsOk; decide, by decide⟩
theorem ev_cm {aN aE : Addr} {ρ : Rho} {u : DA} {d : D} (L : List (List Pr2)) (T : Tab) (h : EvA u ρ [d, tabD T]) (hd : nameOr aN L d) (hg : GoodName L) (hT : GoodTab T) : EvD (fun ρ P => u ρ ⟨fun ds ρ1 => R_Entry_of aN aE (.raw (.ref aE) :: ds) [] ⟨fun d _ => P.ok d ρ1, exN⟩, P.ex⟩) ρ (entObj aN aE L (sortT T)) :=
  fun P p => h _ ⟨L, T, d, rfl, hd, hg, hT, p⟩
theorem ev_mk0 {aN aE : Addr} {ρ : Rho} {u : DA} {d : D} (L : List (List Pr2)) (h : EvA u ρ [d]) (hd : nameOr aN L d) (hg : GoodName L) : EvD (dMakeK0 aE ["self", "entry_name"] (R_Entry_init aN aE) u) ρ (entObj aN aE L (sortT [])) :=
  fun P p => h _ ⟨rfl, fun q hq => ⟨L, [], q, d, rfl, hd, hg, gtE, rfl, rfl, _, _, [], rfl, p⟩⟩
theorem okEnt_of {x : Ent2} (h : GoodTab x.T) (hn : charsOk (nameText x.L)) : OkEnt x := ⟨hn, fun y hy => word_chars (h.wd y hy), h.ch⟩
theorem eqEnt_self (x : Ent2) : eqEnt x x = true := by unfold eqEnt; simp
theorem rd_nl {x : Ent2} (h : GoodTab x.T) (hn : 10 ∉ nameText x.L) : ∀ l ∈ allLines x, 10 ∉ l := fun l hl z => by
  unfold allLines at hl
  rcases List.mem_cons.mp hl with e | hl
  · rw [e] at z
    rcases List.mem_append.mp z with z | z
    · exact absurd z (by decide)
    · exact hn z
  · obtain ⟨y, hy, hl⟩ := List.mem_flatMap.mp hl
    obtain ⟨v, hv, e⟩ := List.mem_map.mp hl
    rw [← e] at z
    unfold lineOf at z
    have hw := word_letters (h.wd y hy) 10
    have hvl := h.vl y hy v hv
    unfold isValueL at hvl
    rcases List.mem_append.mp z with z | z
    · rcases List.mem_append.mp z with z | z
      · exact absurd (hw z) (by decide)
      · exact absurd z (by decide)
    · simp [z] at hvl
theorem okRE_of {x : Ent2} (h : GoodEnt x) (hn : 10 ∉ nameText x.L) : OkRE x := ⟨h.nm, h.tb, rd_nl h.tb hn, by
  have h1 := entText_sz h
  have h2 := joinL_len [10] (allLines x)
  unfold entText
  simp only [List.length_cons, List.length_nil] at h2
  omega⟩
abbrev R__law_is_told (aN aE : Addr) : DF := FnN (fun x : Ent2 => [entObj aN aE x.L (sortT x.T), .str (nameText x.L), tabD x.T]) GoodEnt fun _ => .bl true
abbrev R__law_by_hand : DF := DL.Fn (fun _ : Unit => []) (fun _ => True) fun _ => .bl true
section
variable {P : Program} {w : World} {K : PySem.W.Frag} {mg : Str → Option Value} {base : Heap} {aN aE aR : Addr}
end
end K86

set_option Elab.async false
set_option linter.all false
set_option maxRecDepth 100000
set_option maxHeartbeats 2000000
namespace K86
open PySem PySem.Spec PyProof PyProof.Rows L2 TL DL
local macro_rules | `(tactic| walk_at "ev") => `(tactic| repeat' (with_reducible first
  | apply ev_c | (apply ev_var; with_unfolding_all exact rfl) | exact v_isStr | apply ev_op | apply ev_test | apply ev_and | apply ev_or | apply ev_not | apply ev_andV | apply ev_orV | apply ev_notV
  | apply ev_ifS | apply ev_ifI | apply ev_chain | apply ev_nil | apply ev_cons | apply ev_tup | apply ev_lst | apply ev_cb | apply ev_m0 | apply ev_m1 | apply ev_m2 | apply ev_sl | apply ev_noPart | apply ev_part | apply ev_revT | apply ev_yes
  | apply v_I0 | apply v_I | apply v_addS | apply v_eqS | apply v_eqI | apply v_eqB | apply v_neS | apply v_neI | apply v_inS | apply v_notInS | apply v_isN0 | apply v_isNS | apply v_isNT | apply v_notN0 | apply v_notNS | apply v_notNT
  | apply v_lenS | apply v_lenL | apply v_lenT | apply v_all | apply v_any | apply v_int1 | apply v_intb | apply v_max2 | apply v_min2 | apply v_join | apply v_split | apply v_part | apply v_lower | apply v_starts | apply v_find | apply v_slS | apply v_slT
  | apply ei_list | apply ei_tup | apply ei_str | apply ei_range1 | apply ei_enumS | apply eg_name | apply eg_nil | apply eg_cons | apply eg_tup
  | (intro _)))

/-! ### deeds as they are shown -/
structure OkP (w dp : Nat) (p : PyData) : Prop where
  ly : p.canLay0 = true
  sh : p.leavesShort 31 = true
  wt : p.weight ≤ w
  dp : p.depth ≤ dp
  sw : p.showable = true
structure OkPs (w dp : Nat) (p : List PyData) : Prop where
  ly : PyData.canLayAll0 p = true
  sh : PyData.leavesShortAll 31 p = true
  wt : PyData.weightAll p ≤ w
  dp : PyData.depthAll p ≤ dp
  sw : PyData.showableAll p = true
theorem OkP.mono {w v dp e : Nat} {p : PyData} (h : OkP w dp p) (h1 : w ≤ v) (h2 : dp ≤ e) : OkP v e p := ⟨h.ly, h.sh, Nat.le_trans h.wt h1, Nat.le_trans h.dp h2, h.sw⟩
theorem OkPs.mono {w v dp e : Nat} {p : List PyData} (h : OkPs w dp p) (h1 : w ≤ v) (h2 : dp ≤ e) : OkPs v e p := ⟨h.ly, h.sh, Nat.le_trans h.wt h1, Nat.le_trans h.dp h2, h.sw⟩
theorem okp_str {s : List Nat} (h : charsOk s) : OkP s.length 0 (strP s) := ⟨strOk_of h, by
  show PyData.leavesShort 31 (.str (mkS s)) = true
  rw [PyData.leavesShort, List.all_eq_true]
  intro c hc
  have := h c hc
  exact decide_eq_true (by omega), by show PyData.weight (.str (mkS s)) ≤ _; rw [PyData.weight]; exact Nat.le_refl _, by show PyData.depth (.str _) ≤ _; rw [PyData.depth]; exact Nat.le_refl _, rfl⟩
theorem okp_non : OkP 0 0 .none := ⟨rfl, rfl, by rw [PyData.weight]; exact Nat.le_refl _, by rw [PyData.depth]; exact Nat.le_refl _, rfl⟩
theorem okp_bl (b : Bool) : OkP 0 0 (.bool b) := ⟨rfl, rfl, by rw [PyData.weight]; exact Nat.le_refl _, by rw [PyData.depth]; exact Nat.le_refl _, rfl⟩
theorem okp_int {i : Int} (h : GoodI i) : OkP 1921 0 (.int i) := ⟨rfl, by
  rw [PyData.leavesShort]
  refine decide_eq_true ?_
  have h2 := h.len
  have e : PyData.shown (.int i) = mkS (itx i) := by
    rw [PyData.shown]
    exact (mk_tl _).symm
  rw [e, mkS_len]
  exact h2, by
  rw [PyData.weight]
  have := h.sz
  split <;> omega, by rw [PyData.depth]; exact Nat.le_refl _, by rw [PyData.showable]; exact decide_eq_true h.sz⟩
theorem okps_nil : OkPs 0 0 [] := ⟨rfl, rfl, Nat.le_refl _, Nat.le_refl _, rfl⟩
theorem okps_cons {a b d e : Nat} {x : PyData} {xs : List PyData} (h : OkP a d x) (h2 : OkPs b e xs) : OkPs (a + 1 + b) (max d e) (x :: xs) := ⟨by rw [PyData.canLayAll0, h.ly, h2.ly]; rfl, by rw [PyData.leavesShortAll, h.sh, h2.sh]; rfl, by
  rw [PyData.weightAll]
  have := h.wt
  have := h2.wt
  omega, by
  rw [PyData.depthAll]
  have := h.dp
  have := h2.dp
  omega, by rw [PyData.showableAll, h.sw, h2.sw]; rfl⟩
theorem okps_map {α : Type} {f : α → PyData} {w d : Nat} : ∀ {l : List α}, (∀ x ∈ l, OkP w d (f x)) → OkPs ((w + 1) * l.length) d (l.map f)
  | [], _ => okps_nil.mono (by simp) (Nat.zero_le _)
  | x :: l, h => (okps_cons (h x (by simp)) (okps_map (l := l) fun y hy => h y (by simp [hy]))).mono (by rw [List.length_cons, Nat.mul_add]; omega) (by omega)
theorem okp_tup {w d : Nat} {xs : List PyData} (h : OkPs w d xs) : OkP w (d + 1) (.tuple xs) := ⟨by rw [PyData.canLay0]; exact h.ly, by rw [PyData.leavesShort]; exact h.sh, by rw [PyData.weight]; exact h.wt, by rw [PyData.depth]; have := h.dp; omega, by rw [PyData.showable]; exact h.sw⟩
theorem okp_tupP {l : List (List Nat)} {n : Nat} (h : ∀ s ∈ l, charsOk s ∧ s.length ≤ n) : OkP ((n + 1) * l.length) 1 (tupP l) := okp_tup (okps_map (f := strP) fun s hs => (okp_str (h s hs).1).mono (h s hs).2 (Nat.le_refl _))
def chgP : Chg → PyData
  | .vals a w vs => .tuple [strP a, strP w, tupP vs]
  | .inc w i => .tuple [strP cINC, strP w, .int i]
def optP : Option (List Nat) → PyData
  | none => .none
  | some u => strP u
def deedP : Deed → List PyData
  | .add _ => []
  | .del s => [strP s]
  | .mod s cs => [strP s, .tuple (cs.map chgP)]
  | .ren s l u k => [strP s, strP l, optP u, .bool k]
theorem toPy_chg (c : Chg) : toPy (chgD c) = some (chgP c) := by
  cases c with
  | vals a w vs =>
    show (toPys [.str a, .str w, tupS vs]).map PyData.tuple = _
    rw [toPys, toPys, toPys, toPys, toPy_tupS]
    rfl
  | inc w i => rfl
theorem toPys_map {α : Type} {f : α → D} {g : α → PyData} : ∀ {l : List α}, (∀ x ∈ l, toPy (f x) = some (g x)) → toPys (l.map f) = some (l.map g)
  | [], _ => rfl
  | x :: l, h => by
    rw [List.map_cons, toPys, h x (by simp), toPys_map (l := l) fun y hy => h y (by simp [hy])]
    rfl
theorem okp_word {w : List Nat} (h : isWordL w = true) : OkP 12 0 (strP w) := (okp_str fun c hc => (word_sign h c hc).1).mono (by
  unfold isWordL at h
  simp at h
  omega) (Nat.le_refl _)
theorem okp_S {s : List Nat} (h : GoodS s) : OkP 100 0 (strP s) := (okp_str fun c hc => (h.ch c hc).1).mono h.sz (Nat.le_refl _)
theorem goodV_sz {v : List Nat} (h : GoodV v) : v.length ≤ 1000 := by
  have := h.sz
  omega
theorem okp_chg {c : Chg} (h : GoodC c) : OkP 4000 2 (chgP c) := by
  cases c with
  | vals a w vs =>
    obtain ⟨h1, h2, h3, h4⟩ := h
    have ha : charsOk a ∧ a.length ≤ 10 := by
      simp only [List.mem_cons, List.not_mem_nil, or_false] at h1
      rcases h1 with e | e | e <;> · subst e; constructor <;> first | (unfold charsOk; decide) | decide
    refine (okp_tup (okps_cons (okp_str ha.1) (okps_cons (okp_word h2) (okps_cons (okp_tupP (n := 1000) fun s hs => ⟨fun c hc => (goodV_sign (h4 s hs) c hc).1, goodV_sz (h4 s hs)⟩) okps_nil)))).mono ?_ (by decide)
    have := ha.2
    omega
  | inc w i =>
    refine (okp_tup (okps_cons (okp_str (s := cINC) (by unfold charsOk; decide)) (okps_cons (okp_word h.1) (okps_cons (okp_int h.2) okps_nil)))).mono (by decide) (by decide)
theorem okp_deed {d : Deed} (h : GoodD d) : OkP 30000 4 (.tuple (deedP d)) := by
  cases d with
  | add x => exact (okp_tup okps_nil).mono (by decide) (by decide)
  | del s => exact (okp_tup (okps_cons (okp_S h) okps_nil)).mono (by decide) (by decide)
  | mod s cs =>
    obtain ⟨h1, h2, h3⟩ := h
    refine (okp_tup (okps_cons (okp_S h1) (okps_cons (okp_tup (okps_map (f := chgP) fun c hc => okp_chg (h3 c hc))) okps_nil))).mono ?_ (by decide)
    omega
  | ren s l u k =>
    obtain ⟨h1, h2, h3⟩ := h
    have hu : OkP 100 0 (optP u) := by
      cases u with
      | none => exact okp_non.mono (by decide) (Nat.le_refl _)
      | some z => exact okp_S (h3 z rfl)
    exact (okp_tup (okps_cons (okp_S h1) (okps_cons (okp_S h2) (okps_cons hu (okps_cons (okp_bl k) okps_nil))))).mono (by decide) (by decide)
theorem okp_shown {p : PyData} (h : OkP 30000 4 p) : p.showable = true ∧ p.hasDict = false ∧ p.depth ≤ 32 ∧ p.shown.length ≤ sizeLine := by
  have h1 := PyData.shown_le 31 (by decide) p h.sh
  have h2 := h.wt
  have h3 := h.dp
  refine ⟨h.sw, PyData.hasDict_of_canLay p h.ly, by omega, by rw [sizeLine_eq]; omega⟩
theorem okp_shaped {w d : Nat} {p : PyData} (h : OkP w d p) (hd : d ≤ 64) : SeqAt.shaped p = true := by
  unfold SeqAt.shaped
  rw [h.ly, decide_eq_true (Nat.le_trans h.dp hd)]
  rfl
theorem scr_join0 (ds : List Deed) : joinL [10] (scrLines ds) = scrText ds := by
  by_cases h : ds = []
  · subst h; rfl
  · exact scr_join h
theorem sum_join (sep : List Nat) : ∀ l : List (List Nat), (l.map List.length).sum ≤ (joinL sep l).length
  | [] => by simp
  | [x] => by simp [joinL]
  | x :: y :: l => by
    have h := sum_join sep (y :: l)
    simp only [joinL, List.length_append, List.map_cons, List.sum_cons] at *
    omega
abbrev R__law_is_same (aN aE : Addr) : DF := DL.Fn (fun d => [deedD aN aE d, deedD aN aE d]) GoodD fun _ => .bl true
section
variable {P : Program} {w : World} {K : PySem.W.Frag} {mg : Str → Option Value} {base : Heap} {aN aE aR : Addr}
theorem sc__law_is_same : FnScope ["_law_found", "_law_due"] ["_law_found", "_law_due"] (defScope (top 78)) := ⟨rfl, rfl, rfl, by decide +kernel, rfl, by decide +kernel, by decide +kernel⟩
theorem ok__law_is_same {f : Addr} {fd : FuncData} (F : Fun K "_law_is_same" "_law_is_same" (top 78) f fd) (T : Txt K mg aN aE aR) (s_Entry_eq : KnS P w K mg base aE "__eq__" 1 ["self", "other"] (R_Entry_eq aN aE)) : FnG P w K mg base 3 f fd ["_law_found", "_law_due"] (R__law_is_same aN aE) := by
  have sc := sc__law_is_same
  refine okG F sc (fun ds os PP ⟨_, e, _⟩ => by rw [e]; rfl) ?_
  apply Exists.intro
  apply And.intro
  · intro cdv A outer s H hgu hr
    have hu := hr.units
    have hu0 : (A.deeper (envOfC "_law_is_same" (defScope (top 78)) s.heap.objs.size f cdv)).units + 1 < cLine := by omega
    exact (pb_cons (sx_if (PXW.pt (ptw_or (DL.pt_no (pt_v (px_cb call_isi (l_isB (K := K) (T := "tuple")) T.n_isinstance boot_isinstance (pxa_cons (px_var 0) (pxa_cons (px_ty (T := "tuple") T.n_tuple (by decide +kernel)) pxa_nil))))) (ptw_or (DL.pt_cmp op_ne l_ne (px_cb call_len l_len T.n_len PySem.boot_len (pxa_cons (px_var 0) pxa_nil)) (px_cb call_len l_len T.n_len PySem.boot_len (pxa_cons (px_var 1) pxa_nil))) (ptw_or1 (DL.pt_cmp op_ne l_ne (px_ix L2.ix_tup l_ixT (px_var 0) px_int) (px_ix L2.ix_tup l_ixT (px_var 1) px_int)))))) (pb_one (sx_ret px_bl)) pb_nil)
      (pb_cons (sx_if (DL.pt_cmp op_eq l_eq (px_ix L2.ix_tup l_ixT (px_var 1) px_int) (px_str [97, 100, 100])) (pb_one (sx_ret (px_and (px_cb call_isi (l_isO (K := K)) T.n_isinstance boot_isinstance (pxa_cons (px_ix L2.ix_tup l_ixT (px_var 0) px_int) (pxa_cons (px_gref T.a_Entry) pxa_nil))) (px_one (DL.px_eqOwn s_Entry_eq (hr.mono (by decide)) (px_ix L2.ix_tup l_ixT (px_var 0) px_int) (px_ix L2.ix_tup l_ixT (px_var 1) px_int)))))) pb_nil)
      (pb_one (sx_ret (DL.px_cmp op_eq l_eq (px_cb (cr_repr hgu hu) l_repr T.n_repr (by decide +kernel) (pxa_cons (px_sl sl_tupA l_slT (px_var 0) (pxo_some px_int) pxo_none) pxa_nil)) (px_cb (cr_repr hgu hu) l_repr T.n_repr (by decide +kernel) (pxa_cons (px_sl sl_tupA l_slT (px_var 1) (pxo_some px_int) pxo_none) pxa_nil)))))))
  · rintro ds os PP ⟨d, rfl, hg, k⟩ hx
    cases d with
    | add x =>
      refine q_if (b := false) (evt_eq (ev_or (ev_not (ev_test (ev_cb (ev_cons ev_var (ev_cons ev_c ev_nil)) v_isTup))) fun _ => ev_or (ev_test (ev_op (ev_cb (ev_cons ev_var ev_nil) v_lenT) (ev_cb (ev_cons ev_var ev_nil) v_lenT) v_neI)) fun _ => ev_test (ev_op (ev_op ev_var ev_c (v_ixT (atI_nat (j := 0) rfl))) (ev_op ev_var ev_c (v_ixT (atI_nat (j := 0) rfl))) v_neS)) (by simp)) (fun h => by cases h) fun _ => q_next ?_
      obtain ⟨he, hso, hc, hn⟩ := drawnE_good hg
      have hok : OkEnt x := okEnt_of he.tb hc
      refine q_if (b := true) (evt_eq (ev_test (ev_op (ev_op ev_var ev_c (v_ixT (atI_nat (j := 0) rfl))) ev_c v_eqS)) (by decide)) (fun _ => ?_) (fun h => by cases h)
      exact s_ret (d := .bl true) (ev_andV (b1 := true) (b2 := true) (ev_cb (ev_cons (ev_op ev_var ev_c (v_ixT (atI_nat (j := 1) rfl))) (ev_cons ev_c ev_nil)) (v_isOself T.s_Entry)) fun _ => evd_eq (ev_op (ev_op ev_var ev_c (v_ixT (atI_nat (j := 1) rfl))) (ev_op ev_var ev_c (v_ixT (atI_nat (j := 1) rfl))) (v_own (out := fun x : Ent2 × Ent2 => eqEnt x.1 x.2) (x, x) (.inl rfl) (.inl rfl) rfl ⟨hok, hok⟩)) (by dsimp only; rw [eqEnt_self]; rfl)) ⟨os, List.Sublist.refl _, k⟩
    | del s =>
      refine q_if (b := false) (evt_eq (ev_or (ev_not (ev_test (ev_cb (ev_cons ev_var (ev_cons ev_c ev_nil)) v_isTup))) fun _ => ev_or (ev_test (ev_op (ev_cb (ev_cons ev_var ev_nil) v_lenT) (ev_cb (ev_cons ev_var ev_nil) v_lenT) v_neI)) fun _ => ev_test (ev_op (ev_op ev_var ev_c (v_ixT (atI_nat (j := 0) rfl))) (ev_op ev_var ev_c (v_ixT (atI_nat (j := 0) rfl))) v_neS)) (by simp)) (fun h => by cases h) fun _ => q_next ?_
      refine q_if (b := false) (evt_eq (ev_test (ev_op (ev_op ev_var ev_c (v_ixT (atI_nat (j := 0) rfl))) ev_c v_eqS)) (by decide)) (fun h => by cases h) fun _ => q_next ?_
      have hp : toPy (.tup [.str s]) = some (.tuple (deedP (.del s))) := rfl
      obtain ⟨s1, s2, s3, s4⟩ := okp_shown (okp_deed (d := (.del s)) hg)
      exact s_ret (d := .bl true) (evd_eq (ev_op (ev_cb (ev_cons (evd_eq (ev_sl ev_var (ev_part ev_c) ev_noPart v_slT) (b := .tup [.str s]) (by unfold cutL; rfl)) ev_nil) (v_repr hp s1 s2 s3 s4)) (ev_cb (ev_cons (evd_eq (ev_sl ev_var (ev_part ev_c) ev_noPart v_slT) (b := .tup [.str s]) (by unfold cutL; rfl)) ev_nil) (v_repr hp s1 s2 s3 s4)) v_eqS) (by simp)) ⟨os, List.Sublist.refl _, k⟩
    | mod s cs =>
      refine q_if (b := false) (evt_eq (ev_or (ev_not (ev_test (ev_cb (ev_cons ev_var (ev_cons ev_c ev_nil)) v_isTup))) fun _ => ev_or (ev_test (ev_op (ev_cb (ev_cons ev_var ev_nil) v_lenT) (ev_cb (ev_cons ev_var ev_nil) v_lenT) v_neI)) fun _ => ev_test (ev_op (ev_op ev_var ev_c (v_ixT (atI_nat (j := 0) rfl))) (ev_op ev_var ev_c (v_ixT (atI_nat (j := 0) rfl))) v_neS)) (by simp)) (fun h => by cases h) fun _ => q_next ?_
      refine q_if (b := false) (evt_eq (ev_test (ev_op (ev_op ev_var ev_c (v_ixT (atI_nat (j := 0) rfl))) ev_c v_eqS)) (by decide)) (fun h => by cases h) fun _ => q_next ?_
      have hp : toPy (.tup [.str s, .tup (cs.map chgD)]) = some (.tuple (deedP (.mod s cs))) := by
        have e : toPy (.tup (cs.map chgD)) = some (.tuple (cs.map chgP)) := by
          rw [toPy, toPys_map (f := chgD) (g := chgP) fun c _ => toPy_chg c]; rfl
        rw [toPy, toPys, toPys, toPys, e]; rfl
      obtain ⟨s1, s2, s3, s4⟩ := okp_shown (okp_deed (d := (.mod s cs)) hg)
      exact s_ret (d := .bl true) (evd_eq (ev_op (ev_cb (ev_cons (evd_eq (ev_sl ev_var (ev_part ev_c) ev_noPart v_slT) (b := .tup [.str s, .tup (cs.map chgD)]) (by unfold cutL; rfl)) ev_nil) (v_repr hp s1 s2 s3 s4)) (ev_cb (ev_cons (evd_eq (ev_sl ev_var (ev_part ev_c) ev_noPart v_slT) (b := .tup [.str s, .tup (cs.map chgD)]) (by unfold cutL; rfl)) ev_nil) (v_repr hp s1 s2 s3 s4)) v_eqS) (by simp)) ⟨os, List.Sublist.refl _, k⟩
    | ren s l u kp =>
      refine q_if (b := false) (evt_eq (ev_or (ev_not (ev_test (ev_cb (ev_cons ev_var (ev_cons ev_c ev_nil)) v_isTup))) fun _ => ev_or (ev_test (ev_op (ev_cb (ev_cons ev_var ev_nil) v_lenT) (ev_cb (ev_cons ev_var ev_nil) v_lenT) v_neI)) fun _ => ev_test (ev_op (ev_op ev_var ev_c (v_ixT (atI_nat (j := 0) rfl))) (ev_op ev_var ev_c (v_ixT (atI_nat (j := 0) rfl))) v_neS)) (by simp)) (fun h => by cases h) fun _ => q_next ?_
      refine q_if (b := false) (evt_eq (ev_test (ev_op (ev_op ev_var ev_c (v_ixT (atI_nat (j := 0) rfl))) ev_c v_eqS)) (by decide)) (fun h => by cases h) fun _ => q_next ?_
      have hp : toPy (.tup [.str s, .str l, optD u, .bl kp]) = some (.tuple (deedP (.ren s l u kp))) := by cases u <;> rfl
      obtain ⟨s1, s2, s3, s4⟩ := okp_shown (okp_deed (d := (.ren s l u kp)) hg)
      exact s_ret (d := .bl true) (evd_eq (ev_op (ev_cb (ev_cons (evd_eq (ev_sl ev_var (ev_part ev_c) ev_noPart v_slT) (b := .tup [.str s, .str l, optD u, .bl kp]) (by unfold cutL; rfl)) ev_nil) (v_repr hp s1 s2 s3 s4)) (ev_cb (ev_cons (evd_eq (ev_sl ev_var (ev_part ev_c) ev_noPart v_slT) (b := .tup [.str s, .str l, optD u, .bl kp]) (by unfold cutL; rfl)) ev_nil) (v_repr hp s1 s2 s3 s4)) v_eqS) (by simp)) ⟨os, List.Sublist.refl _, k⟩

end
end K86

set_option Elab.async false
set_option linter.all false
set_option maxRecDepth 100000
set_option maxHeartbeats 2000000
namespace K86
open PySem PySem.Spec PyProof PyProof.Rows L2 TL DL
local macro_rules | `(tactic| walk_at "ev") => `(tactic| repeat' (with_reducible first
  | apply ev_c | (apply ev_var; with_unfolding_all exact rfl) | exact v_isStr | apply ev_op | apply ev_test | apply ev_and | apply ev_or | apply ev_not | apply ev_andV | apply ev_orV | apply ev_notV
  | apply ev_ifS | apply ev_ifI | apply ev_chain | apply ev_nil | apply ev_cons | apply ev_tup | apply ev_lst | apply ev_cb | apply ev_m0 | apply ev_m1 | apply ev_m2 | apply ev_sl | apply ev_noPart | apply ev_part | apply ev_revT | apply ev_yes
  | apply v_I0 | apply v_I | apply v_addS | apply v_eqS | apply v_eqI | apply v_eqB | apply v_neS | apply v_neI | apply v_inS | apply v_notInS | apply v_isN0 | apply v_isNS | apply v_isNT | apply v_notN0 | apply v_notNS | apply v_notNT
  | apply v_lenS | apply v_lenL | apply v_lenT | apply v_all | apply v_any | apply v_int1 | apply v_intb | apply v_max2 | apply v_min2 | apply v_join | apply v_split | apply v_part | apply v_lower | apply v_starts | apply v_find | apply v_slS | apply v_slT
  | apply ei_list | apply ei_tup | apply ei_str | apply ei_range1 | apply ei_enumS | apply eg_name | apply eg_nil | apply eg_cons | apply eg_tup
  | (intro _)))

def H1 : List Deed := [.mod [120] [.vals [97, 100, 100] [97] [[49]], .vals [97, 100, 100] [97] [], .vals [97, 100, 100] [97] [[50]], .inc [97] (-3)]]
def H2 : List Deed := [.del [], .ren [] [] (some []) true, .mod [] [], .ren [97] [108, 101, 97, 102, 58, 32] none false]
def T1 : List Nat := [109, 111, 100, 105, 102, 121, 58, 32, 120, 10, 97, 100, 100, 32, 97, 10, 61, 32, 49, 10, 97, 100, 100, 32, 97, 10, 97, 100, 100, 32, 97, 10, 61, 32, 50, 10, 105, 110, 99, 114, 101, 109, 101, 110, 116, 32, 97, 32, 45, 51]
def T2 : List Nat := [100, 101, 108, 101, 116, 101, 58, 32, 10, 10, 114, 101, 110, 97, 109, 101, 58, 32, 10, 108, 101, 97, 102, 58, 32, 10, 117, 110, 100, 101, 114, 58, 32, 10, 107, 101, 101, 112, 58, 32, 84, 82, 85, 69, 10, 10, 109, 111, 100, 105, 102, 121, 58, 32, 10, 10, 114, 101, 110, 97, 109, 101, 58, 32, 97, 10, 108, 101, 97, 102, 58, 32, 108, 101, 97, 102, 58, 32]

theorem gv1 {v : List Nat} (h : v ≠ [] ∧ 10 ∉ v ∧ v.length ≤ 75 ∧ ∀ c ∈ v, c < 128) : GoodV v := ⟨h.1, h.2.1, h.2.2.1, h.2.2.2⟩
theorem gs1 {s : List Nat} (h : s.length ≤ 100 ∧ ∀ c ∈ s, c < 128 ∧ c ≠ 10) : GoodS s := ⟨h.1, h.2⟩
theorem gh1 : GoodDs H1 := ⟨by decide, fun d hd => by
  rw [List.mem_singleton.mp hd]
  refine ⟨gs1 (by decide), by decide, fun c hc => ?_⟩
  simp only [List.mem_cons, List.not_mem_nil, or_false] at hc
  rcases hc with e | e | e | e
  · subst e; exact ⟨by decide, by decide, by decide, fun v hv => by rw [List.mem_singleton.mp hv]; exact gv1 (by decide)⟩
  · subst e; exact ⟨by decide, by decide, by decide, fun v hv => by cases hv⟩
  · subst e; exact ⟨by decide, by decide, by decide, fun v hv => by rw [List.mem_singleton.mp hv]; exact gv1 (by decide)⟩
  · subst e; exact ⟨by decide, ints_ok _ (by decide)⟩⟩
theorem gh2 : GoodDs H2 := ⟨by decide, fun d hd => by
  unfold H2 at hd
  simp only [List.mem_cons, List.not_mem_nil, or_false] at hd
  rcases hd with e | e | e | e
  · subst e; exact gs1 (by decide)
  · subst e; exact ⟨gs1 (by decide), gs1 (by decide), fun z hz => by cases hz; exact gs1 (by decide)⟩
  · subst e; exact ⟨gs1 (by decide), by decide, fun c hc => by cases hc⟩
  · subst e; exact ⟨gs1 (by decide), gs1 (by decide), fun z hz => by cases hz⟩⟩
theorem st1 : scrText H1 = T1 := by decide +kernel
theorem st2 : scrText H2 = T2 := by decide +kernel
def deedPy : Deed → PyData
  | .add _ => .none
  | .del s => .tuple [strP cDEL, strP s]
  | .mod s cs => .tuple [strP cMOD, strP s, .tuple (cs.map chgP)]
  | .ren s l u k => .tuple [strP cREN, strP s, strP l, optP u, .bool k]
def noAdd : Deed → Bool
  | .add _ => false
  | _ => true
theorem toPy_deed {aN aE : Addr} {d : Deed} (h : noAdd d = true) : toPy (deedD aN aE d) = some (deedPy d) := by
  cases d with
  | add x => cases h
  | del s => rfl
  | mod s cs =>
    have e : toPy (.tup (cs.map chgD)) = some (.tuple (cs.map chgP)) := by
      rw [toPy, toPys_map (f := chgD) (g := chgP) fun c _ => toPy_chg c]; rfl
    show toPy (.tup [.str cMOD, .str s, .tup (cs.map chgD)]) = _
    rw [toPy, toPys, toPys, toPys, toPys, e]; rfl
  | ren s l u k => cases u <;> rfl
theorem toPy_deeds {aN aE : Addr} {ds : List Deed} (h : ∀ d ∈ ds, noAdd d = true) : toPy (.tup (ds.map (deedD aN aE))) = some (.tuple (ds.map deedPy)) := by
  rw [toPy, toPys_map (f := deedD aN aE) (g := deedPy) fun d hd => toPy_deed (h d hd)]; rfl
theorem sh1 : SeqAt.shaped (.tuple (H1.map deedPy)) = true := by decide +kernel
theorem sh2 : SeqAt.shaped (.tuple (H2.map deedPy)) = true := by decide +kernel
theorem eq1 {p : PyData} (h : SeqAt.shaped p = true) : PyData.eqv p p = true := SeqAt.eqv_refl p (SeqAt.canLay_of_shaped h)
theorem gd0 : GoodDs [] := ⟨by decide, fun d hd => by cases hd⟩
section
variable {P : Program} {w : World} {K : PySem.W.Frag} {mg : Str → Option Value} {base : Heap} {aN aE aR : Addr}
theorem sc__law_by_hand : FnScope ["_law_some", "_law_due"] [] (defScope (top 79)) := ⟨rfl, rfl, rfl, by decide +kernel, rfl, by decide +kernel, by decide +kernel⟩
theorem ok__law_by_hand {f : Addr} {fd : FuncData} (F : Fun K "_law_by_hand" "_law_by_hand" (top 79) f fd) (T : Txt K mg aN aE aR) (k_script_text : Kn0 P w K mg base "script_text" 5 ["deeds"] (R_script_text aN aE)) (k_read_script : Kn0 P w K mg base "read_script" 13 ["text"] (R_read_script aN aE)) : FnOk P w K mg base CX0 14 f fd [] (Pr K (NoX R__law_by_hand)) := by
  have sc := sc__law_by_hand
  refine okD F sc (fun ds os PP ⟨_, e, _⟩ => by rw [e]; rfl) ?_
  apply Exists.intro
  apply And.intro
  · intro cdv A outer s H hr
    have hu := hr.units
    have hu0 : (A.deeper (envOfC "_law_by_hand" (defScope (top 79)) s.heap.objs.size f cdv)).units + 1 < cLine := by omega
    exact (pb_cons (sx_set 0 sc.nd (px_tup (pxa_cons (px_tup (pxa_cons (px_str [109, 111, 100, 105, 102, 121]) (pxa_cons (px_str [120]) (pxa_cons (px_tup (pxa_cons (px_tup (pxa_cons (px_str [97, 100, 100]) (pxa_cons (px_str [97]) (pxa_cons (px_tup (pxa_cons (px_str [49]) pxa_nil)) pxa_nil)))) (pxa_cons (px_tup (pxa_cons (px_str [97, 100, 100]) (pxa_cons (px_str [97]) (pxa_cons (px_tup pxa_nil) pxa_nil)))) (pxa_cons (px_tup (pxa_cons (px_str [97, 100, 100]) (pxa_cons (px_str [97]) (pxa_cons (px_tup (pxa_cons (px_str [50]) pxa_nil)) pxa_nil)))) (pxa_cons (px_tup (pxa_cons (px_str [105, 110, 99, 114, 101, 109, 101, 110, 116]) (pxa_cons (px_str [97]) (pxa_cons (px_negE px_int) pxa_nil)))) pxa_nil))))) pxa_nil)))) pxa_nil)))
      (pb_cons (sx_set 1 sc.nd (px_str [109, 111, 100, 105, 102, 121, 58, 32, 120, 10, 97, 100, 100, 32, 97, 10, 61, 32, 49, 10, 97, 100, 100, 32, 97, 10, 97, 100, 100, 32, 97, 10, 61, 32, 50, 10, 105, 110, 99, 114, 101, 109, 101, 110, 116, 32, 97, 32, 45, 51]))
      (pb_cons (sx_if (PXW.pt (ptw_or (DL.pt_cmp op_ne l_ne (px_call0 k_script_text (hr.mono (by decide)) (pxa_cons (px_var 0) pxa_nil)) (px_var 1)) (ptw_or1 (DL.pt_cmp (op_neD hu) l_neD (px_call0 k_read_script (hr.mono (by decide)) (pxa_cons (px_var 1) pxa_nil)) (px_var 0))))) (pb_one (sx_ret px_bl)) pb_nil)
      (pb_cons (sx_set 0 sc.nd (px_tup (pxa_cons (px_tup (pxa_cons (px_str [100, 101, 108, 101, 116, 101]) (pxa_cons (px_str []) pxa_nil))) (pxa_cons (px_tup (pxa_cons (px_str [114, 101, 110, 97, 109, 101]) (pxa_cons (px_str []) (pxa_cons (px_str []) (pxa_cons (px_str []) (pxa_cons px_bl pxa_nil)))))) (pxa_cons (px_tup (pxa_cons (px_str [109, 111, 100, 105, 102, 121]) (pxa_cons (px_str []) (pxa_cons (px_tup pxa_nil) pxa_nil)))) (pxa_cons (px_tup (pxa_cons (px_str [114, 101, 110, 97, 109, 101]) (pxa_cons (px_str [97]) (pxa_cons (px_str [108, 101, 97, 102, 58, 32]) (pxa_cons px_non (pxa_cons px_bl pxa_nil)))))) pxa_nil))))))
      (pb_cons (sx_set 1 sc.nd (px_str [100, 101, 108, 101, 116, 101, 58, 32, 10, 10, 114, 101, 110, 97, 109, 101, 58, 32, 10, 108, 101, 97, 102, 58, 32, 10, 117, 110, 100, 101, 114, 58, 32, 10, 107, 101, 101, 112, 58, 32, 84, 82, 85, 69, 10, 10, 109, 111, 100, 105, 102, 121, 58, 32, 10, 10, 114, 101, 110, 97, 109, 101, 58, 32, 97, 10, 108, 101, 97, 102, 58, 32, 108, 101, 97, 102, 58, 32]))
      (pb_one (sx_ret (px_and (DL.px_cmp op_eq l_eq (px_call0 k_script_text (hr.mono (by decide)) (pxa_cons (px_var 0) pxa_nil)) (px_var 1)) (px_one (DL.px_cmp (op_eqD hu) l_eqD (px_call0 k_read_script (hr.mono (by decide)) (pxa_cons (px_var 1) pxa_nil)) (px_var 0)))))))))))
  · rintro ds os PP ⟨x, rfl, _, k⟩ hx
    refine q_set (d := .tup (H1.map (deedD aN aE))) (ev_tup (ev_cons (ev_tup (ev_cons ev_c (ev_cons ev_c (ev_cons (ev_tup (ev_cons (ev_tup (ev_cons ev_c (ev_cons ev_c (ev_cons (ev_tup (ev_cons ev_c ev_nil) (by decide)) ev_nil))) (by decide)) (ev_cons (ev_tup (ev_cons ev_c (ev_cons ev_c (ev_cons (ev_tup ev_nil (by decide)) ev_nil))) (by decide)) (ev_cons (ev_tup (ev_cons ev_c (ev_cons ev_c (ev_cons (ev_tup (ev_cons ev_c ev_nil) (by decide)) ev_nil))) (by decide)) (ev_cons (ev_tup (ev_cons ev_c (ev_cons ev_c (ev_cons (ev_neg ev_c) ev_nil))) (by decide)) ev_nil)))) (by decide)) ev_nil))) (by decide)) ev_nil) (by rw [List.length_map]; decide)) eg_name ?_
    refine q_set (d := .str T1) ev_c eg_name ?_
    refine q_if (b := false) (evt_eq (ev_or (ev_test (ev_op (ev_fn H1 (ev_cons ev_var ev_nil) gh1) ev_var v_neS)) fun _ => ev_test (ev_op (ev_fnE H1 (ev_cons ev_var ev_nil) (by rw [st1]) gh1) ev_var (v_neD (toPy_deeds (by decide)) (toPy_deeds (by decide)) sh1 sh1))) (by rw [st1, eq1 sh1]; simp)) (fun h => by cases h) fun _ => q_next ?_
    refine q_set (d := .tup (H2.map (deedD aN aE))) (ev_tup (ev_cons (ev_tup (ev_cons ev_c (ev_cons ev_c ev_nil)) (by decide)) (ev_cons (ev_tup (ev_cons ev_c (ev_cons ev_c (ev_cons ev_c (ev_cons ev_c (ev_cons ev_c ev_nil))))) (by decide)) (ev_cons (ev_tup (ev_cons ev_c (ev_cons ev_c (ev_cons (ev_tup ev_nil (by decide)) ev_nil))) (by decide)) (ev_cons (ev_tup (ev_cons ev_c (ev_cons ev_c (ev_cons ev_c (ev_cons ev_c (ev_cons ev_c ev_nil))))) (by decide)) ev_nil)))) (by rw [List.length_map]; decide)) eg_name ?_
    refine q_set (d := .str T2) ev_c eg_name ?_
    refine s_ret (d := .bl true) (ev_andV (b1 := true) (b2 := true) ?_ fun _ => ?_) ⟨_, List.Sublist.refl _, k⟩
    · refine evd_eq (ev_op (ev_fn H2 (ev_cons ev_var ev_nil) gh2) ev_var v_eqS) ?_
      rw [st2]; simp
    · refine evd_eq (ev_op (ev_fnE H2 (ev_cons ev_var ev_nil) (by rw [st2]) gh2) ev_var (v_eqD (toPy_deeds (by decide)) (toPy_deeds (by decide)) sh2 sh2)) ?_
      rw [eq1 sh2]
def R_law : DF := fun ds os P => ∃ cs : List Int, ds = [.lst (cs.map D.int)] ∧ os = [] ∧ cs.length ≤ 63 ∧ P.ok (.bl true) []
theorem sc_law : FnScope ["_law_script", "_law_m", "_law_turn", "_law_some", "_law_k", "_law_due", "_law_found"] ["_law_script"] (defScope (top 80)) := ⟨rfl, rfl, rfl, by decide +kernel, rfl, by decide +kernel, by decide +kernel⟩
theorem ok_law {f : Addr} {fd : FuncData} (F : Fun K "law" "law" (top 80) f fd) (T : Txt K mg aN aE aR) (k_script_text : Kn0 P w K mg base "script_text" 5 ["deeds"] (R_script_text aN aE)) (k_read_script : Kn0 P w K mg base "read_script" 13 ["text"] (R_read_script aN aE)) (kk_script_text : KnK P w K mg base "script_text" "deeds" 5 (R_script_text aN aE)) (kk_read_script : KnK P w K mg base "read_script" "text" 13 (R_read_script aN aE)) (k__law_begun : Kn0 P w K mg base "_law_begun" 1 ["_law_script"] R__law_begun) (k__law_draw : Kn0 P w K mg base "_law_draw" 1 ["_law_m", "_law_top"] R__law_draw) (k__law_deed : Kn0 P w K mg base "_law_deed" 11 ["_law_m"] (R__law_deed aN aE)) (k__law_script_lines : Kn0 P w K mg base "_law_script_lines" 4 ["_law_some"] (R__law_script_lines aN aE)) (k__law_is_same : KnG P w K mg base "_law_is_same" 3 ["_law_found", "_law_due"] (R__law_is_same aN aE)) (k__law_by_hand : Kn0 P w K mg base "_law_by_hand" 14 [] R__law_by_hand) : FnG P w K mg base 15 f fd ["_law_script"] R_law := by
  have sc := sc_law
  refine okG F sc (fun ds os PP ⟨_, e, _⟩ => by rw [e]; rfl) ?_
  apply Exists.intro
  apply And.intro
  · intro cdv A outer s H hgu hr
    have hu := hr.units
    have hu0 : (A.deeper (envOfC "law" (defScope (top 80)) s.heap.objs.size f cdv)).units + 1 < cLine := by omega
    exact (pb_cons (sx_set 1 sc.nd (px_callC0 k__law_begun (hr.mono (by decide)) (pxa_cons (px_var 0) pxa_nil)))
      (pb_cons (sx_for PassesOwn.never rfl (DL.ix_range1 T.n_range (pxa_cons (px_op op_add l_add px_int (px_cb (call_min2 rfl) l_min2 T.n_min (by decide +kernel) (pxa_cons px_int (pxa_cons (px_cb call_len l_len T.n_len PySem.boot_len (pxa_cons (px_var 0) pxa_nil)) pxa_nil)))) pxa_nil)) (gx_name 2 sc.nd) (pb_cons (sx_set 3 sc.nd (px_ct call_tuple_of l_tupOf T.n_tuple (by decide +kernel) (pxa_cons (px_lc (own := [("_law_k", 4)]) (own1 4) rfl sc.nd (DL.ix_range1 T.n_range (pxa_cons (px_callC0 k__law_draw (hr.mono (by decide)) (pxa_cons (px_var 1) (pxa_cons px_int pxa_nil))) pxa_nil)) (blkOk_by (N := ["_law_script", "_law_m", "_law_turn", "_law_some", "_law_k", "_law_due", "_law_found"]) (sc := defScope (top 80)) (by decide +kernel)) (fun _ _ _ _ _ => pg_name (i := 4) sc.nd rfl (Or.inl rfl)) (fun _ _ _ _ _ => pxts_nil) (fun _ _ _ _ _ => (px_callC0 k__law_deed (hr.mono (by decide)) (pxa_cons (px_var 1) pxa_nil)))) pxa_nil)))
      (pb_cons (sx_set 5 sc.nd (px_m1 PySem.F.slot_str_join PySem.F.type_str_join mt_join l_join (px_str [10]) (px_call0 k__law_script_lines (hr.mono (by decide)) (pxa_cons (px_var 3) pxa_nil))))
      (pb_cons (sx_if (PXW.pt (ptw_or (DL.pt_cmp op_ne l_ne (px_call0 k_script_text (hr.mono (by decide)) (pxa_cons (px_var 3) pxa_nil)) (px_var 5)) (ptw_or1 (DL.pt_cmp op_ne l_ne (px_callK1 kk_script_text (hr.mono (by decide)) (px_var 3)) (px_var 5))))) (pb_one (sx_ret px_bl)) pb_nil)
      (pb_cons (sx_set 6 sc.nd (px_call0 k_read_script (hr.mono (by decide)) (pxa_cons (px_var 5) pxa_nil)))
      (pb_cons (sx_if (PXW.pt (ptw_or (DL.pt_no (pt_v (px_cb call_isi (l_isB (K := K) (T := "tuple")) T.n_isinstance boot_isinstance (pxa_cons (px_var 6) (pxa_cons (px_ty (T := "tuple") T.n_tuple (by decide +kernel)) pxa_nil))))) (ptw_or1 (DL.pt_cmp op_ne l_ne (px_cb call_len l_len T.n_len PySem.boot_len (pxa_cons (px_var 6) pxa_nil)) (px_cb call_len l_len T.n_len PySem.boot_len (pxa_cons (px_var 3) pxa_nil)))))) (pb_one (sx_ret px_bl)) pb_nil)
      (pb_cons (sx_if (DL.pt_cmp (op_neD hu) l_neD (px_lc (own := [("_law_k", 4)]) (own1 4) rfl sc.nd (DL.ix_range1 T.n_range (pxa_cons (px_cb call_len l_len T.n_len PySem.boot_len (pxa_cons (px_var 3) pxa_nil)) pxa_nil)) (blkOk_by (N := ["_law_script", "_law_m", "_law_turn", "_law_some", "_law_k", "_law_due", "_law_found"]) (sc := defScope (top 80)) (by decide +kernel)) (fun _ _ _ _ _ => pg_name (i := 4) sc.nd rfl (Or.inl rfl)) (fun _ _ _ _ _ => pxts_one (DL.pt_no (pt_v (px_callG k__law_is_same hgu (hr.mono (by decide)) (pxa_cons (px_ix L2.ix_tup l_ixT (px_var 6) (px_var 4)) (pxa_cons (px_ix L2.ix_tup l_ixT (px_var 3) (px_var 4)) pxa_nil)))))) (fun _ _ _ _ _ => (px_var 4))) (px_lst pxa_nil)) (pb_one (sx_ret px_bl)) pb_nil)
      (pb_one (sx_if (PXW.pt (ptw_or (DL.pt_cmp op_ne l_ne (px_call0 k_script_text (hr.mono (by decide)) (pxa_cons (px_var 6) pxa_nil)) (px_var 5)) (ptw_or1 (DL.pt_cmp op_ne l_ne (px_cb call_len l_len T.n_len PySem.boot_len (pxa_cons (px_callK1 kk_read_script (hr.mono (by decide)) (px_var 5)) pxa_nil)) (px_cb call_len l_len T.n_len PySem.boot_len (pxa_cons (px_var 3) pxa_nil)))))) (pb_one (sx_ret px_bl)) pb_nil)))))))))
      (pb_one (sx_ret (px_and (DL.px_cmp (op_eqD hu) l_eqD (px_call0 k_read_script (hr.mono (by decide)) (pxa_cons (px_str []) pxa_nil)) (px_tup pxa_nil)) (px_and (DL.px_cmp op_eq l_eq (px_call0 k_script_text (hr.mono (by decide)) (pxa_cons (px_tup pxa_nil) pxa_nil)) (px_str [])) (px_one (px_call00 k__law_by_hand (hr.mono (by decide))))))))))
  · rintro ds os PP ⟨cs, rfl, rfl, hc, k⟩ hx
    refine q_setN ?_
    refine (ev_cons ev_var ev_nil : EvA _ _ [.lst (cs.map D.int)]) _ ⟨[], [], List.Perm.refl _, cs, rfl, rfl, hc, fun p q os1 hd => ?_⟩
    (try dsimp only)
    have hcl : (cs.map D.int).length = cs.length := List.length_map _
    apply q_seq
    have hN : ∀ N : Int, N = 1 + (if (((cs.map D.int).length : Nat) : Int) < 3 then (((cs.map D.int).length : Nat) : Int) else 3) → 0 ≤ N ∧ N ≤ 4 := fun N e => by
      rw [e, hcl]
      split <;> omega
    generalize hNN : 1 + (if (((cs.map D.int).length : Nat) : Int) < 3 then (((cs.map D.int).length : Nat) : Int) else 3) = N at hN
    obtain ⟨hN0, hN4⟩ := hN N rfl
    refine s_for (ei_range1 (j := N) (ev_cons (evd_eq (ev_op ev_c (ev_cb (ev_cons ev_c (ev_cons (ev_cb (ev_cons ev_var ev_nil) v_lenL) ev_nil)) v_min2) v_I0) (by rw [hNN])) ev_nil) (by omega) (by omega)) (fun i ρ => ∃ (os' : List Cell) (lo : Addr → Prop) (s2 s3 s4 s5 s6 : Option D), ρ = ⟨[some (.lst (cs.map D.int)), some (.raw (.ref p)), s2, s3, s4, s5, s6], os' ++ [], lo⟩ ∧ Dst p q (1000 * i) os') ⟨os1, _, none, none, none, none, none, rfl, hd⟩ ?_ ?_
    · rintro i dk ρ hi ⟨os', lo, s2, s3, s4, s5, s6, rfl, hd'⟩
      have hil : i < 4 := by
        have := (List.getElem?_eq_some_iff.mp hi).1
        have e : (intsD 0 N.toNat).length = N.toNat := by simp [intsD]
        omega
      refine eg_name _ ?_
      refine q_setN ?_
      refine d_cb (d_cons (d_lc (d_rng (d_cons ?_))))
      refine d_draw (r := []) 7 (ev_cons ev_var (ev_cons ev_c ev_nil)) rfl (List.Perm.refl _) hd' (by omega) ⟨by decide, by decide⟩ fun d os2 ⟨t, ht, ed⟩ hd2 => ?_
      subst ed
      (try dsimp only)
      refine d_nil ?_
      (try dsimp only)
      refine ⟨(t : Int), rfl, by omega, by omega, ?_⟩
      have hlen : (intsD 0 ((t : Int)).toNat).length = t := by simp [intsD]
      refine lc_draws (out := fun d => ∃ dd, d = deedD aN aE dd ∧ GoodD dd) (r := []) (c := 102) rfl hd2 (by rw [hlen]; omega) (fun i' d os' Q' hi hd' kk => ?_) fun l os4 hl ho hd4 => ?_
      · have hil : i' < t := by rw [← hlen]; exact (List.getElem?_eq_some_iff.mp hi).1
        refine eg_name _ ?_
        refine d_draw (r := []) () (ev_cons ev_var ev_nil) rfl (List.Perm.refl _) hd' (by omega) trivial fun d2 os2 hm2 hd2 => ?_
        exact kk _ d2 os2 hm2 hd2
      · obtain ⟨m, rfl, hm⟩ := chgs_of ho
        rw [hlen] at hl hd4
        rw [List.length_map] at hl
        (try dsimp only)
        refine d_nil ?_
        (try dsimp only)
        refine v_tupOf (.inl (.inl rfl)) _ ?_
        (try dsimp only)
        have hg : GoodDs m := ⟨by omega, hm⟩
        have hcnt := scr_count (ds := m) hm
        have hsz := scr_len hg
        have hsum := sum_join [10] (scrLines m)
        rw [scr_join0] at hsum
        refine q_set (d := .str (scrText m)) (evd_eq (ev_m1 ev_c (ev_fn m (ev_cons ev_var ev_nil) hg) (v_join (sep := [10]) (l := scrLines m) (by
          show _ + _ * 1 ≤ _
          have := hg.len
          omega) (.inl (.inl rfl)))) (by rw [scr_join0])) eg_name ?_
        refine q_if (b := false) (evt_eq (ev_or (ev_test (ev_op (ev_fn m (ev_cons ev_var ev_nil) hg) ev_var v_neS)) fun _ => ev_test (ev_op (ev_fn m (ev_cons ev_var ev_nil) hg) ev_var v_neS)) (by simp)) (fun h => by cases h) fun _ => q_next ?_
        refine q_set (d := .tup (m.map (deedD aN aE))) (ev_fn m (ev_cons ev_var ev_nil) hg) eg_name ?_
        refine q_if (b := false) (evt_eq (ev_or (ev_not (ev_test (ev_cb (ev_cons ev_var (ev_cons ev_c ev_nil)) v_isTup))) fun _ => ev_test (ev_op (ev_cb (ev_cons ev_var ev_nil) v_lenT) (ev_cb (ev_cons ev_var ev_nil) v_lenT) v_neI)) (by simp)) (fun h => by cases h) fun _ => q_next ?_
        refine q_if (b := false) (evt_eq (ev_test (ev_op (x := .lst []) (evd_eq (ev_lc (l := List.range m.length) (enc := fun (i : Nat) => D.int (0 + (i : Int))) (f := fun _ => false) (g := fun (i : Nat) => D.int (0 + (i : Int))) (ei_range1 (j := (((m.map (deedD aN aE)).length : Nat) : Int)) (ev_cons (ev_cb (ev_cons ev_var ev_nil) v_lenT) ev_nil) (by rw [List.length_map]; have := hg.len; omega) (by rw [List.length_map]; have := hg.len; omega)) (by unfold intsD; rw [List.length_map, Int.toNat_natCast]) (by rw [List.length_range]; have := hg.len; omega) fun j hj => ⟨_, eg_name, rfl, rfl, ?_, fun h => by cases h⟩) (b := .lst []) (by rw [List.filter_eq_nil_iff.mpr (fun _ _ => by simp)]; rfl)) (ev_lst ev_nil (by simp)) (v_neD (p := .list []) (q := .list []) rfl rfl rfl rfl))) rfl) (fun h => by cases h) fun _ => q_next ?_
        · have hj' := List.mem_range.mp hj
          have hge : m[j]? = some m[j] := List.getElem?_eq_getElem hj'
          have hat : atI (m.map (deedD aN aE)) (0 + (j : Int)) = some (deedD aN aE m[j]) := by
            rw [Int.zero_add]
            exact atI_nat (by rw [List.getElem?_map, hge]; rfl)
          exact evt_eq (ev_not (ev_test (ev_fn m[j] (ev_cons (ev_op ev_var ev_var (v_ixT hat)) (ev_cons (ev_op ev_var ev_var (v_ixT hat)) ev_nil)) (hm _ (List.getElem_mem hj'))))) rfl
        refine s_if (b := false) (evt_eq (ev_or (ev_test (ev_op (ev_fn m (ev_cons ev_var ev_nil) hg) ev_var v_neS)) fun _ => ev_test (ev_op (ev_cb (ev_cons (ev_fn m (ev_cons ev_var ev_nil) hg) ev_nil) v_lenT) (ev_cb (ev_cons ev_var ev_nil) v_lenT) v_neI)) (by simp)) (fun h => by cases h) fun _ => ?_
        exact s_next ⟨os4, _, _, _, _, _, _, rfl, hd4.mono (by omega)⟩
    · rintro ρ ⟨os', lo, s2, s3, s4, s5, s6, rfl, hd'⟩
      (try dsimp only)
      refine s_ret (d := .bl true) (ev_andV (b1 := true) (b2 := true) ?_ fun _ => ev_andV (b1 := true) (b2 := true) ?_ fun _ => ?_) ⟨[], List.nil_sublist _, k⟩
      · exact evd_eq (ev_op (ev_fnE ([] : List Deed) (ev_cons ev_c ev_nil) rfl gd0) (ev_tup ev_nil (by simp)) (v_eqD (p := .tuple []) (q := .tuple []) rfl rfl rfl rfl)) rfl
      · exact evd_eq (ev_op (ev_fnE ([] : List Deed) (ev_cons (ev_tup ev_nil (by simp)) ev_nil) rfl gd0) ev_c v_eqS) rfl
      · exact ev_fn () ev_nil trivial
end
end K86

set_option Elab.async false
set_option linter.all false
set_option maxRecDepth 100000
set_option maxHeartbeats 2000000
namespace K86
open PySem PySem.Spec PyProof PyProof.Rows L2 TL DL He

theorem txt_of {K : PySem.W.Frag} {h : Heap} {mg : Str → Option Value} (X : K.In h) (G : h.Ns mainGlobals mg) (c : SaysX faL fnL K) : Txt K mg (ga K "Name") (ga K "Entry") (ga K "Reading") where
  n_len := free_ok X G (c.fact 0 (f := fun K => (Fa.free "len").ok K))
  n_isinstance := free_ok X G (c.fact 1 (f := fun K => (Fa.free "isinstance").ok K))
  n_all := free_ok X G (c.fact 2 (f := fun K => (Fa.free "all").ok K))
  n_str := free_ok X G (c.fact 3 (f := fun K => (Fa.free "str").ok K))
  n_dict := free_ok X G (c.fact 4 (f := fun K => (Fa.free "dict").ok K))
  n_tuple := free_ok X G (c.fact 5 (f := fun K => (Fa.free "tuple").ok K))
  n_list := free_ok X G (c.fact 6 (f := fun K => (Fa.free "list").ok K))
  n_int := free_ok X G (c.fact 7 (f := fun K => (Fa.free "int").ok K))
  n_max := free_ok X G (c.fact 8 (f := fun K => (Fa.free "max").ok K))
  n_min := free_ok X G (c.fact 9 (f := fun K => (Fa.free "min").ok K))
  n_sorted := free_ok X G (c.fact 10 (f := fun K => (Fa.free "sorted").ok K))
  n_enumerate := free_ok X G (c.fact 11 (f := fun K => (Fa.free "enumerate").ok K))
  n_range := free_ok X G (c.fact 12 (f := fun K => (Fa.free "range").ok K))
  n_repr := free_ok X G (c.fact 13 (f := fun K => (Fa.free "repr").ok K))
  g_MAX_WORD := int_ok X G (c.fact 14 (f := fun K => (Fa.int "MAX_WORD" 12).ok K))
  g_MAX_TEXT := int_ok X G (c.fact 15 (f := fun K => (Fa.int "MAX_TEXT" 60).ok K))
  g_MAX_PAIRS := int_ok X G (c.fact 16 (f := fun K => (Fa.int "MAX_PAIRS" 4).ok K))
  g_MAX_LEAVES := int_ok X G (c.fact 17 (f := fun K => (Fa.int "MAX_LEAVES" 12).ok K))
  g_MAX_VALUE := int_ok X G (c.fact 18 (f := fun K => (Fa.int "MAX_VALUE" 60).ok K))
  g_MAX_DIGITS := int_ok X G (c.fact 19 (f := fun K => (Fa.int "MAX_DIGITS" 30).ok K))
  g_LETTERS := str_ok X G (c.fact 20 (f := fun K => (Fa.str "LETTERS" ⟨#[97, 98, 99, 100, 101, 102, 103, 104, 105, 106, 107, 108, 109, 110, 111, 112, 113, 114, 115, 116, 117, 118, 119, 120, 121, 122]⟩).ok K))
  g_BACKSLASH := str_ok X G (c.fact 21 (f := fun K => (Fa.str "BACKSLASH" ⟨#[92]⟩).ok K))
  g_ESCAPED := str_ok X G (c.fact 22 (f := fun K => (Fa.str "ESCAPED" ⟨#[44, 43, 61, 92]⟩).ok K))
  g_NEWLINE := str_ok X G (c.fact 23 (f := fun K => (Fa.str "NEWLINE" ⟨#[10]⟩).ok K))
  g_COLON := str_ok X G (c.fact 24 (f := fun K => (Fa.str "COLON" ⟨#[58, 32]⟩).ok K))
  g_DIGITS := str_ok X G (c.fact 25 (f := fun K => (Fa.str "DIGITS" ⟨#[48, 49, 50, 51, 52, 53, 54, 55, 56, 57]⟩).ok K))
  g_ADD := str_ok X G (c.fact 26 (f := fun K => (Fa.str "ADD" ⟨#[97, 100, 100, 58, 32]⟩).ok K))
  g_DELETE := str_ok X G (c.fact 27 (f := fun K => (Fa.str "DELETE" ⟨#[100, 101, 108, 101, 116, 101, 58, 32]⟩).ok K))
  g_MODIFY := str_ok X G (c.fact 28 (f := fun K => (Fa.str "MODIFY" ⟨#[109, 111, 100, 105, 102, 121, 58, 32]⟩).ok K))
  g_RENAME := str_ok X G (c.fact 29 (f := fun K => (Fa.str "RENAME" ⟨#[114, 101, 110, 97, 109, 101, 58, 32]⟩).ok K))
  g_LEAF := str_ok X G (c.fact 30 (f := fun K => (Fa.str "LEAF" ⟨#[108, 101, 97, 102, 58, 32]⟩).ok K))
  g_UNDER := str_ok X G (c.fact 31 (f := fun K => (Fa.str "UNDER" ⟨#[117, 110, 100, 101, 114, 58, 32]⟩).ok K))
  g_KEEP := str_ok X G (c.fact 32 (f := fun K => (Fa.str "KEEP" ⟨#[107, 101, 101, 112, 58, 32, 84, 82, 85, 69]⟩).ok K))
  g_VALUE := str_ok X G (c.fact 33 (f := fun K => (Fa.str "VALUE" ⟨#[61, 32]⟩).ok K))
  g_INCREMENT := str_ok X G (c.fact 34 (f := fun K => (Fa.str "INCREMENT" ⟨#[105, 110, 99, 114, 101, 109, 101, 110, 116]⟩).ok K))
  g_CHANGES := ⟨_, glo_ok X G (c.fact 35 (f := fun K => (Fa.glo "CHANGES").ok K)), fun H => tupB_ok (c.fact 36 (f := fun K => tupB K "CHANGES" [.str ⟨#[97, 100, 100]⟩, .str ⟨#[100, 101, 108, 101, 116, 101]⟩, .str ⟨#[114, 101, 112, 108, 97, 99, 101]⟩])) H⟩
  a_Name := glo_ok X G (c.fact 78 (f := fun K => (Fa.glo "Name").ok K))
  a_Entry := glo_ok X G (c.fact 79 (f := fun K => (Fa.glo "Entry").ok K))
  c_Name := cls_ok (c.fact 81 (f := fun K => (Fa.cls "Name").ok K))
  c_Entry := cls_ok (c.fact 82 (f := fun K => (Fa.cls "Entry").ok K))
  c_Reading := cls_ok (c.fact 83 (f := fun K => (Fa.cls "Reading").ok K))
  ks_Name := obB_ok (c.fact 84 (f := kitF "str" "Name" false))
  s_Name := insB_ok (c.fact 85 (f := insB "Name"))
  s_Entry := insB_ok (c.fact 86 (f := insB "Entry"))
  na_Name_own_text := noat_ok (c.fact 87 (f := fun K => (Fa.noat "Name" "own_text").ok K))
  na_Name_own_leaves := noat_ok (c.fact 88 (f := fun K => (Fa.noat "Name" "own_leaves").ok K))
  na_Name_own_order := noat_ok (c.fact 89 (f := fun K => (Fa.noat "Name" "own_order").ok K))
  na_Entry_own_name := noat_ok (c.fact 90 (f := fun K => (Fa.noat "Entry" "own_name").ok K))
  na_Entry_own_table := noat_ok (c.fact 91 (f := fun K => (Fa.noat "Entry" "own_table").ok K))
  na_Entry_own_key := noat_ok (c.fact 92 (f := fun K => (Fa.noat "Entry" "own_key").ok K))
  na_Reading_own_lines := noat_ok (c.fact 93 (f := fun K => (Fa.noat "Reading" "own_lines").ok K))
  na_Reading_own_at := noat_ok (c.fact 94 (f := fun K => (Fa.noat "Reading" "own_at").ok K))
theorem law_of {P : Program} {w : World} {K : PySem.W.Frag} {h base : Heap} {mg : Str → Option Value} (X : K.In h) (G : h.Ns mainGlobals mg) (c : SaysX faL fnL K) {fd : FuncData} (F : Fun K "law" "law" (top 80) (ga K "law") fd) :
    FnG P w K mg base 15 (ga K "law") fd ["_law_script"] R_law := by
  have T := txt_of X G c
  obtain ⟨fd_Entry_name, F_Entry_name⟩ := c.def_ 0 (d := d_Entry_name) rfl
  have p_Entry_name : KnP P w K mg base CX0 (ga K "Entry") "name" _ ["self"] _ := ⟨T.c_Entry, _, _, fd_Entry_name, propB_ok (c.fact 98 (f := propB "Entry" "name")), (F_Entry_name.binds (ps := ["self"]) fun _ _ _ _ _ _ us hl => match us, hl with | [_], _ => rfl), ok_Entry_name F_Entry_name T ⟩
  obtain ⟨fd_Name_text, F_Name_text⟩ := c.def_ 1 (d := d_Name_text) rfl
  have p_Name_text : KnP P w K mg base CX0 (ga K "Name") "text" _ ["self"] _ := ⟨T.c_Name, _, _, fd_Name_text, propB_ok (c.fact 99 (f := propB "Name" "text")), (F_Name_text.binds (ps := ["self"]) fun _ _ _ _ _ _ us hl => match us, hl with | [_], _ => rfl), ok_Name_text F_Name_text T ⟩
  obtain ⟨fd_Entry_words, F_Entry_words⟩ := c.def_ 2 (d := d_Entry_words) rfl
  have p_Entry_words : KnP P w K mg base CX0 (ga K "Entry") "words" _ ["self"] _ := ⟨T.c_Entry, _, _, fd_Entry_words, propB_ok (c.fact 100 (f := propB "Entry" "words")), (F_Entry_words.binds (ps := ["self"]) fun _ _ _ _ _ _ us hl => match us, hl with | [_], _ => rfl), ok_Entry_words F_Entry_words T ⟩
  obtain ⟨fd_Entry___getitem__, F_Entry___getitem__⟩ := c.def_ 3 (d := d_Entry___getitem__) rfl
  have s_Entry_getitem : KnS P w K mg base (ga K "Entry") "__getitem__" 1 ["self", "word"] (R_Entry_getitem (ga K "Name") (ga K "Entry")) := by
    obtain ⟨c1, c2⟩ := ba (c.fact 101 (f := spB "Entry" "__getitem__"))
    obtain ⟨c2, c3⟩ := ba c2
    exact ⟨_, fd_Entry___getitem__, eqO_ok c1, c2, c3, (F_Entry___getitem__.binds (ps := ["self", "word"]) fun _ _ _ _ _ _ us hl => match us, hl with | [_, _], _ => rfl), ok_Entry___getitem__ F_Entry___getitem__ T ⟩
  obtain ⟨fd_value_lines, F_value_lines⟩ := c.def_ 4 (d := d_value_lines) rfl
  have k_value_lines : Kn0 P w K mg base "value_lines" _ ["entry"] _ := ⟨_, fd_value_lines, glo_ok X G (c.fact 37 (f := fun K => (Fa.glo "value_lines").ok K)), F_value_lines.kp, (F_value_lines.binds (ps := ["entry"]) fun _ _ _ _ _ _ us hl => match us, hl with | [_], _ => rfl), ok_value_lines F_value_lines T p_Entry_words s_Entry_getitem⟩
  obtain ⟨fd_change_lines, F_change_lines⟩ := c.def_ 5 (d := d_change_lines) rfl
  have k_change_lines : Kn0 P w K mg base "change_lines" _ ["change"] _ := ⟨_, fd_change_lines, glo_ok X G (c.fact 38 (f := fun K => (Fa.glo "change_lines").ok K)), F_change_lines.kp, (F_change_lines.binds (ps := ["change"]) fun _ _ _ _ _ _ us hl => match us, hl with | [_], _ => rfl), ok_change_lines F_change_lines T ⟩
  obtain ⟨fd_deed_lines, F_deed_lines⟩ := c.def_ 6 (d := d_deed_lines) rfl
  have k_deed_lines : Kn0 P w K mg base "deed_lines" _ ["deed"] _ := ⟨_, fd_deed_lines, glo_ok X G (c.fact 39 (f := fun K => (Fa.glo "deed_lines").ok K)), F_deed_lines.kp, (F_deed_lines.binds (ps := ["deed"]) fun _ _ _ _ _ _ us hl => match us, hl with | [_], _ => rfl), ok_deed_lines F_deed_lines T p_Entry_name p_Name_text k_value_lines k_change_lines⟩
  obtain ⟨fd_script_text, F_script_text⟩ := c.def_ 7 (d := d_script_text) rfl
  have k_script_text : Kn0 P w K mg base "script_text" _ ["deeds"] _ := ⟨_, fd_script_text, glo_ok X G (c.fact 40 (f := fun K => (Fa.glo "script_text").ok K)), F_script_text.kp, (F_script_text.binds (ps := ["deeds"]) fun _ _ _ _ _ _ us hl => match us, hl with | [_], _ => rfl), ok_script_text F_script_text T k_deed_lines⟩
  obtain ⟨fd_Reading_is_at_end, F_Reading_is_at_end⟩ := c.def_ 8 (d := d_Reading_is_at_end) rfl
  have m_Reading_is_at_end : KnM P w K mg base CX0 (ga K "Reading") "is_at_end" _ ["self"] _ := ⟨T.c_Reading, _, fd_Reading_is_at_end, meth_ok (c.fact 102 (f := fun K => (Fa.meth "Reading" "is_at_end").ok K)), (F_Reading_is_at_end.binds (ps := ["self"]) fun _ _ _ _ _ _ us hl => match us, hl with | [_], _ => rfl), ok_Reading_is_at_end F_Reading_is_at_end T ⟩
  obtain ⟨fd_Reading_go_on, F_Reading_go_on⟩ := c.def_ 9 (d := d_Reading_go_on) rfl
  have m_Reading_go_on : KnM P w K mg base CX0 (ga K "Reading") "go_on" _ ["self"] _ := ⟨T.c_Reading, _, fd_Reading_go_on, meth_ok (c.fact 103 (f := fun K => (Fa.meth "Reading" "go_on").ok K)), (F_Reading_go_on.binds (ps := ["self"]) fun _ _ _ _ _ _ us hl => match us, hl with | [_], _ => rfl), ok_Reading_go_on F_Reading_go_on T ⟩
  obtain ⟨fd_Reading___init__, F_Reading___init__⟩ := c.def_ 10 (d := d_Reading___init__) rfl
  have i_Reading : KnI P w K mg base CX0 "Reading" (ga K "Reading") _ ["self", "text"] _ := ⟨_, fd_Reading___init__, mkr_ok (c.fact 97 (f := fun K => (Fa.mkr "Reading").ok K)), glo_ok X G (c.fact 80 (f := fun K => (Fa.glo "Reading").ok K)), (F_Reading___init__.binds (ps := ["self", "text"]) fun _ _ _ _ _ _ us hl => match us, hl with | [_, _], _ => rfl), ok_Reading___init__ F_Reading___init__ T ⟩
  obtain ⟨fd_Reading_ends_block, F_Reading_ends_block⟩ := c.def_ 11 (d := d_Reading_ends_block) rfl
  have m_Reading_ends_block : KnM P w K mg base CX0 (ga K "Reading") "ends_block" _ ["self"] _ := ⟨T.c_Reading, _, fd_Reading_ends_block, meth_ok (c.fact 104 (f := fun K => (Fa.meth "Reading" "ends_block").ok K)), (F_Reading_ends_block.binds (ps := ["self"]) fun _ _ _ _ _ _ us hl => match us, hl with | [_], _ => rfl), ok_Reading_ends_block F_Reading_ends_block T m_Reading_is_at_end⟩
  obtain ⟨fd_Reading_begins_with, F_Reading_begins_with⟩ := c.def_ 12 (d := d_Reading_begins_with) rfl
  have m_Reading_begins_with : KnM P w K mg base CX0 (ga K "Reading") "begins_with" _ ["self", "head"] _ := ⟨T.c_Reading, _, fd_Reading_begins_with, meth_ok (c.fact 105 (f := fun K => (Fa.meth "Reading" "begins_with").ok K)), (F_Reading_begins_with.binds (ps := ["self", "head"]) fun _ _ _ _ _ _ us hl => match us, hl with | [_, _], _ => rfl), ok_Reading_begins_with F_Reading_begins_with T m_Reading_is_at_end⟩
  obtain ⟨fd_Reading_next_line, F_Reading_next_line⟩ := c.def_ 13 (d := d_Reading_next_line) rfl
  have m_Reading_next_line : KnM P w K mg base CX0 (ga K "Reading") "next_line" _ ["self"] _ := ⟨T.c_Reading, _, fd_Reading_next_line, meth_ok (c.fact 106 (f := fun K => (Fa.meth "Reading" "next_line").ok K)), (F_Reading_next_line.binds (ps := ["self"]) fun _ _ _ _ _ _ us hl => match us, hl with | [_], _ => rfl), ok_Reading_next_line F_Reading_next_line T m_Reading_is_at_end⟩
  obtain ⟨fd_Reading_rest_behind, F_Reading_rest_behind⟩ := c.def_ 14 (d := d_Reading_rest_behind) rfl
  have m_Reading_rest_behind : KnM P w K mg base CX0 (ga K "Reading") "rest_behind" _ ["self", "head"] _ := ⟨T.c_Reading, _, fd_Reading_rest_behind, meth_ok (c.fact 107 (f := fun K => (Fa.meth "Reading" "rest_behind").ok K)), (F_Reading_rest_behind.binds (ps := ["self", "head"]) fun _ _ _ _ _ _ us hl => match us, hl with | [_, _], _ => rfl), ok_Reading_rest_behind F_Reading_rest_behind T m_Reading_next_line m_Reading_go_on⟩
  obtain ⟨fd_is_word, F_is_word⟩ := c.def_ 15 (d := d_is_word) rfl
  have k_is_word : Kn0 P w K mg base "is_word" _ ["value"] _ := ⟨_, fd_is_word, glo_ok X G (c.fact 41 (f := fun K => (Fa.glo "is_word").ok K)), F_is_word.kp, (F_is_word.binds (ps := ["value"]) fun _ _ _ _ _ _ us hl => match us, hl with | [_], _ => rfl), ok_is_word F_is_word T ⟩
  obtain ⟨fd_escaped, F_escaped⟩ := c.def_ 16 (d := d_escaped) rfl
  have k_escaped : Kn0 P w K mg base "escaped" _ ["value"] _ := ⟨_, fd_escaped, glo_ok X G (c.fact 42 (f := fun K => (Fa.glo "escaped").ok K)), F_escaped.kp, (F_escaped.binds (ps := ["value"]) fun _ _ _ _ _ _ us hl => match us, hl with | [_], _ => rfl), ok_escaped F_escaped T ⟩
  obtain ⟨fd_value_at, F_value_at⟩ := c.def_ 17 (d := d_value_at) rfl
  have k_value_at : Kn0 P w K mg base "value_at" _ ["text", "begin"] _ := ⟨_, fd_value_at, glo_ok X G (c.fact 43 (f := fun K => (Fa.glo "value_at").ok K)), F_value_at.kp, (F_value_at.binds (ps := ["text", "begin"]) fun _ _ _ _ _ _ us hl => match us, hl with | [_, _], _ => rfl), ok_value_at F_value_at T k_escaped⟩
  obtain ⟨fd_is_value, F_is_value⟩ := c.def_ 18 (d := d_is_value) rfl
  have k_is_value : Kn0 P w K mg base "is_value" _ ["value"] _ := ⟨_, fd_is_value, glo_ok X G (c.fact 44 (f := fun K => (Fa.glo "is_value").ok K)), F_is_value.kp, (F_is_value.binds (ps := ["value"]) fun _ _ _ _ _ _ us hl => match us, hl with | [_], _ => rfl), ok_is_value F_is_value T ⟩
  obtain ⟨fd_plain_text, F_plain_text⟩ := c.def_ 19 (d := d_plain_text) rfl
  have k_plain_text : Kn0 P w K mg base "plain_text" _ ["value"] _ := ⟨_, fd_plain_text, glo_ok X G (c.fact 45 (f := fun K => (Fa.glo "plain_text").ok K)), F_plain_text.kp, (F_plain_text.binds (ps := ["value"]) fun _ _ _ _ _ _ us hl => match us, hl with | [_], _ => rfl), ok_plain_text F_plain_text T ⟩
  obtain ⟨fd_is_plain, F_is_plain⟩ := c.def_ 20 (d := d_is_plain) rfl
  have k_is_plain : Kn0 P w K mg base "is_plain" _ ["value"] _ := ⟨_, fd_is_plain, glo_ok X G (c.fact 46 (f := fun K => (Fa.glo "is_plain").ok K)), F_is_plain.kp, (F_is_plain.binds (ps := ["value"]) fun _ _ _ _ _ _ us hl => match us, hl with | [_], _ => rfl), ok_is_plain F_is_plain T k_is_value k_plain_text⟩
  obtain ⟨fd_read_name, F_read_name⟩ := c.def_ 21 (d := d_read_name) rfl
  have k_read_name : Kn0 P w K mg base "read_name" _ ["text"] _ := ⟨_, fd_read_name, glo_ok X G (c.fact 47 (f := fun K => (Fa.glo "read_name").ok K)), F_read_name.kp, (F_read_name.binds (ps := ["text"]) fun _ _ _ _ _ _ us hl => match us, hl with | [_], _ => rfl), ok_read_name F_read_name T k_is_word k_value_at k_is_plain⟩
  obtain ⟨fd_Reading_name_behind, F_Reading_name_behind⟩ := c.def_ 22 (d := d_Reading_name_behind) rfl
  have m_Reading_name_behind : KnM P w K mg base CX0 (ga K "Reading") "name_behind" _ ["self", "head"] _ := ⟨T.c_Reading, _, fd_Reading_name_behind, meth_ok (c.fact 108 (f := fun K => (Fa.meth "Reading" "name_behind").ok K)), (F_Reading_name_behind.binds (ps := ["self", "head"]) fun _ _ _ _ _ _ us hl => match us, hl with | [_, _], _ => rfl), ok_Reading_name_behind F_Reading_name_behind T m_Reading_next_line m_Reading_go_on k_read_name⟩
  obtain ⟨fd_read_attributes, F_read_attributes⟩ := c.def_ 23 (d := d_read_attributes) rfl
  have k_read_attributes : Kn0 P w K mg base "read_attributes" _ ["reading"] _ := ⟨_, fd_read_attributes, glo_ok X G (c.fact 48 (f := fun K => (Fa.glo "read_attributes").ok K)), F_read_attributes.kp, (F_read_attributes.binds (ps := ["reading"]) fun _ _ _ _ _ _ us hl => match us, hl with | [_], _ => rfl), ok_read_attributes F_read_attributes T m_Reading_next_line m_Reading_go_on m_Reading_ends_block k_is_word k_is_value⟩
  obtain ⟨fd_leaf_text, F_leaf_text⟩ := c.def_ 24 (d := d_leaf_text) rfl
  have k_leaf_text : Kn0 P w K mg base "leaf_text" _ ["pairs"] _ := ⟨_, fd_leaf_text, glo_ok X G (c.fact 49 (f := fun K => (Fa.glo "leaf_text").ok K)), F_leaf_text.kp, (F_leaf_text.binds (ps := ["pairs"]) fun _ _ _ _ _ _ us hl => match us, hl with | [_], _ => rfl), ok_leaf_text F_leaf_text T k_escaped⟩
  obtain ⟨fd_normal_leaf, F_normal_leaf⟩ := c.def_ 25 (d := d_normal_leaf) rfl
  have k_normal_leaf : Kn0 P w K mg base "normal_leaf" _ ["pairs"] _ := ⟨_, fd_normal_leaf, glo_ok X G (c.fact 50 (f := fun K => (Fa.glo "normal_leaf").ok K)), F_normal_leaf.kp, (F_normal_leaf.binds (ps := ["pairs"]) fun _ _ _ _ _ _ us hl => match us, hl with | [_], _ => rfl), ok_normal_leaf F_normal_leaf T k_leaf_text k_plain_text⟩
  obtain ⟨fd_order_of, F_order_of⟩ := c.def_ 26 (d := d_order_of) rfl
  have k_order_of : Kn0 P w K mg base "order_of" _ ["leaves"] _ := ⟨_, fd_order_of, glo_ok X G (c.fact 51 (f := fun K => (Fa.glo "order_of").ok K)), F_order_of.kp, (F_order_of.binds (ps := ["leaves"]) fun _ _ _ _ _ _ us hl => match us, hl with | [_], _ => rfl), ok_order_of F_order_of T k_normal_leaf⟩
  obtain ⟨fd_Name___init__, F_Name___init__⟩ := c.defD 27 (d := d_Name___init__)
  have i_Name : KnI P w K mg base CX0 "Name" (ga K "Name") _ ["self", "text"] _ := ⟨_, fd_Name___init__, mkr_ok (c.fact 95 (f := fun K => (Fa.mkr "Name").ok K)), glo_ok X G (c.fact 78 (f := fun K => (Fa.glo "Name").ok K)), (bindsDf F_Name___init__ (ps := ["self", "text"]) (by intro z; cases z) fun _ _ _ _ _ _ _ us its hl hi => match us, its, hl, hi with | [_, _], [_], _, _ => ⟨_, rfl, rfl⟩), ok_Name___init__ F_Name___init__ T k_read_name k_order_of⟩
  obtain ⟨fd_need_name, F_need_name⟩ := c.def_ 28 (d := d_need_name) rfl
  have k_need_name : Kn0 P w K mg base "need_name" _ ["value"] _ := ⟨_, fd_need_name, glo_ok X G (c.fact 52 (f := fun K => (Fa.glo "need_name").ok K)), F_need_name.kp, (F_need_name.binds (ps := ["value"]) fun _ _ _ _ _ _ us hl => match us, hl with | [_], _ => rfl), ok_need_name F_need_name T i_Name⟩
  obtain ⟨fd_need_table, F_need_table⟩ := c.def_ 29 (d := d_need_table) rfl
  have k_need_table : Kn0 P w K mg base "need_table" _ ["attributes"] _ := ⟨_, fd_need_table, glo_ok X G (c.fact 53 (f := fun K => (Fa.glo "need_table").ok K)), F_need_table.kp, (F_need_table.binds (ps := ["attributes"]) fun _ _ _ _ _ _ us hl => match us, hl with | [_], _ => rfl), ok_need_table F_need_table T k_is_word k_is_value⟩
  obtain ⟨fd_Entry___init__, F_Entry___init__⟩ := c.def_ 30 (d := d_Entry___init__) rfl
  have w_Entry : KnW P w K mg base (ga K "Entry") _ ["self", "entry_name"] _ := ⟨_, mkr_ok (c.fact 96 (f := fun K => (Fa.mkr "Entry").ok K)), ok_Entry___init__ F_Entry___init__ T k_need_name k_need_table p_Name_text⟩
  obtain ⟨fd_Entry_of, F_Entry_of⟩ := c.def_ 31 (d := d_Entry_of) rfl
  have c_Entry_of : KnC P w K mg base (ga K "Entry") "of" 10 (R_Entry_of (ga K "Name") (ga K "Entry")) := by
    obtain ⟨c1, c2⟩ := cmB_ok (c.fact 109 (f := cmB "Entry" "of"))
    exact ⟨_, _, _, c1, c2, fnr_mk (ok_Entry_of F_Entry_of T k_need_name k_need_table w_Entry) (F_Entry_of.binds (ps := ["cls", "entry_name", "attributes"]) fun _ _ _ _ _ _ us hl => match us, hl with | [_, _, _], _ => rfl)⟩
  obtain ⟨fd_read_block, F_read_block⟩ := c.def_ 32 (d := d_read_block) rfl
  have k_read_block : Kn0 P w K mg base "read_block" _ ["reading", "head"] _ := ⟨_, fd_read_block, glo_ok X G (c.fact 54 (f := fun K => (Fa.glo "read_block").ok K)), F_read_block.kp, (F_read_block.binds (ps := ["reading", "head"]) fun _ _ _ _ _ _ us hl => match us, hl with | [_, _], _ => rfl), ok_read_block F_read_block T m_Reading_name_behind k_read_attributes c_Entry_of⟩
  obtain ⟨fd_is_integer_text, F_is_integer_text⟩ := c.def_ 33 (d := d_is_integer_text) rfl
  have k_is_integer_text : Kn0 P w K mg base "is_integer_text" _ ["value"] _ := ⟨_, fd_is_integer_text, glo_ok X G (c.fact 55 (f := fun K => (Fa.glo "is_integer_text").ok K)), F_is_integer_text.kp, (F_is_integer_text.binds (ps := ["value"]) fun _ _ _ _ _ _ us hl => match us, hl with | [_], _ => rfl), ok_is_integer_text F_is_integer_text T ⟩
  obtain ⟨fd_is_valid, F_is_valid⟩ := c.def_ 34 (d := d_is_valid) rfl
  have k_is_valid : Kn0 P w K mg base "is_valid" _ ["syntax", "value"] _ := ⟨_, fd_is_valid, glo_ok X G (c.fact 56 (f := fun K => (Fa.glo "is_valid").ok K)), F_is_valid.kp, (F_is_valid.binds (ps := ["syntax", "value"]) fun _ _ _ _ _ _ us hl => match us, hl with | [_, _], _ => rfl), ok_is_valid F_is_valid T k_is_value k_is_integer_text⟩
  obtain ⟨fd_read_change, F_read_change⟩ := c.def_ 35 (d := d_read_change) rfl
  have k_read_change : Kn0 P w K mg base "read_change" _ ["reading"] _ := ⟨_, fd_read_change, glo_ok X G (c.fact 57 (f := fun K => (Fa.glo "read_change").ok K)), F_read_change.kp, (F_read_change.binds (ps := ["reading"]) fun _ _ _ _ _ _ us hl => match us, hl with | [_], _ => rfl), ok_read_change F_read_change T m_Reading_next_line m_Reading_go_on m_Reading_begins_with m_Reading_rest_behind k_is_word k_is_valid⟩
  obtain ⟨fd_read_modify, F_read_modify⟩ := c.def_ 36 (d := d_read_modify) rfl
  have k_read_modify : Kn0 P w K mg base "read_modify" _ ["reading"] _ := ⟨_, fd_read_modify, glo_ok X G (c.fact 58 (f := fun K => (Fa.glo "read_modify").ok K)), F_read_modify.kp, (F_read_modify.binds (ps := ["reading"]) fun _ _ _ _ _ _ us hl => match us, hl with | [_], _ => rfl), ok_read_modify F_read_modify T m_Reading_ends_block m_Reading_rest_behind k_read_change⟩
  obtain ⟨fd_read_rename, F_read_rename⟩ := c.def_ 37 (d := d_read_rename) rfl
  have k_read_rename : Kn0 P w K mg base "read_rename" _ ["reading"] _ := ⟨_, fd_read_rename, glo_ok X G (c.fact 59 (f := fun K => (Fa.glo "read_rename").ok K)), F_read_rename.kp, (F_read_rename.binds (ps := ["reading"]) fun _ _ _ _ _ _ us hl => match us, hl with | [_], _ => rfl), ok_read_rename F_read_rename T m_Reading_next_line m_Reading_go_on m_Reading_begins_with m_Reading_rest_behind⟩
  obtain ⟨fd_read_deed, F_read_deed⟩ := c.def_ 38 (d := d_read_deed) rfl
  have k_read_deed : Kn0 P w K mg base "read_deed" _ ["reading"] _ := ⟨_, fd_read_deed, glo_ok X G (c.fact 60 (f := fun K => (Fa.glo "read_deed").ok K)), F_read_deed.kp, (F_read_deed.binds (ps := ["reading"]) fun _ _ _ _ _ _ us hl => match us, hl with | [_], _ => rfl), ok_read_deed F_read_deed T m_Reading_ends_block m_Reading_begins_with m_Reading_rest_behind k_read_block k_read_modify k_read_rename⟩
  obtain ⟨fd_read_script, F_read_script⟩ := c.def_ 39 (d := d_read_script) rfl
  have k_read_script : Kn0 P w K mg base "read_script" _ ["text"] _ := ⟨_, fd_read_script, glo_ok X G (c.fact 61 (f := fun K => (Fa.glo "read_script").ok K)), F_read_script.kp, (F_read_script.binds (ps := ["text"]) fun _ _ _ _ _ _ us hl => match us, hl with | [_], _ => rfl), ok_read_script F_read_script T m_Reading_is_at_end m_Reading_go_on i_Reading k_read_deed⟩
  have kk_script_text : KnK P w K mg base "script_text" "deeds" _ _ := ⟨_, fd_script_text, glo_ok X G (c.fact 40 (f := fun K => (Fa.glo "script_text").ok K)), F_script_text.kp, kbinds1 F_script_text (fun _ _ _ _ _ _ _ => rfl) (fun _ _ _ _ _ _ _ => rfl), ok_script_text F_script_text T k_deed_lines⟩
  have kk_read_script : KnK P w K mg base "read_script" "text" _ _ := ⟨_, fd_read_script, glo_ok X G (c.fact 61 (f := fun K => (Fa.glo "read_script").ok K)), F_read_script.kp, kbinds1 F_read_script (fun _ _ _ _ _ _ _ => rfl) (fun _ _ _ _ _ _ _ => rfl), ok_read_script F_read_script T m_Reading_is_at_end m_Reading_go_on i_Reading k_read_deed⟩
  obtain ⟨fd__law_begun, F__law_begun⟩ := c.def_ 40 (d := d__law_begun) rfl
  have k__law_begun : Kn0 P w K mg base "_law_begun" _ ["_law_script"] _ := ⟨_, fd__law_begun, glo_ok X G (c.fact 62 (f := fun K => (Fa.glo "_law_begun").ok K)), F__law_begun.kp, (F__law_begun.binds (ps := ["_law_script"]) fun _ _ _ _ _ _ us hl => match us, hl with | [_], _ => rfl), ok__law_begun F__law_begun T ⟩
  obtain ⟨fd__law_draw, F__law_draw⟩ := c.def_ 41 (d := d__law_draw) rfl
  have k__law_draw : Kn0 P w K mg base "_law_draw" _ ["_law_m", "_law_top"] _ := ⟨_, fd__law_draw, glo_ok X G (c.fact 63 (f := fun K => (Fa.glo "_law_draw").ok K)), F__law_draw.kp, (F__law_draw.binds (ps := ["_law_m", "_law_top"]) fun _ _ _ _ _ _ us hl => match us, hl with | [_, _], _ => rfl), ok__law_draw F__law_draw T ⟩
  obtain ⟨fd__law_pick, F__law_pick⟩ := c.def_ 42 (d := d__law_pick) rfl
  have k__law_pick : Kn0 P w K mg base "_law_pick" _ ["_law_m", "_law_items"] _ := ⟨_, fd__law_pick, glo_ok X G (c.fact 64 (f := fun K => (Fa.glo "_law_pick").ok K)), F__law_pick.kp, (F__law_pick.binds (ps := ["_law_m", "_law_items"]) fun _ _ _ _ _ _ us hl => match us, hl with | [_, _], _ => rfl), ok__law_pick F__law_pick T k__law_draw⟩
  obtain ⟨fd__law_escaped, F__law_escaped⟩ := c.def_ 43 (d := d__law_escaped) rfl
  have k__law_escaped : Kn0 P w K mg base "_law_escaped" _ ["_law_value_here"] _ := ⟨_, fd__law_escaped, glo_ok X G (c.fact 65 (f := fun K => (Fa.glo "_law_escaped").ok K)), F__law_escaped.kp, (F__law_escaped.binds (ps := ["_law_value_here"]) fun _ _ _ _ _ _ us hl => match us, hl with | [_], _ => rfl), ok__law_escaped F__law_escaped T ⟩
  obtain ⟨fd__law_name, F__law_name⟩ := c.def_ 44 (d := d__law_name) rfl
  have k__law_name : Kn0 P w K mg base "_law_name" _ ["_law_m"] _ := ⟨_, fd__law_name, glo_ok X G (c.fact 66 (f := fun K => (Fa.glo "_law_name").ok K)), F__law_name.kp, (F__law_name.binds (ps := ["_law_m"]) fun _ _ _ _ _ _ us hl => match us, hl with | [_], _ => rfl), ok__law_name F__law_name T k__law_draw k__law_pick k__law_escaped⟩
  obtain ⟨fd__law_value, F__law_value⟩ := c.def_ 45 (d := d__law_value) rfl
  have k__law_value : Kn0 P w K mg base "_law_value" _ ["_law_m"] _ := ⟨_, fd__law_value, glo_ok X G (c.fact 67 (f := fun K => (Fa.glo "_law_value").ok K)), F__law_value.kp, (F__law_value.binds (ps := ["_law_m"]) fun _ _ _ _ _ _ us hl => match us, hl with | [_], _ => rfl), ok__law_value F__law_value T k__law_pick⟩
  obtain ⟨fd__law_table, F__law_table⟩ := c.def_ 46 (d := d__law_table) rfl
  have k__law_table : Kn0 P w K mg base "_law_table" _ ["_law_m"] _ := ⟨_, fd__law_table, glo_ok X G (c.fact 68 (f := fun K => (Fa.glo "_law_table").ok K)), F__law_table.kp, (F__law_table.binds (ps := ["_law_m"]) fun _ _ _ _ _ _ us hl => match us, hl with | [_], _ => rfl), ok__law_table F__law_table T k__law_draw k__law_pick k__law_value⟩
  obtain ⟨fd__law_string, F__law_string⟩ := c.def_ 47 (d := d__law_string) rfl
  have k__law_string : Kn0 P w K mg base "_law_string" _ ["_law_m"] _ := ⟨_, fd__law_string, glo_ok X G (c.fact 69 (f := fun K => (Fa.glo "_law_string").ok K)), F__law_string.kp, (F__law_string.binds (ps := ["_law_m"]) fun _ _ _ _ _ _ us hl => match us, hl with | [_], _ => rfl), ok__law_string F__law_string T k__law_pick⟩
  obtain ⟨fd__law_drawn_change, F__law_drawn_change⟩ := c.def_ 48 (d := d__law_drawn_change) rfl
  have k__law_drawn_change : Kn0 P w K mg base "_law_drawn_change" _ ["_law_m"] _ := ⟨_, fd__law_drawn_change, glo_ok X G (c.fact 70 (f := fun K => (Fa.glo "_law_drawn_change").ok K)), F__law_drawn_change.kp, (F__law_drawn_change.binds (ps := ["_law_m"]) fun _ _ _ _ _ _ us hl => match us, hl with | [_], _ => rfl), ok__law_drawn_change F__law_drawn_change T k__law_draw k__law_pick k__law_value⟩
  obtain ⟨fd__law_deed, F__law_deed⟩ := c.def_ 49 (d := d__law_deed) rfl
  have k__law_deed : Kn0 P w K mg base "_law_deed" _ ["_law_m"] _ := ⟨_, fd__law_deed, glo_ok X G (c.fact 71 (f := fun K => (Fa.glo "_law_deed").ok K)), F__law_deed.kp, (F__law_deed.binds (ps := ["_law_m"]) fun _ _ _ _ _ _ us hl => match us, hl with | [_], _ => rfl), ok__law_deed F__law_deed T k__law_draw k__law_pick k__law_name k__law_table c_Entry_of k__law_string k__law_drawn_change⟩
  obtain ⟨fd__law_entry_lines, F__law_entry_lines⟩ := c.def_ 50 (d := d__law_entry_lines) rfl
  have k__law_entry_lines : Kn0 P w K mg base "_law_entry_lines" _ ["_law_head", "_law_name_here", "_law_table_here"] _ := ⟨_, fd__law_entry_lines, glo_ok X G (c.fact 72 (f := fun K => (Fa.glo "_law_entry_lines").ok K)), F__law_entry_lines.kp, (F__law_entry_lines.binds (ps := ["_law_head", "_law_name_here", "_law_table_here"]) fun _ _ _ _ _ _ us hl => match us, hl with | [_, _, _], _ => rfl), ok__law_entry_lines F__law_entry_lines T ⟩
  obtain ⟨fd__law_deed_lines, F__law_deed_lines⟩ := c.def_ 51 (d := d__law_deed_lines) rfl
  have k__law_deed_lines : Kn0 P w K mg base "_law_deed_lines" _ ["_law_one"] _ := ⟨_, fd__law_deed_lines, glo_ok X G (c.fact 73 (f := fun K => (Fa.glo "_law_deed_lines").ok K)), F__law_deed_lines.kp, (F__law_deed_lines.binds (ps := ["_law_one"]) fun _ _ _ _ _ _ us hl => match us, hl with | [_], _ => rfl), ok__law_deed_lines F__law_deed_lines T p_Entry_words p_Entry_name p_Name_text s_Entry_getitem k__law_entry_lines⟩
  obtain ⟨fd__law_script_lines, F__law_script_lines⟩ := c.def_ 52 (d := d__law_script_lines) rfl
  have k__law_script_lines : Kn0 P w K mg base "_law_script_lines" _ ["_law_some"] _ := ⟨_, fd__law_script_lines, glo_ok X G (c.fact 74 (f := fun K => (Fa.glo "_law_script_lines").ok K)), F__law_script_lines.kp, (F__law_script_lines.binds (ps := ["_law_some"]) fun _ _ _ _ _ _ us hl => match us, hl with | [_], _ => rfl), ok__law_script_lines F__law_script_lines T k__law_deed_lines⟩
  obtain ⟨fd_Entry___eq__, F_Entry___eq__⟩ := c.def_ 53 (d := d_Entry___eq__) rfl
  have s_Entry_eq : KnS P w K mg base (ga K "Entry") "__eq__" 1 ["self", "other"] (R_Entry_eq (ga K "Name") (ga K "Entry")) := by
    obtain ⟨c1, c2⟩ := ba (c.fact 110 (f := spB "Entry" "__eq__"))
    obtain ⟨c2, c3⟩ := ba c2
    exact ⟨_, fd_Entry___eq__, eqO_ok c1, c2, c3, (F_Entry___eq__.binds (ps := ["self", "other"]) fun _ _ _ _ _ _ us hl => match us, hl with | [_, _], _ => rfl), ok_Entry___eq__ F_Entry___eq__ T ⟩
  obtain ⟨fd__law_is_same, F__law_is_same⟩ := c.def_ 54 (d := d__law_is_same) rfl
  have k__law_is_same : KnG P w K mg base "_law_is_same" _ ["_law_found", "_law_due"] _ := ⟨_, fd__law_is_same, glo_ok X G (c.fact 75 (f := fun K => (Fa.glo "_law_is_same").ok K)), F__law_is_same.kp, (F__law_is_same.binds (ps := ["_law_found", "_law_due"]) fun _ _ _ _ _ _ us hl => match us, hl with | [_, _], _ => rfl), ok__law_is_same F__law_is_same T s_Entry_eq⟩
  obtain ⟨fd__law_by_hand, F__law_by_hand⟩ := c.def_ 55 (d := d__law_by_hand) rfl
  have k__law_by_hand : Kn0 P w K mg base "_law_by_hand" _ [] _ := ⟨_, fd__law_by_hand, glo_ok X G (c.fact 76 (f := fun K => (Fa.glo "_law_by_hand").ok K)), F__law_by_hand.kp, (F__law_by_hand.binds (ps := []) fun _ _ _ _ _ _ us hl => match us, hl with | [], _ => rfl), ok__law_by_hand F__law_by_hand T k_script_text k_read_script⟩
  exact ok_law F T k_script_text k_read_script kk_script_text kk_read_script k__law_begun k__law_draw k__law_deed k__law_script_lines k__law_is_same k__law_by_hand
end K86

set_option Elab.async false
set_option linter.all false
set_option maxRecDepth 100000
set_option maxHeartbeats 0
namespace K86
open PySem PySem.Spec PyProof PyProof.Rows L2 TL DL He
theorem facts {P : Program} {w : World} {K : PySem.W.Frag} {h : Heap} {mg : Str → Option Value} {f : Addr} (X : K.In h) (G : h.Ns mainGlobals mg) (hfa : mg ("law" : Str) = some (.ref f)) (c : SaysX faL fnL K) :
    ∃ fd : FuncData, (∀ (s : Shared) (v : Value), BindsTo s fd ⟨[v], []⟩ [("_law_script", v)]) ∧ ∀ base : Heap, K.In base → base.Ns mainGlobals mg → FnG P w K mg base 15 f fd ["_law_script"] R_law := by
  obtain ⟨fd, F⟩ := c.def_ 56 (d := d_law) rfl
  have e := hfa.symm.trans (glo_ok X G (c.fact 77 (f := fun K => (Fa.glo "law").ok K)))
  cases e
  obtain ⟨⟨oc, od, kV, doc, pm, an, cdv, ct, osl, h1, h2, h3⟩, kp⟩ := F
  subst h1
  exact ⟨_, fun s v => .of_eq rfl, fun base _ _ => law_of X G c ⟨⟨oc, od, kV, doc, pm, an, cdv, ct, osl, rfl, h2, h3⟩, kp⟩⟩
end K86
open PySem PySem.W PySem.Calls PyProof.Rows
theorem PySem.Challenge.cw_dirservice_k90_scripts_there_and_back_holds : PySem.Challenge.rw_dirservice_k90_scripts_there_and_back.Holds := by
  w_on; o_law
  refine HandSHeadRun.head_any (r := OpenLaw.row PySem.Challenge.rw_dirservice_k90_scripts_there_and_back) (q := view (OpenLaw.row PySem.Challenge.rw_dirservice_k90_scripts_there_and_back).prog [80]) (H := K86.hk) (ob := K86.ob) (M := 8000) (loose := K86.names) (d := HandSHeadRun.topDef (OpenLaw.row PySem.Challenge.rw_dirservice_k90_scripts_there_and_back).prog 80) (kwd := []) K86.ob_eq
    (by kernel_rfl) (fun s => by kernel_rfl) K86.run (by kernel_rfl) (by kernel_rfl) (by kernel_rfl) (by rfl) (by first | assumption | decide +kernel) (by decide +kernel) ⟨rfl, rfl, rfl, rfl, rfl, by decide +kernel⟩ ?hw ?hc
  case hw => w_witness2
  case hc =>
    refine DL.walkG (l := PySem.Challenge.rw_dirservice_k90_scripts_there_and_back) (n := 63) (k := 15) (x := "_law_script") rfl (by decide) (by kernel_rfl) ⟨rfl, by decide, by decide⟩ ?F
    intro w mg fa h Y G hmg0
    obtain ⟨K, KX, c⟩ := Y
    have hmg : mg ("law" : PySem.Str) = some (.ref fa) := by
      have e : (HandSHeadRun.topDef (OpenLaw.row PySem.Challenge.rw_dirservice_k90_scripts_there_and_back).prog 80).name = ("law" : PySem.Str) := by kernel_rfl
      rw [← e]
      exact hmg0
    obtain ⟨fd, hb, hF⟩ := K86.facts (P := (PySem.Challenge.rw_dirservice_k90_scripts_there_and_back).prog) (w := w) KX G hmg c
    exact ⟨K, fd, _, KX, c.fact 111 (f := DL.noLst), hb, fun H a ns hl hS => DL.pr_law hS fun P hp => ⟨ns, rfl, rfl, hl, hp⟩, hF⟩
