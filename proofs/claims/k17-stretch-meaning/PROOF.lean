import PyProof.Rows.All
import Wide.All
import OpenK.AllK
import Wide.FinOn
import KE.KDictKeyed
import KE.KDictLaw
import HandS.ForMost
import HandS.Flow
import HandS.Exc
import HandS.ExcOwn
import HandS.ExcCtx
import HandS.ExcInit
import HandS.ExcField
import HandS.ExcIs
import HandS.HotCalls
import HandS.Defaults
import HandS.Nested
import HandS.Wide
import HandS.IsInst
import HandS.StrMore
import HandS.TupAny
import HandS.Style
import KE.DataEq
import KE.KSuper
import KE.KExcSuper
import KE.KExcIs
import HandS.Small
import KE.SortData
import PyProof.Rows.StrRev
import HandS.More
import KE.GoesComp
import KE.KStateDown
import HandS.Head0
import HandS.Head1
import HandS.Head2
import HandS.HeadEnd
import HandS.HeadHook1
import HandS.HeadHook2
import KE.KExcInit
import HandS.MakeKwOnly
import HandS.CallSlots
import HandS.TupLen
import HandS.Conv
import PyProof.StrOps2
import PyProof.Rows.SeqMore
import KE.DataMinMax
import KE.SortCalls
import KE.KDictList
import HandS.SortKw
import KE.GoesMore
import HandS.WideBits
import HandS.ExcValue
import KE.KDictCopyH
import KE.KDictSum
import HandS.FStr
import KE.KTreeF
import PySem.Challenge.RW_nocounters_k17_stretch_meaning
import HandS.HeadHook3
import HandS.Ends
import PyProof.ReprRoads
import PyProof.ReprLen
import HandS.Text
import HandS.RevRange
import HandS.RaiseMore
import KE.GoesNew
import KE.GoesEnumKw
import PyProof.FitsInt
import PyProof.Rows.BitMore
/-! ## texts -/
set_option Elab.async false
set_option linter.all false
set_option maxRecDepth 100000
set_option maxHeartbeats 2000000
namespace D2
open PySem PySem.Spec PyProof.Rows L2
abbrev sOf (l : List Nat) : Str := ⟨l.toArray⟩
abbrev lit (x : Str) : List Nat := x.cps.toList
theorem sOf_lit (x : Str) : sOf (lit x) = x := by cases x; simp [sOf, lit]
theorem lit_sOf (l : List Nat) : lit (sOf l) = l := by simp [sOf, lit]

abbrev FnC : Type := Option (Str × Str × Arguments × FuncBody × Scope × Addr × List Str × Addr)
def fnC (K : PySem.W.Frag) (f : Addr) : FnC := match K.lookup f with
  | some ⟨_, _, .func fd, _⟩ => some (fd.name, fd.qualname, fd.params, fd.body, fd.scope, fd.globals, fd.closure.map (·.1), fd.builtins)
  | _ => none
structure IniD where
  cls : Str
  qual : Str
  fld : Str
  st : Stmt
def IniD.val (d : IniD) : FnC := some (("__init__" : Str), d.qual, defArgs d.st, FuncBody.stmts (defBody d.st), defScope d.st, mainGlobals, [("__class__" : Str)], builtinsNs)
def iC (K : PySem.W.Frag) (x : Str) : Addr := He.ga K x
def iF (K : PySem.W.Frag) (x : Str) : Addr := He.ma K (He.ga K x) "__init__"
def oexB (K : PySem.W.Frag) (C : Addr) : Bool := (match K.lookup C with
  | some ⟨.type "type", _, .cls cd, sl⟩ => (match cd.mro, sl.toList with
    | .ref C' :: bm, [_, _, _, _, some (.builtin n), _] => C' == C && n == "ValueError.__new__" && !cd.hasDel && cd.hasDict && PySem.HandSPX.refsVE bm
    | _, _ => false)
  | _ => false) && (decide (PySem.W.findIn K (.ref C) "__setattr__" = some (some (.builtin "object.__setattr__"))) && (decide (PySem.W.subIn K (.ref C) (.type "BaseException") = some true) && (decide (PySem.W.typeIn K (.ref C) = some (.type "type")) && PySem.W.keepIn K (.ref C))))
def excCB (K : PySem.W.Frag) (C : Addr) : Bool := decide (PySem.W.findIn K (.ref C) "__getattribute__" = some (some (.builtin "BaseException.__getattribute__"))) && (decide (PySem.W.findIn K (.ref C) "__getattr__" = some none) && (decide (PySem.W.subIn K (.ref C) (.type "BaseException") = some true) && (PySem.W.hasDictIn K C &&
  (decide (PySem.W.findIn K (.ref C) "__class__" = some (some (.builtin "object.__class__"))) && (decide (PySem.W.specialIn K (.builtin "object.__class__") "__get__" = some (some (.builtin "getset_descriptor.__get__"))) && (decide (PySem.W.takesIn K (.builtin "object.__class__") = some true) && decide (PySem.W.mroIn K C (.type "object") = some true)))))))
def iniFB (K : PySem.W.Frag) (pf : Str) (C f : Addr) (q : Str) : Bool := match K.lookup f with
  | some ⟨_, _, .func fd, _⟩ => (match fd.defaults, fd.kwdefaults, fd.annotations, fd.code, fd.closure with
    | .none, .none, none, .ref c, [(_, cc)] => (match K.lookup cc with
      | some ⟨_, _, .cell (some (.ref C')), _⟩ => C' == C
      | _ => false) && (PySem.W.codeIn K (.ref c) q && (match K.lookup c with
      | some ⟨_, _, .fields vs, _⟩ => (match vs[2]? with
        | some (Value.str file _) => pf == file
        | _ => false)
      | _ => false))
    | _, _, _, _, _ => false)
  | _ => false
def IniD.ok (K : PySem.W.Frag) (pf : Str) (d : IniD) : Bool := (He.Fa.glo d.cls).ok K && (oexB K (iC K d.cls) && (excCB K (iC K d.cls) && (xfB K (iC K d.cls) && (iniFB K pf (iC K d.cls) (iF K d.cls) d.qual &&
  (decide (PySem.W.findIn K (.ref (iC K d.cls)) "__init__" = some (some (.ref (iF K d.cls)))) && (decide (PySem.W.typeIn K (.ref (iF K d.cls)) = some (.type "function")) && (PySem.W.keepIn K (.ref (iF K d.cls)) &&
  (decide (PySem.W.findIn K (.ref (iC K d.cls)) d.fld = some none) && (decide (PySem.W.ks_superIn K (iC K d.cls) (iC K d.cls) "__init__" = some (some (.builtin "ValueError.__init__"))) &&
  (decide (PySem.W.subIn K (.ref (iC K d.cls)) (.type "ValueError") = some true) && (decide (PySem.W.nsIn K cStatics "thirdparty.any" = some none) && (decide (PySem.W.mroIn K (iC K d.cls) (.ref (iC K d.cls)) = some true) && ((PySem.W.clsIn K (iC K d.cls)).isSome &&
  decide (PySem.W.exmOne K (.ref (iC K d.cls)) (.ref (iC K d.cls)) = some true))))))))))))))
def asS (g : Addr → Option Obj) (n : Nat) : List Addr := He.asD g n ++ [cStatics]
abbrev AlS : Type := He.AlD × (Bool × List FnC)
def obsS (fa : List He.Fa) (fn : List He.DefD) (pf : Str) (ini : List IniD) (ex : PySem.W.Frag → Bool) (K : PySem.W.Frag) : AlS := (He.obsD fa fn K, (ini.all (fun d => d.ok K pf) && ex K, ini.map fun d => fnC K (iF K d.cls)))
def valS (fn : List He.DefD) (ini : List IniD) : AlS := (He.valD fn, (true, ini.map IniD.val))
def SaysS (fa : List He.Fa) (fn : List He.DefD) (pf : Str) (ini : List IniD) (ex : PySem.W.Frag → Bool) (K : PySem.W.Frag) : Prop := obsS fa fn pf ini ex K = valS fn ini
def obsSG (n : Nat) (fa : List He.Fa) (fn : List He.DefD) (pf : Str) (ini : List IniD) (ex : PySem.W.Frag → Bool) (g : Addr → Option Obj) : AlS := obsS fa fn pf ini ex (He.frG g (asS g n))
def hookS (n : Nat) (fa : List He.Fa) (fn : List He.DefD) (pf : Str) (ini : List IniD) (ex : PySem.W.Frag → Bool) : PySem.W.Hook where
  α := AlS
  obs := fun s => obsSG n fa fn pf ini ex s.heap.get?
  val := fun _ => valS fn ini
  says := fun _ h => ∃ K : PySem.W.Frag, K.In h ∧ SaysS fa fn pf ini ex K
  of := fun _ _ e => ⟨_, He.frG_in, e⟩
  keeps := fun _ _ _ ⟨K, hK, c⟩ k => ⟨K, PySem.W.Frag.In.keeps hK k, c⟩
theorem obsSG_eq {n : Nat} {fa : List He.Fa} {fn : List He.DefD} {pf : Str} {ini : List IniD} {ex : PySem.W.Frag → Bool} {g : Addr → Option Obj} {s : Shared} (h : ∀ a, g a = s.heap.get? a) : obsSG n fa fn pf ini ex g = (hookS n fa fn pf ini ex).obs s := by
  have e : g = s.heap.get? := funext h
  rw [e] <;> rfl
def txtO : Value → Option Str
  | .str x _ => some x
  | _ => none
abbrev Tab2 : Type := List (List Nat × List Nat)
def entB (K : PySem.W.Frag) (a : Addr) (kvs : Tab2) : Bool := match K.lookup a with
  | some ⟨_, _, .dict es _, _⟩ => decide (es.toList.map (fun e => (txtO e.key, txtO e.val)) = kvs.map fun q => (some (sOf q.1), some (sOf q.2)))
  | _ => false
end D2
/-! ## D2HeadT -/
/-! the head with tables: dicts of the module, texts to texts -/
namespace D2
open PySem PySem.Spec PyProof.Rows L2 NdefX
/-- List.map under another name: the kernel must not compare the two functions of a map -/
def mapV {α β : Type} (f : α → β) : List α → List β
  | [] => []
  | a :: l => f a :: mapV f l
theorem mapV_eq {α β : Type} (f : α → β) : ∀ l : List α, mapV f l = l.map f
  | [] => rfl
  | a :: l => by rw [mapV, mapV_eq f l, List.map_cons]
def valVh (fn : List He.DefD) (ini : List IniD) : AlS := ((true, mapV He.DefD.val fn), (true, mapV IniD.val ini))
theorem valVh_eq (fn : List He.DefD) (ini : List IniD) : valVh fn ini = valS fn ini := by unfold valVh; rw [mapV_eq, mapV_eq] <;> rfl
abbrev TabN : Type := Str × List Str
abbrev AlST : Type := AlS × List (Option (List (Option (Str × Int))))
def obsST (fa : List He.Fa) (fn : List He.DefD) (pf : Str) (ini : List IniD) (ex : PySem.W.Frag → Bool) (ts : List TabN) (K : PySem.W.Frag) : AlST := (obsS fa fn pf ini ex K, ts.map fun t => He.dicW K (He.ga K t.1))
def valST (fn : List He.DefD) (ini : List IniD) (ts : List TabN) (w : World) : AlST := (valS fn ini, ts.map fun t => some (He.keysIn w.params t.2))
/-- what an object names, without its class, its bases, its globals -/
def kidsK (o : Obj) : List Addr := match o.data with
  | .seq its _ => its.toList.flatMap He.refV
  | .dict es _ => es.toList.flatMap fun e => He.refV e.val
  | .func fd => He.refV fd.code ++ (He.refV fd.defaults ++ (He.refV fd.kwdefaults ++ fd.closure.map (·.2)))
  | .cls cd => [cd.ns]
  | .fields vs => vs.toList.flatMap He.refV
  | .cell (some v) => He.refV v
  | _ => []
def lvlK (g : Addr → Option Obj) : Nat → List Addr → List Addr
  | 0, as => as
  | n + 1, as => as ++ lvlK g n (as.flatMap fun a => match g a with
    | some o => kidsK o
    | none => [])
/-- the addresses looked at: n steps from the module's names; no search for twins -/
def asK (g : Addr → Option Obj) (n : Nat) : List Addr := mainGlobals :: cStatics :: lvlK g n (match g mainGlobals with
  | some o => kidsK o
  | none => [])
def obsSTG (n : Nat) (fa : List He.Fa) (fn : List He.DefD) (pf : Str) (ini : List IniD) (ex : PySem.W.Frag → Bool) (ts : List TabN) (g : Addr → Option Obj) : AlST := obsST fa fn pf ini ex ts (He.frG g (asK g n))
def SaysST (fa : List He.Fa) (fn : List He.DefD) (pf : Str) (ini : List IniD) (ex : PySem.W.Frag → Bool) (ts : List TabN) (w : World) (K : PySem.W.Frag) : Prop := obsST fa fn pf ini ex ts K = valST fn ini ts w
def hookST (n : Nat) (fa : List He.Fa) (fn : List He.DefD) (pf : Str) (ini : List IniD) (ex : PySem.W.Frag → Bool) (ts : List TabN) : PySem.W.Hook where
  α := AlST
  obs := fun s => obsSTG n fa fn pf ini ex ts s.heap.get?
  val := fun w => valST fn ini ts w
  says := fun w h => ∃ K : PySem.W.Frag, K.In h ∧ SaysST fa fn pf ini ex ts w K
  of := fun _ _ e => ⟨_, He.frG_in, e⟩
  keeps := fun _ _ _ ⟨K, hK, c⟩ k => ⟨K, PySem.W.Frag.In.keeps hK k, c⟩
def valVT (fn : List He.DefD) (ini : List IniD) (ts : List TabN) (w : World) : AlST := (valVh fn ini, mapV (fun t : TabN => some (He.keysIn w.params t.2)) ts)
theorem valVT_eq (fn : List He.DefD) (ini : List IniD) (ts : List TabN) (w : World) : valVT fn ini ts w = valST fn ini ts w := by unfold valVT; rw [mapV_eq, valVh_eq] <;> rfl
theorem obsSTG_eq {n : Nat} {fa : List He.Fa} {fn : List He.DefD} {pf : Str} {ini : List IniD} {ex : PySem.W.Frag → Bool} {ts : List TabN} {g : Addr → Option Obj} {s : Shared} (h : ∀ a, g a = s.heap.get? a) : obsSTG n fa fn pf ini ex ts g = (hookST n fa fn pf ini ex ts).obs s := by
  have e : g = s.heap.get? := funext h
  rw [e] <;> rfl
section
variable {fa : List He.Fa} {fn : List He.DefD} {pf : Str} {ini : List IniD} {ex : PySem.W.Frag → Bool} {ts : List TabN} {w : World} {K : PySem.W.Frag}
theorem SaysST.s (c : SaysST fa fn pf ini ex ts w K) : SaysS fa fn pf ini ex K := congrArg (fun z : AlST => z.1) c
theorem SaysST.tab (c : SaysST fa fn pf ini ex ts w K) (i : Nat) {t : TabN} (h : ts[i]? = some t := by rfl) : ∃ es n, KDict K w (He.ga K t.1) es n := by
  have e : ts.map (fun t => He.dicW K (He.ga K t.1)) = ts.map fun t => some (He.keysIn w.params t.2) := congrArg (fun z : AlST => z.2) c
  have e2 : (ts.map fun t => He.dicW K (He.ga K t.1))[i]? = (ts.map fun t => some (He.keysIn w.params t.2))[i]? := by rw [e]
  rw [List.getElem?_map, List.getElem?_map, h] at e2
  exact He.dicW_ok (Option.some.inj e2)
end
end D2
/-! ## NTop -/
namespace NC
open PySem PySem.Spec PyProof.Rows L2 D2
abbrev pw := PySem.Challenge.pw_nocounters_k17_stretch_meaning
def top (i : Nat) : Stmt := pw.main.body.getD i (.Pass ⟨0, 0, 0, 0⟩)
def clsDef (s : Stmt) (i : Nat) : Stmt := match s with
  | .ClassDef _ _ _ b _ _ _ _ _ _ _ => b.getD i (.Pass ⟨0, 0, 0, 0⟩)
  | _ => .Pass ⟨0, 0, 0, 0⟩
abbrev alphabets : List (List Nat) := [[97], [97, 98], [97, 98, 99]]
abbrev sorts : List (List Nat) := [lit "since", lit "once", lit "yesterday"]
abbrev FnP (K : PySem.W.Frag) (x : Str) (i : Nat) (f : Addr) (fd : FuncData) : Prop := FunD K x x (defArgs (top i)) (defBody (top i)) (defScope (top i)) [] [] f fd
end NC
/-! ## NX0 -/
namespace NC
open PySem PySem.Spec PyProof.Rows L2 D2
/-- the own exceptions of the module -/
def nms : List Str := ["BadLetters", "BadWord", "BadNumber", "OtherLetters", "TooLarge", "BadText", "BadState", "BadRow", "Future", "Past", "Free", "NoneThere", "NoElement", "NoMember", "BadSort", "BadName", "NoName", "SameName", "NothingThere", "BadDeed", "Refused", "Untrue"]
def excB (K : PySem.W.Frag) (x : Str) : Bool := nms.all (fun y => (He.Fa.glo y).ok K && (decide (PySem.W.kitOne K (.ref (iC K x)) (.ref (iC K y)) = some (decide (y = x))) && decide (PySem.W.exmOne K (.ref (iC K x)) (.ref (iC K y)) = some (decide (y = x))))) &&
  ((He.Fa.glo "NocountersError").ok K && (decide (PySem.W.exmOne K (.ref (iC K x)) (.ref (iC K "NocountersError")) = some true) && (decide (PySem.W.kitOne K (.ref (iC K x)) (.ref (iC K "NocountersError")) = some true) && decide (PySem.W.kitOne K (.ref (iC K x)) (.type "ValueError") = some true))))
end NC
/-! ## NCon -/
/-! constants of the time formulas' module -/
namespace NC
open PySem PySem.Spec PyProof.Rows L2 D2
abbrev pastW : List (List Nat) := [lit "prev", lit "once", lit "since"]
abbrev futW : List (List Nat) := [lit "succ", lit "later", lit "until"]
abbrev shapesT : Tab2 := [(lit "yes", lit ""), (lit "letter", lit "a"), (lit "not", lit "i"), (lit "and", lit "ii"), (lit "or", lit "ii"), (lit "prev", lit "i"), (lit "once", lit "i"), (lit "since", lit "ii"), (lit "succ", lit "i"), (lit "later", lit "i"), (lit "until", lit "ii")]
end NC
/-! ## NCoX -/
/-! constants of the expressions' module -/
namespace NC
open PySem PySem.Spec PyProof.Rows L2 D2
abbrev shapesX : Tab2 := [(lit "none", lit ""), (lit "all", lit ""), (lit "not", lit "i"), (lit "and", lit "ii"), (lit "or", lit "ii"), (lit "split", lit "iai")]
end NC
/-! ## NHead -/
/-! the head: what the module's names stand for -/
namespace NC
open PySem PySem.Spec PyProof.Rows L2 D2
def ini_TooLarge : IniD := ⟨"TooLarge", "TooLarge.__init__", "many", clsDef (top 7) 0⟩
def ini_BadRow : IniD := ⟨"BadRow", "BadRow.__init__", "at", clsDef (top 10) 0⟩
def ini_BadLetters : IniD := ⟨"BadLetters", "BadLetters.__init__", "given", clsDef (top 3) 0⟩
def ini_BadWord : IniD := ⟨"BadWord", "BadWord.__init__", "word", clsDef (top 4) 0⟩
def inis : List IniD := [ini_TooLarge, ini_BadRow, ini_BadLetters, ini_BadWord]
def dF (at_ : Str × Option Str) (x qual : Str) (s : Stmt) (kwd : List (Str × He.Dv)) (dfl : List He.Dv := []) : He.DefD := ⟨at_, x, qual, defArgs s, defBody s, defScope s, dfl, kwd⟩
def hfn0 : List He.DefD := [dF ("_law_kinds", none) "_law_kinds" "_law_kinds" (top 63) [], dF ("_law_error", none) "_law_error" "_law_error" (top 64) [], dF ("is_item", none) "is_item" "is_item" (top 28) [], dF ("is_row", none) "is_row" "is_row" (top 29) [], dF ("checked_rows", none) "checked_rows" "checked_rows" (top 30) [] [.int 40000], dF ("needed_rows", none) "needed_rows" "needed_rows" (top 31) [], dF ("sheet_text", none) "sheet_text" "sheet_text" (top 35) [], dF ("check_letters", none) "check_letters" "check_letters" (top 43) [], dF ("is_word", none) "is_word" "is_word" (top 44) [], dF ("check_word", none) "check_word" "check_word" (top 45) [("most", .int 60)], dF ("split_bits", none) "split_bits" "split_bits" (top 48) [], dF ("row_bits", none) "row_bits" "row_bits" (top 49) [], dF ("stretch_bits", none) "stretch_bits" "stretch_bits" (top 50) [], dF ("expression_truth", none) "expression_truth" "expression_truth" (top 52) [], dF ("split_depths", none) "split_depths" "split_depths" (top 57) [], dF ("Expression", some "__init__") "__init__" "Expression.__init__" (clsDef (top 58) 0) [], dF ("gap_bits", none) "gap_bits" "gap_bits" (top 51) [], dF ("holds", none) "holds" "holds" (top 53) [], dF ("stretches", none) "stretches" "stretches" (top 54) [], dF ("_law_mixed", none) "_law_mixed" "_law_mixed" (top 61) []]
def hfn1 : List He.DefD := [dF ("_law_draw", none) "_law_draw" "_law_draw" (top 62) [], dF ("_law_open", none) "_law_open" "_law_open" (top 60) [], dF ("_law_word", none) "_law_word" "_law_word" (top 68) [], dF ("_law_many", none) "_law_many" "_law_many" (top 67) [], dF ("_law_long_word", none) "_law_long_word" "_law_long_word" (top 75) [], dF ("_law_holds_kept", none) "_law_holds_kept" "_law_holds_kept" (top 72) [], dF ("_law_cut", none) "_law_cut" "_law_cut" (top 70) [], dF ("_law_parts", none) "_law_parts" "_law_parts" (top 69) [], dF ("_law_said", none) "_law_said" "_law_said" (top 71) [], dF ("_law_pairs_kept", none) "_law_pairs_kept" "_law_pairs_kept" (top 73) [], dF ("_law_ask", none) "_law_ask" "_law_ask" (top 65) [], dF ("_law_refusals_kept", none) "_law_refusals_kept" "_law_refusals_kept" (top 77) [], dF ("_law_rows_kept", none) "_law_rows_kept" "_law_rows_kept" (top 74) [], dF ("_law_long_kept", none) "_law_long_kept" "_law_long_kept" (top 76) [], dF ("_law_sheet", none) "_law_sheet" "_law_sheet" (top 66) [], dF ("law", none) "law" "law" (top 78) []]
def fn : List He.DefD := hfn0 ++ hfn1
def hfa0 : List He.Fa := [.glo "_law_kinds", .glo "_law_error", .glo "is_item", .glo "is_row", .glo "checked_rows", .glo "needed_rows", .glo "sheet_text", .glo "check_letters", .glo "is_word", .glo "check_word", .glo "split_bits", .glo "row_bits", .glo "stretch_bits", .glo "expression_truth", .glo "split_depths", .glo "gap_bits", .glo "holds", .glo "stretches", .glo "_law_mixed", .glo "_law_draw"]
def hfa1 : List He.Fa := [.glo "_law_open", .glo "_law_word", .glo "_law_many", .glo "_law_long_word", .glo "_law_holds_kept", .glo "_law_cut", .glo "_law_parts", .glo "_law_said", .glo "_law_pairs_kept", .glo "_law_ask", .glo "_law_refusals_kept", .glo "_law_rows_kept", .glo "_law_long_kept", .glo "_law_sheet", .glo "law", .free "isinstance", .free "ValueError", .free "range", .free "len", .free "int"]
def hfa2 : List He.Fa := [.free "bool", .free "str", .free "tuple", .free "all", .free "zip", .free "enumerate", .free "reversed", .free "sum", .free "max", .free "dict", .free "abs", .free "list", .free "min", .free "super", .cls "Expression", .noat "Expression" "rows", .noat "Expression" "letters", .noat "Expression" "text", .noat "Expression" "depth", .mkr "Expression"]
def hfa3 : List He.Fa := [.glo "Expression", .glo "VARIABLES", .glo "ALPHABETS", .glo "SHAPES", .int "MOST" 30]
def fa : List He.Fa := hfa0 ++ hfa1 ++ hfa2 ++ hfa3
def ex (K : PySem.W.Frag) : Bool := true && (He.tupB K "VARIABLES" (([[120], [121], [122]]).map fun s => He.Dv.str (sOf s)) && (He.tupB K "ALPHABETS" ((NC.alphabets).map fun s => He.Dv.str (sOf s)) && (entB K (He.ga K "SHAPES") (NC.shapesX) && (excB K "BadWord" && (excB K "TooLarge")))))
def tabs : List TabN := [("SHAPES", ["none", "all", "not", "and", "or", "split"])]
abbrev Rw : PySem.W.OpenRow := PySem.W.OpenLaw.row PySem.Challenge.rw_nocounters_k17_stretch_meaning
abbrev qv : Program := PySem.W.view Rw.prog [78]
abbrev hk : PySem.W.Hook := hookST 4 fa fn pw.main.file inis ex tabs
def ob (s : PySem.W.SharedT) : AlST := obsSTG 4 fa fn pw.main.file inis ex tabs (HandSHeadRun.getT s)
theorem ob_eq (s : PySem.W.SharedT) : ob s = hk.obs s.abs := obsSTG_eq (HandSHeadRun.getT_eq s)
def loose0 : List Str := ["_wall", "__name__", "NocountersError", "BadLetters", "BadWord", "BadNumber", "OtherLetters", "TooLarge", "BadText", "BadState", "BadRow", "Future", "Past", "Free", "NoneThere", "NoElement", "NoMember", "BadSort", "BadName", "NoName", "SameName", "NothingThere", "BadDeed", "Refused", "Untrue"]
def loose1 : List Str := ["LIMIT", "VARIABLES", "is_item", "is_row", "checked_rows", "needed_rows", "renumbered", "tidy", "joined_rows", "sheet_text", "plain_number", "letters_in", "row_in", "read_sheet", "ALPHABETS", "LONGEST", "check_letters", "is_word", "check_word", "MOST", "split_bits", "row_bits", "stretch_bits", "gap_bits", "expression_truth"]
def loose2 : List Str := ["holds", "stretches", "SHAPES", "split_depths", "Expression", "_law_open", "_law_mixed", "_law_draw", "_law_kinds", "_law_error", "_law_ask", "_law_sheet", "_law_many", "_law_word", "_law_parts", "_law_cut", "_law_said", "_law_holds_kept", "_law_pairs_kept", "_law_rows_kept", "_law_long_word", "_law_long_kept", "_law_refusals_kept"]
def loose : List Str := loose0 ++ loose1 ++ loose2
open HandSHeadRun PySem.W PySem.Calls PyProof.Rows PyProof.V in
set_option maxHeartbeats 0 in
theorem runF (w : World) (os : OsState) : (endF (stepQ (denQ tabQ) Rw.prog (w.withFollow "special-get-raises" false)) 20000 Rw.prog (w.withFollow "special-get-raises" false) os).map (fun s => (looksF Rw.prog (boot_heap ((w.withFollow "special-get-raises" false)).params) s.abs, seenQ qv loose (importedModules Rw.prog.main.body) (fun s => xlAt qv [] s && recOk Rw.toRowW.records s) s.abs, ob s)) = some (true, openGood qv loose, valVT fn inis tabs (w.withFollow "special-get-raises" false)) := by
  kernel_rfl
open HandSHeadRun PySem.W PySem.Calls PyProof.Rows PyProof.V in
set_option maxHeartbeats 0 in
theorem runT (w : World) (os : OsState) : (endF (stepQ (denQ tabQ) Rw.prog (w.withFollow "special-get-raises" true)) 20000 Rw.prog (w.withFollow "special-get-raises" true) os).map (fun s => (looksF Rw.prog (boot_heap ((w.withFollow "special-get-raises" true)).params) s.abs, seenQ qv loose (importedModules Rw.prog.main.body) (fun s => xlAt qv [] s && recOk Rw.toRowW.records s) s.abs, ob s)) = some (true, openGood qv loose, valVT fn inis tabs (w.withFollow "special-get-raises" true)) := by
  kernel_rfl
theorem run (w : World) : HandSHeadRun.RunEq Rw qv hk ob 20000 loose w :=
  PySem.W.byRow2 "special-get-raises" (P := fun w => HandSHeadRun.RunEq Rw qv hk ob 20000 loose w) (fun w os => (runF w os).trans (congrArg (fun z => some (true, PySem.W.openGood qv loose, z)) (valVT_eq fn inis tabs (w.withFollow "special-get-raises" false)))) (fun w os => (runT w os).trans (congrArg (fun z => some (true, PySem.W.openGood qv loose, z)) (valVT_eq fn inis tabs (w.withFollow "special-get-raises" true)))) w
end NC
/-! ## D2Core -/
/-! D2: a def is walked over data. Slots hold data that never change again (dat), or the address of an object that this
walk owns (own); the owned objects stand in a list (Mem). -/
namespace D2
open PySem PySem.Spec PyProof.Rows L2

inductive D where
  | non | bl (b : Bool) | int (i : Int) | str (s : List Nat) | lst (xs : List D) | tup (xs : List D) | dk (kvs : List (Key × D)) | raw (v : V) | ins (C : Addr) (fs : List (Str × D))

/-! ### data in the part of the heap that stays -/
mutual
inductive Rep (K : PySem.W.Frag) (G : Hp) : D → V → Prop
  | non : Rep K G .non .non
  | bl {b} : Rep K G (.bl b) (.bl b)
  | int {i} : Rep K G (.int i) (.int i)
  | str {s} : Rep K G (.str s) (.str (sOf s))
  | lst {a xs vs} : SqL K G a vs → Reps K G xs vs → Rep K G (.lst xs) (.ref a)
  | tup {a xs vs} : SqT K G a vs → Reps K G xs vs → Rep K G (.tup xs) (.ref a)
  | dk {a xs vs o} : G a = some (.frz o (.dK vs)) → Repk K G xs vs → Rep K G (.dk xs) (.ref a)
  | raw {v} : Rep K G (.raw v) v
  | ins {a C dx xs vs} : G a = some (.ins C dx vs) → RepF K G xs vs → Rep K G (.ins C xs) (.ref a)
inductive Reps (K : PySem.W.Frag) (G : Hp) : List D → List V → Prop
  | nil : Reps K G [] []
  | cons {x v xs vs} : Rep K G x v → Reps K G xs vs → Reps K G (x :: xs) (v :: vs)
inductive Repk (K : PySem.W.Frag) (G : Hp) : List (Key × D) → List (Key × V) → Prop
  | nil : Repk K G [] []
  | cons {k x v xs vs} : Rep K G x v → Repk K G xs vs → Repk K G ((k, x) :: xs) ((k, v) :: vs)
inductive RepF (K : PySem.W.Frag) (G : Hp) : List (Str × D) → List (Str × V) → Prop
  | nil : RepF K G [] []
  | cons {k x v xs vs} : Rep K G x v → RepF K G xs vs → RepF K G ((k, x) :: xs) ((k, v) :: vs)
end

def Ex (H H' : Hp) : Prop := ∀ a o, H a = some o → H' a = some o
theorem Ex.refl (H : Hp) : Ex H H := fun _ _ h => h
theorem Ex.trans {H H1 H2 : Hp} (a : Ex H H1) (b : Ex H1 H2) : Ex H H2 := fun x o h => b x o (a x o h)
theorem Ex.new {H : Hp} {p : Addr} {o : HO} (h : H p = none) : Ex H (upd H p o) := fun a u e => by
  rw [upd_ne (ne_of_none e h)]; exact e
theorem Ex.upd {G H : Hp} {p : Addr} {o : HO} (e : Ex G H) (h : G p = none) : Ex G (upd H p o) := fun a u ha => by
  rw [upd_ne (ne_of_none ha h)]; exact e a u ha
theorem Ex.both {G H : Hp} {p : Addr} {o : HO} (e : Ex G H) : Ex (L2.upd G p o) (L2.upd H p o) := fun a u ha => by
  by_cases h : a = p
  · subst h; rw [upd_same] at ha ⊢; exact ha
  · rw [upd_ne h] at ha ⊢; exact e a u ha
theorem Ex.back {H H' : Hp} {p : Addr} (e : Ex H H') (h : H' p = none) : H p = none := by
  cases h1 : H p with
  | none => rfl
  | some o => rw [e p o h1] at h; cases h
theorem ex_rd {H H' : Hp} {a : Addr} {u : HO} (e : Ex H H') (h : Rd H a u) : Rd H' a u := by
  rcases h with h | ⟨o, h⟩
  · exact Or.inl (e a _ h)
  · exact Or.inr ⟨o, e a _ h⟩
theorem ex_l {K : PySem.W.Frag} {H H' : Hp} {a : Addr} {xs : List V} (e : Ex H H') (h : SqL K H a xs) : SqL K H' a xs := h.imp (ex_rd e) id
theorem ex_t {K : PySem.W.Frag} {H H' : Hp} {a : Addr} {xs : List V} (e : Ex H H') (h : SqT K H a xs) : SqT K H' a xs := h.imp (ex_rd e) id

mutual
theorem Rep.mono {K : PySem.W.Frag} {G G' : Hp} (e : Ex G G') : ∀ {d : D} {v : V}, Rep K G d v → Rep K G' d v
  | _, _, .non => .non
  | _, _, .bl => .bl
  | _, _, .int => .int
  | _, _, .str => .str
  | _, _, .lst h r => .lst (ex_l e h) (Reps.mono e r)
  | _, _, .tup h r => .tup (ex_t e h) (Reps.mono e r)
  | _, _, .dk h r => .dk (e _ _ h) (Repk.mono e r)
  | _, _, .raw => .raw
  | _, _, .ins h r => .ins (e _ _ h) (RepF.mono e r)
theorem Reps.mono {K : PySem.W.Frag} {G G' : Hp} (e : Ex G G') : ∀ {d : List D} {v : List V}, Reps K G d v → Reps K G' d v
  | _, _, .nil => .nil
  | _, _, .cons h r => .cons (Rep.mono e h) (Reps.mono e r)
theorem Repk.mono {K : PySem.W.Frag} {G G' : Hp} (e : Ex G G') : ∀ {d : List (Key × D)} {v : List (Key × V)}, Repk K G d v → Repk K G' d v
  | _, _, .nil => .nil
  | _, _, .cons h r => .cons (Rep.mono e h) (Repk.mono e r)
theorem RepF.mono {K : PySem.W.Frag} {G G' : Hp} (e : Ex G G') : ∀ {d : List (Str × D)} {v : List (Str × V)}, RepF K G d v → RepF K G' d v
  | _, _, .nil => .nil
  | _, _, .cons h r => .cons (Rep.mono e h) (RepF.mono e r)
end

/-! ### values of the walk, owned objects -/
inductive R where
  | dat (d : D) | own (a : Addr)
inductive O where
  | lst (rs : List R) | dk (kvs : List (Key × R)) | any (o : HO) | dn (P : Program) (w : World) (a : Addr) (kvs : List (NestedKey × R)) | vw (v a : Addr) (xs : List (Key × D)) | ins (C dx : Addr) (fs : List (Str × R))
abbrev Mem := List (Addr × O)
abbrev Sl := List (Str × Option R)

inductive RelR (K : PySem.W.Frag) (G : Hp) : R → V → Prop
  | dat {d v} : Rep K G d v → RelR K G (.dat d) v
  | own {a} : RelR K G (.own a) (.ref a)
inductive RelRs (K : PySem.W.Frag) (G : Hp) : List R → List V → Prop
  | nil : RelRs K G [] []
  | cons {r v rs vs} : RelR K G r v → RelRs K G rs vs → RelRs K G (r :: rs) (v :: vs)
inductive RelK (K : PySem.W.Frag) (G : Hp) : List (Key × R) → List (Key × V) → Prop
  | nil : RelK K G [] []
  | cons {k r v rs vs} : RelR K G r v → RelK K G rs vs → RelK K G ((k, r) :: rs) ((k, v) :: vs)
inductive RelF (K : PySem.W.Frag) (G : Hp) : List (Str × R) → List (Str × V) → Prop
  | nil : RelF K G [] []
  | cons {k r v rs vs} : RelR K G r v → RelF K G rs vs → RelF K G ((k, r) :: rs) ((k, v) :: vs)
/-! a dict with nested keys -/
mutual
def nD : NestedKey → D
  | .none => .non
  | .num i => .int i
  | .text x => .str (lit x)
  | .tup ks => .tup (nDs ks)
def nDs : List NestedKey → List D
  | [] => []
  | k :: ks => nD k :: nDs ks
end
/-- its object: the keys' places are known, the keys themselves are data -/
def dnO (P : Program) (w : World) (a : Addr) (xs : List (NestedKey × Addr × V)) : HO := .ext fun h => (a == sysModules) = false ∧ ∃ (ys : List (NestedKey × Addr × Value)) (o : Obj) (es : Array DictEntry) (ep : Nat),
  Paired (fun (p : NestedKey × Addr × V) (q : NestedKey × Addr × Value) => p.1 = q.1 ∧ p.2.1 = q.2.1 ∧ RelV p.2.2 q.2.2) xs ys ∧ h.get? a = some o ∧ o.ExactDict ∧ o.data = .dict es ep ∧ es.toList = ys.map (entryOfKey (nestedKind P w)) ∧ (ys.map (·.1)).Nodup
def KeyAt (K : PySem.W.Frag) (G : Hp) (k : NestedKey) (b : Addr) : Prop := Rep K G (nD k) (.ref b) ∧ k.depth ≤ 8
inductive RelN (K : PySem.W.Frag) (G : Hp) : List (NestedKey × R) → List (NestedKey × Addr × V) → Prop
  | nil : RelN K G [] []
  | cons {k r b v kvs xs} : KeyAt K G k b → RelR K G r v → RelN K G kvs xs → RelN K G ((k, r) :: kvs) ((k, b, v) :: xs)
/-- d.values() of the dict at a -/
def vwO (v a : Addr) : HO := .ext fun h => ∃ sl : Array (Option Value), h.get? v = some { cls := .type "dict_values", dict := none, data := .fields #[.ref a], slots := sl }
inductive RelO (K : PySem.W.Frag) (G : Hp) : O → HO → Prop
  | lst {rs vs} : RelRs K G rs vs → RelO K G (.lst rs) (.lst vs)
  | dk {rs vs} : RelK K G rs vs → RelO K G (.dk rs) (.dK vs)
  | any {o} : RelO K G (.any o) o
  | dn {P w a kvs xs} : RelN K G kvs xs → RelO K G (.dn P w a kvs) (dnO P w a xs)
  | vw {v a xs} : Rep K G (.dk xs) (.ref a) → RelO K G (.vw v a xs) (vwO v a)
  | ins {C dx rs vs} : RelF K G rs vs → RelO K G (.ins C dx rs) (.ins C dx vs)
section
variable {K : PySem.W.Frag} {G G' : Hp}
theorem RelR.mono (e : Ex G G') {r : R} {v : V} (h : RelR K G r v) : RelR K G' r v := by
  cases h with
  | dat h => exact .dat (h.mono e)
  | own => exact .own
theorem RelRs.mono (e : Ex G G') : ∀ {r : List R} {v : List V}, RelRs K G r v → RelRs K G' r v
  | _, _, .nil => .nil
  | _, _, .cons h t => .cons (h.mono e) (RelRs.mono e t)
theorem RelK.mono (e : Ex G G') : ∀ {r : List (Key × R)} {v : List (Key × V)}, RelK K G r v → RelK K G' r v
  | _, _, .nil => .nil
  | _, _, .cons h t => .cons (h.mono e) (RelK.mono e t)
theorem RelF.mono (e : Ex G G') : ∀ {r : List (Str × R)} {v : List (Str × V)}, RelF K G r v → RelF K G' r v
  | _, _, .nil => .nil
  | _, _, .cons h t => .cons (h.mono e) (RelF.mono e t)
theorem RelN.mono (e : Ex G G') {kvs : List (NestedKey × R)} {xs : List (NestedKey × Addr × V)} (h : RelN K G kvs xs) : RelN K G' kvs xs := by
  induction h with
  | nil => exact .nil
  | cons a b _ ih => exact .cons ⟨a.1.mono e, a.2⟩ (b.mono e) ih
theorem RelO.mono (e : Ex G G') {o : O} {h : HO} (x : RelO K G o h) : RelO K G' o h := by
  cases x with
  | lst h => exact .lst (h.mono e)
  | dk h => exact .dk (h.mono e)
  | any => exact .any
  | dn h => exact .dn (h.mono e)
  | vw h => exact .vw (h.mono e)
  | ins h => exact .ins (h.mono e)
theorem RelRs.length : ∀ {r : List R} {v : List V}, RelRs K G r v → r.length = v.length
  | _, _, .nil => rfl
  | _, _, .cons _ t => by simp [RelRs.length t]
theorem Reps.length : ∀ {r : List D} {v : List V}, Reps K G r v → r.length = v.length
  | _, _, .nil => rfl
  | _, _, .cons _ t => by simp [Reps.length t]
theorem Reps.rel : ∀ {r : List D} {v : List V}, Reps K G r v → RelRs K G (r.map .dat) v
  | _, _, .nil => .nil
  | _, _, .cons h t => .cons (.dat h) t.rel
theorem RelRs.reps : ∀ {r : List D} {v : List V}, RelRs K G (r.map .dat) v → Reps K G r v
  | [], _, .nil => .nil
  | _ :: _, _, .cons (.dat h) t => .cons h t.reps
theorem RelRs.get : ∀ {r : List R} {v : List V} {i : Nat} {x : R}, RelRs K G r v → r[i]? = some x → ∃ u, v[i]? = some u ∧ RelR K G x u
  | _, _, _, _, .nil, e => by simp at e
  | _, _, 0, _, .cons h _, e => by simp at e; subst e; exact ⟨_, rfl, h⟩
  | _, _, i + 1, x, .cons _ t, e => by
    obtain ⟨u, h1, h2⟩ := RelRs.get (i := i) (x := x) t (by simpa using e)
    exact ⟨u, by simpa using h1, h2⟩
theorem RelRs.get' : ∀ {r : List R} {v : List V} {i : Nat} {u : V}, RelRs K G r v → v[i]? = some u → ∃ x, r[i]? = some x ∧ RelR K G x u
  | _, _, _, _, .nil, e => by simp at e
  | _, _, 0, _, .cons h _, e => by simp at e; subst e; exact ⟨_, rfl, h⟩
  | _, _, i + 1, u, .cons _ t, e => by
    obtain ⟨x, h1, h2⟩ := RelRs.get' (i := i) (u := u) t (by simpa using e)
    exact ⟨x, by simpa using h1, h2⟩
theorem RelRs.append : ∀ {r r' : List R} {v v' : List V}, RelRs K G r v → RelRs K G r' v' → RelRs K G (r ++ r') (v ++ v')
  | _, _, _, _, .nil, h => h
  | _, _, _, _, .cons h t, h' => .cons h (t.append h')
theorem RelRs.set : ∀ {r : List R} {v : List V} {x : R} {u : V} (i : Nat), RelRs K G r v → RelR K G x u → RelRs K G (r.set i x) (v.set i u)
  | _, _, _, _, _, .nil, _ => .nil
  | _, _, _, _, 0, .cons _ t, h => .cons h t
  | _, _, _, _, i + 1, .cons h' t, h => .cons h' (t.set i h)
theorem RelRs.drop : ∀ {r : List R} {v : List V} (i : Nat), RelRs K G r v → RelRs K G (r.drop i) (v.drop i)
  | _, _, 0, h => h
  | _, _, _ + 1, .nil => .nil
  | _, _, i + 1, .cons _ t => t.drop i
theorem RelRs.take : ∀ {r : List R} {v : List V} (i : Nat), RelRs K G r v → RelRs K G (r.take i) (v.take i)
  | _, _, 0, _ => .nil
  | _, _, _ + 1, .nil => .nil
  | _, _, i + 1, .cons h t => .cons h (t.take i)
end

/-! ### slots by name -/
inductive Lk : Sl → Str → R → Prop
  | here {x r σ} : Lk ((x, some r) :: σ) x r
  | there {p x r σ} : Lk σ x r → Lk (p :: σ) x r
theorem Lk.ix {σ : Sl} {x : Str} {r : R} (h : Lk σ x r) : ∃ i : Nat, σ[i]? = some (x, some r) := by
  induction h with
  | here => exact ⟨0, rfl⟩
  | there _ ih => obtain ⟨i, e⟩ := ih; exact ⟨i + 1, by simpa using e⟩
inductive Put : Sl → Str → R → Sl → Prop
  | here {x r o σ} : Put ((x, o) :: σ) x r ((x, some r) :: σ)
  | there {p x r σ σ'} : Put σ x r σ' → Put (p :: σ) x r (p :: σ')
theorem Put.ix {σ σ' : Sl} {x : Str} {r : R} (h : Put σ x r σ') : ∃ (i : Nat) (o : Option R), σ[i]? = some (x, o) ∧ σ' = σ.set i (x, some r) := by
  induction h with
  | @here x r o σ => exact ⟨0, o, rfl, rfl⟩
  | there _ ih => obtain ⟨i, o, e, q⟩ := ih; exact ⟨i + 1, o, by simpa using e, by rw [q]; rfl⟩
/-! ### owned objects by address -/
inductive Has : Mem → Addr → O → Mem → Prop
  | here {a o m} : Has ((a, o) :: m) a o m
  | there {p a o m m'} : Has m a o m' → Has (p :: m) a o (p :: m')
inductive Chg : Mem → Addr → O → O → Mem → Prop
  | here {a o o' m} : Chg ((a, o) :: m) a o o' ((a, o') :: m)
  | there {p a o o' m m'} : Chg m a o o' m' → Chg (p :: m) a o o' (p :: m')
theorem Has.mem {m m' : Mem} {a : Addr} {o : O} (h : Has m a o m') : (a, o) ∈ m := by
  induction h with
  | here => exact List.mem_cons_self
  | there _ ih => exact List.mem_cons_of_mem _ ih
theorem Has.sub {m m' : Mem} {a : Addr} {o : O} (h : Has m a o m') : m'.Sublist m := by
  induction h with
  | here => exact List.sublist_cons_self _ _
  | there _ ih => exact ih.cons_cons _
theorem Has.notIn {m m' : Mem} {a : Addr} {o : O} (h : Has m a o m') (nd : (m.map (·.1)).Nodup) : ∀ p ∈ m', p.1 ≠ a := by
  induction h with
  | @here a o m => 
    intro p hp e
    exact (List.nodup_cons.mp nd).1 (List.mem_map.mpr ⟨p, hp, e⟩)
  | @there q a o m m' h ih =>
    intro p hp
    rcases List.mem_cons.mp hp with rfl | hp
    · intro e
      exact (List.nodup_cons.mp nd).1 (List.mem_map.mpr ⟨(a, o), h.mem, e.symm⟩)
    · exact ih (List.nodup_cons.mp nd).2 p hp
theorem Chg.mem {m m' : Mem} {a : Addr} {o o' : O} (h : Chg m a o o' m') : (a, o) ∈ m := by
  induction h with
  | here => exact List.mem_cons_self
  | there _ ih => exact List.mem_cons_of_mem _ ih
theorem Chg.keys {m m' : Mem} {a : Addr} {o o' : O} (h : Chg m a o o' m') : m'.map (·.1) = m.map (·.1) := by
  induction h with
  | here => rfl
  | there _ ih => simp [ih]
theorem Chg.of {m m' : Mem} {a : Addr} {o o' : O} (h : Chg m a o o' m') (nd : (m.map (·.1)).Nodup) : ∀ p ∈ m', p = (a, o') ∨ (p ∈ m ∧ p.1 ≠ a) := by
  induction h with
  | @here a o o' m =>
    intro p hp
    rcases List.mem_cons.mp hp with rfl | hp
    · exact .inl rfl
    · refine .inr ⟨List.mem_cons_of_mem _ hp, fun e => ?_⟩
      exact (List.nodup_cons.mp nd).1 (List.mem_map.mpr ⟨p, hp, e⟩)
  | @there q a o o' m m' h ih =>
    intro p hp
    rcases List.mem_cons.mp hp with rfl | hp
    · refine .inr ⟨List.mem_cons_self, fun e => ?_⟩
      exact (List.nodup_cons.mp nd).1 (List.mem_map.mpr ⟨(a, o), h.mem, e.symm⟩)
    · rcases ih (List.nodup_cons.mp nd).2 p hp with z | z
      · exact .inl z
      · exact .inr ⟨List.mem_cons_of_mem _ z.1, z.2⟩

/-! ### the state of a walk -/
/-- the walk's own context: the heap at the def's entry, what it may change, what it wishes of exceptions (slots, owned, class, fields) -/
structure Ct where
  H0 : Hp
  G0 : Hp
  mu : List Addr
  ex : Sl → Mem → Addr → List (Str × D) → Prop

/-- the names are all seen; they may be stored -/
structure NmOk (X : Cx) : Prop where
  nd : X.N.Nodup
  dbg : ∀ x ∈ X.N, (x == ("__debug__" : Str)) = false ∧ (x == ("__classdict__" : Str)) = false

def MemOk (K : PySem.W.Frag) (m : Mem) (G H : Hp) : Prop := ∀ p ∈ m, G p.1 = none ∧ ∃ ho, H p.1 = some ho ∧ RelO K G p.2 ho
structure EnvOk (X : Cx) (c : Ct) (σ : Sl) (m : Mem) (G : Hp) (τ : L2.St) (H : Hp) : Prop where
  nm : NmOk X
  names : X.N = σ.map (·.1)
  len : τ.length = σ.length
  sub : Ex G H
  nd : (m.map (·.1)).Nodup
  mem : MemOk X.K m G H
  fr : ∀ a o, c.H0 a = some o → a ∉ c.mu → H a = some o
  th : ∀ a ∈ c.mu, H a ≠ none
  ok : ∀ p ∈ m, p.1 ∈ c.mu ∨ c.H0 p.1 = none
  gn : ∀ a o, G a = some o → c.G0 a = some o ∨ a ∈ c.mu ∨ c.H0 a = none
  g0 : Ex c.G0 G
  vis : ∀ p ∈ σ, p.2.isSome = true → Vis X.env.scope p.1
  sl : ∀ (i : Nat) (x : Str) (r : R), σ[i]? = some (x, some r) → ∃ v, τ[i]? = some (some v) ∧ RelR X.K G r v
section
variable {X : Cx} {c : Ct} {σ σ' : Sl} {m m' : Mem} {G G' : Hp} {τ : L2.St} {H : Hp} {p a : Addr} {o o' : O} {ho : HO} {r : R} {v : V} {x : Str}
theorem EnvOk.h0 (e : EnvOk X c σ m G τ H) (h : H p = none) : c.H0 p = none ∨ p ∈ c.mu := by
  cases q : c.H0 p with
  | none => exact .inl rfl
  | some u =>
    by_cases hp : p ∈ c.mu
    · exact .inr hp
    · rw [e.fr p u q hp] at h; cases h
theorem EnvOk.notIn (e : EnvOk X c σ m G τ H) (h : H p = none) : ∀ q ∈ m, q.1 ≠ p := fun q hq z => by
  obtain ⟨_, ho, hh, _⟩ := e.mem q hq
  rw [z, h] at hh; cases hh
/-- a new owned object -/
theorem EnvOk.new (e : EnvOk X c σ m G τ H) (h : H p = none) (ro : RelO X.K G o ho) : EnvOk X c σ ((p, o) :: m) G τ (upd H p ho) where
  nm := e.nm
  names := e.names
  len := e.len
  sub := e.sub.upd (e.sub.back h)
  nd := by
    show (p :: m.map (·.1)).Nodup
    refine List.nodup_cons.mpr ⟨fun hp => ?_, e.nd⟩
    obtain ⟨q, hq, eq⟩ := List.mem_map.mp hp
    exact e.notIn h q hq eq
  mem := fun q hq => by
    rcases List.mem_cons.mp hq with rfl | hq
    · exact ⟨e.sub.back h, ho, upd_same, ro⟩
    · obtain ⟨g, u, hu, ru⟩ := e.mem q hq
      exact ⟨g, u, by rw [upd_ne (e.notIn h q hq)]; exact hu, ru⟩
  fr := fun a u q hm => by
    have z := e.fr a u q hm
    rw [upd_ne (ne_of_none z h)]; exact z
  th := fun a hm => by
    by_cases ea : a = p
    · subst ea; exact absurd h (e.th a hm)
    · rw [upd_ne ea]; exact e.th a hm
  ok := fun q hq => by
    rcases List.mem_cons.mp hq with rfl | hq
    · rcases e.h0 h with z | z
      · exact .inr z
      · exact .inl z
    · exact e.ok q hq
  gn := e.gn
  g0 := e.g0
  vis := e.vis
  sl := e.sl
/-- more frozen -/
theorem EnvOk.newG (e : EnvOk X c σ m G τ H) (h : H p = none) : EnvOk X c σ m (upd G p ho) τ (upd H p ho) where
  nm := e.nm
  names := e.names
  len := e.len
  sub := e.sub.both
  nd := e.nd
  mem := fun q hq => by
    obtain ⟨g, u, hu, ru⟩ := e.mem q hq
    have n := e.notIn h q hq
    exact ⟨by rw [upd_ne n]; exact g, u, by rw [upd_ne n]; exact hu, ru.mono (Ex.new (e.sub.back h))⟩
  fr := fun a u q hm => by
    have z := e.fr a u q hm
    rw [upd_ne (ne_of_none z h)]; exact z
  th := fun a hm => by
    by_cases ea : a = p
    · subst ea; exact absurd h (e.th a hm)
    · rw [upd_ne ea]; exact e.th a hm
  ok := e.ok
  gn := fun a u ha => by
    by_cases ea : a = p
    · subst ea
      rcases e.h0 h with z | z
      · exact .inr (.inr z)
      · exact .inr (.inl z)
    · rw [upd_ne ea] at ha; exact e.gn a u ha
  g0 := e.g0.trans (Ex.new (e.sub.back h))
  vis := e.vis
  sl := fun i x r q => by
    obtain ⟨v, h1, h2⟩ := e.sl i x r q
    exact ⟨v, h1, h2.mono (Ex.new (e.sub.back h))⟩
/-- an owned object is written -/
theorem EnvOk.chg (e : EnvOk X c σ m G τ H) (h : Chg m p o o' m') (ro : RelO X.K G o' ho) : EnvOk X c σ m' G τ (upd H p ho) where
  nm := e.nm
  names := e.names
  len := e.len
  sub := e.sub.upd (e.mem _ h.mem).1
  nd := by rw [h.keys]; exact e.nd
  mem := fun q hq => by
    rcases h.of e.nd q hq with rfl | ⟨hq, hn⟩
    · exact ⟨(e.mem _ h.mem).1, ho, upd_same, ro⟩
    · obtain ⟨g, u, hu, ru⟩ := e.mem q hq
      exact ⟨g, u, by rw [upd_ne hn]; exact hu, ru⟩
  fr := fun a u q hm => by
    have z := e.fr a u q hm
    by_cases ea : a = p
    · subst ea
      rcases e.ok _ h.mem with y | y
      · exact absurd y hm
      · rw [y] at q; cases q
    · rw [upd_ne ea]; exact z
  th := fun a hm => by
    by_cases ea : a = p
    · subst ea; rw [upd_same]; exact fun z => by cases z
    · rw [upd_ne ea]; exact e.th a hm
  ok := fun q hq => by
    rcases h.of e.nd q hq with rfl | ⟨hq, _⟩
    · exact e.ok (p, o) h.mem
    · exact e.ok q hq
  gn := e.gn
  g0 := e.g0
  vis := e.vis
  sl := e.sl
/-- owned objects are let go -/
theorem EnvOk.drop (e : EnvOk X c σ m G τ H) (hs : ∀ q ∈ m', q ∈ m) (nd : (m'.map (·.1)).Nodup) : EnvOk X c σ m' G τ H :=
  ⟨e.nm, e.names, e.len, e.sub, nd, fun q hq => e.mem q (hs q hq), e.fr, e.th, fun q hq => e.ok q (hs q hq), e.gn, e.g0, e.vis, e.sl⟩
theorem EnvOk.rest (e : EnvOk X c σ m G τ H) (h : Has m a o m') : EnvOk X c σ m' G τ H :=
  e.drop (fun q hq => h.sub.subset hq) ((h.sub.map _).nodup e.nd)
/-- an owned object is frozen as it stands -/
theorem EnvOk.frz (e : EnvOk X c σ m G τ H) (h : Has m a o m') : ∃ u, H a = some u ∧ RelO X.K G o u ∧ G a = none ∧ EnvOk X c σ m' (upd G a u) τ H := by
  obtain ⟨g, u, hu, ru⟩ := e.mem _ h.mem
  refine ⟨u, hu, ru, g, e.nm, e.names, e.len, fun b w q => ?_, (h.sub.map _).nodup e.nd, fun q hq => ?_, e.fr, e.th, fun q hq => e.ok q (h.sub.subset hq), fun b w hb => ?_, e.g0.trans (Ex.new g), e.vis, fun i x r q => ?_⟩
  · by_cases eb : b = a
    · subst eb; rw [upd_same] at q; cases q; exact hu
    · rw [upd_ne eb] at q; exact e.sub b w q
  · obtain ⟨g', u', hu', ru'⟩ := e.mem q (h.sub.subset hq)
    exact ⟨by rw [upd_ne (h.notIn e.nd q hq)]; exact g', u', hu', ru'.mono (Ex.new g)⟩
  · by_cases eb : b = a
    · subst eb; exact .inr (e.ok _ h.mem)
    · rw [upd_ne eb] at hb; exact e.gn b w hb
  · obtain ⟨v, h1, h2⟩ := e.sl i x r q
    exact ⟨v, h1, h2.mono (Ex.new g)⟩
/-- a slot is stored -/
theorem EnvOk.put (e : EnvOk X c σ m G τ H) (h : Put σ x r σ') (hv : Vis X.env.scope x) (rv : RelR X.K G r v) : ∃ i : Nat, X.N[i]? = some x ∧ EnvOk X c σ' m G (τ.set i (some v)) H := by
  obtain ⟨i, ox, e1, rfl⟩ := h.ix
  have hi : i < σ.length := (List.getElem?_eq_some_iff.mp e1).1
  refine ⟨i, by rw [e.names, List.getElem?_map, e1]; rfl, e.nm, ?_, ?_, e.sub, e.nd, e.mem, e.fr, e.th, e.ok, e.gn, e.g0, fun p hp hs => ?_, fun j y q hj => ?_⟩
  · rw [e.names, List.map_set]
    refine (List.ext_getElem? fun j => ?_)
    by_cases hj : i = j
    · subst hj
      rw [List.getElem?_set_self (by rw [List.length_map]; exact hi), List.getElem?_map, e1] <;> rfl
    · rw [List.getElem?_set_ne hj]
  · rw [List.length_set, List.length_set]; exact e.len
  · rcases List.mem_or_eq_of_mem_set hp with hp | rfl
    · exact e.vis p hp hs
    · exact hv
  · by_cases hij : i = j
    · subst hij
      rw [List.getElem?_set_self hi] at hj
      cases hj
      exact ⟨v, List.getElem?_set_self (by rw [e.len]; exact hi), rv⟩
    · rw [List.getElem?_set_ne hij] at hj
      obtain ⟨u, h1, h2⟩ := e.sl j y q hj
      exact ⟨u, by rw [List.getElem?_set_ne hij]; exact h1, h2⟩
theorem EnvOk.get (e : EnvOk X c σ m G τ H) (h : Lk σ x r) : ∃ (i : Nat) (v : V), X.N[i]? = some x ∧ τ[i]? = some (some v) ∧ RelR X.K G r v ∧ Vis X.env.scope x := by
  obtain ⟨i, e1⟩ := h.ix
  obtain ⟨v, h1, h2⟩ := e.sl i x r e1
  exact ⟨i, v, by rw [e.names, List.getElem?_map, e1]; rfl, h1, h2, e.vis _ (List.mem_of_getElem? e1) rfl⟩
end

/-! ### freezing a value -/
mutual
inductive Frz : Mem → R → D → Mem → Prop
  | dat {m d} : Frz m (.dat d) d m
  | lst {m a rs m1 ds m2} : Has m a (.lst rs) m1 → Frzs m1 rs ds m2 → Frz m (.own a) (.lst ds) m2
  | ins {m a C dx rs m1 ds m2} : Has m a (.ins C dx rs) m1 → Frzf m1 rs ds m2 → Frz m (.own a) (.ins C ds) m2
inductive Frzs : Mem → List R → List D → Mem → Prop
  | nil {m} : Frzs m [] [] m
  | cons {m r d m1 rs ds m2} : Frz m r d m1 → Frzs m1 rs ds m2 → Frzs m (r :: rs) (d :: ds) m2
inductive Frzf : Mem → List (Str × R) → List (Str × D) → Mem → Prop
  | nil {m} : Frzf m [] [] m
  | cons {m k r d m1 rs ds m2} : Frz m r d m1 → Frzf m1 rs ds m2 → Frzf m ((k, r) :: rs) ((k, d) :: ds) m2
end
section
variable {X : Cx} {c : Ct} {σ : Sl} {τ : L2.St} {H : Hp}
mutual
theorem Frz.env {m m' : Mem} {r : R} {d : D} (f : Frz m r d m') {G : Hp} {v : V} (e : EnvOk X c σ m G τ H) (rv : RelR X.K G r v) : ∃ G', Ex G G' ∧ EnvOk X c σ m' G' τ H ∧ Rep X.K G' d v :=
  match f, rv with
  | .dat, .dat h => ⟨G, Ex.refl G, e, h⟩
  | .lst h hs, .own => by
    obtain ⟨u, hu, ru, ga, e1⟩ := e.frz h
    cases ru with
    | @lst rs vs rr =>
      obtain ⟨G2, x2, e2, r2⟩ := Frzs.env hs e1 (rr.mono (Ex.new ga))
      exact ⟨G2, (Ex.new ga).trans x2, e2, .lst (.inl (.inl (x2 _ _ upd_same))) r2⟩
  | .ins h hs, .own => by
    obtain ⟨u, hu, ru, ga, e1⟩ := e.frz h
    cases ru with
    | ins rr =>
      obtain ⟨G2, x2, e2, r2⟩ := Frzf.env hs e1 (rr.mono (Ex.new ga))
      exact ⟨G2, (Ex.new ga).trans x2, e2, .ins (x2 _ _ upd_same) r2⟩
theorem Frzs.env {m m' : Mem} {rs : List R} {ds : List D} (f : Frzs m rs ds m') {G : Hp} {vs : List V} (e : EnvOk X c σ m G τ H) (rv : RelRs X.K G rs vs) : ∃ G', Ex G G' ∧ EnvOk X c σ m' G' τ H ∧ Reps X.K G' ds vs :=
  match f, rv with
  | .nil, .nil => ⟨G, Ex.refl G, e, .nil⟩
  | .cons h hs, .cons q qs => by
    obtain ⟨G1, x1, e1, r1⟩ := Frz.env h e q
    obtain ⟨G2, x2, e2, r2⟩ := Frzs.env hs e1 (qs.mono x1)
    exact ⟨G2, x1.trans x2, e2, .cons (r1.mono x2) r2⟩
theorem Frzf.env {m m' : Mem} {rs : List (Str × R)} {ds : List (Str × D)} (f : Frzf m rs ds m') {G : Hp} {vs : List (Str × V)} (e : EnvOk X c σ m G τ H) (rv : RelF X.K G rs vs) : ∃ G', Ex G G' ∧ EnvOk X c σ m' G' τ H ∧ RepF X.K G' ds vs :=
  match f, rv with
  | .nil, .nil => ⟨G, Ex.refl G, e, .nil⟩
  | .cons h hs, .cons q qs => by
    obtain ⟨G1, x1, e1, r1⟩ := Frz.env h e q
    obtain ⟨G2, x2, e2, r2⟩ := Frzf.env hs e1 (qs.mono x1)
    exact ⟨G2, x1.trans x2, e2, .cons (r1.mono x2) r2⟩
end
end
theorem Frzs.map (m : Mem) : ∀ ds : List D, Frzs m (ds.map .dat) ds m
  | [] => .nil
  | _ :: ds => .cons .dat (Frzs.map m ds)

/-! ### the judgements -/
/-- what follows an expression -/
def CK (X : Cx) (c : Ct) (σ : Sl) (τ : L2.St) (G : Hp) (K : R → Mem → Prop) (Q : VK) : Prop :=
  ∀ r m' G' H' v, K r m' → Ex G G' → EnvOk X c σ m' G' τ H' → RelR X.K G' r v → Q v H'
def DE (X : Cx) (c : Ct) (σ : Sl) (m : Mem) (e : Expr) (K : R → Mem → Prop) : Prop :=
  ∀ (pins : List (Addr × Obj)) (s : Shared) (τ : L2.St) (H G : Hp) (Q : VK), Inv X pins τ H s → EnvOk X c σ m G τ H → CK X c σ τ G K Q →
    wpAny (model X.prog X.w) X.A (eval e X.env) (EP X pins τ Q) X.xe s
def CT (X : Cx) (c : Ct) (σ : Sl) (τ : L2.St) (G : Hp) (K : Bool → Mem → Prop) (Q : Bool → Hp → Prop) : Prop :=
  ∀ b m' G' H', K b m' → Ex G G' → EnvOk X c σ m' G' τ H' → Q b H'
def DT (X : Cx) (c : Ct) (σ : Sl) (m : Mem) (e : Expr) (K : Bool → Mem → Prop) : Prop :=
  ∀ (wh : Sem Value) (pins : List (Addr × Obj)) (s : Shared) (τ : L2.St) (H G : Hp) (Q : Bool → Hp → Prop), wh = eval e X.env → Inv X pins τ H s → EnvOk X c σ m G τ H → CT X c σ τ G K Q →
    wpAny (model X.prog X.w) X.A (isTrue e X.env wh) (TP X pins τ Q) X.xe s
def CA (X : Cx) (c : Ct) (σ : Sl) (τ : L2.St) (G : Hp) (K : List R → Mem → Prop) (Q : List V → Hp → Prop) : Prop :=
  ∀ rs m' G' H' vs, K rs m' → Ex G G' → EnvOk X c σ m' G' τ H' → RelRs X.K G' rs vs → Q vs H'
/-- arguments, a display's items -/
def DA (X : Cx) (c : Ct) (σ : Sl) (m : Mem) (es : List Expr) (K : List R → Mem → Prop) : Prop :=
  ∀ (pos : Pos) (pins : List (Addr × Obj)) (s : Shared) (τ : L2.St) (H G : Hp) (Q : List V → Hp → Prop), Inv X pins τ H s → EnvOk X c σ m G τ H → CA X c σ τ G K Q →
    wpAny (model X.prog X.w) X.A (spliced (backTo pos (starEach es X.env))) (AP X pins τ Q) X.xe s
structure En where
  nx : Sl → Mem → Prop
  rt : R → Mem → Prop
  bk : Sl → Mem → Prop := fun _ _ => False
  ct : Sl → Mem → Prop := fun _ _ => False
abbrev nxTo (en : En) (f : Sl → Mem → Prop) : En := ⟨f, en.rt, en.bk, en.ct⟩
structure Fit (X : Cx) (c : Ct) (F : Hp) (D : Ends) (en : En) : Prop where
  nx : ∀ σ m G τ H, en.nx σ m → Ex F G → EnvOk X c σ m G τ H → D.nx τ H
  rt : ∀ r σ m G τ H v, en.rt r m → Ex F G → EnvOk X c σ m G τ H → RelR X.K G r v → D.rt v H
  bk : ∀ σ m G τ H, en.bk σ m → Ex F G → EnvOk X c σ m G τ H → D.bk τ H
  ct : ∀ σ m G τ H, en.ct σ m → Ex F G → EnvOk X c σ m G τ H → D.ct τ H
def DS (X : Cx) (c : Ct) (σ : Sl) (m : Mem) (st : Stmt) (en : En) : Prop :=
  ∀ (F : Hp) (pins : List (Addr × Obj)) (s : Shared) (τ : L2.St) (H G : Hp) (D : Ends), Inv X pins τ H s → EnvOk X c σ m G τ H → Ex F G → Fit X c F D en →
    wpAny (model X.prog X.w) X.A (exec st X.env) (SP X pins D) X.xe s
def DSs (X : Cx) (c : Ct) (σ : Sl) (m : Mem) (sts : List Stmt) (en : En) : Prop :=
  ∀ (F : Hp) (pins : List (Addr × Obj)) (s : Shared) (τ : L2.St) (H G : Hp) (D : Ends), Inv X pins τ H s → EnvOk X c σ m G τ H → Ex F G → Fit X c F D en →
    wpAny (model X.prog X.w) X.A (execs sts X.env) (SP X pins D) X.xe s

/-! ### to and from the hand layer's judgements -/
section
variable {X : Cx} {c : Ct} {σ : Sl} {m : Mem} {e : Expr} {K : R → Mem → Prop}
theorem de_of {t : TE} (h : PE X e t) (g : ∀ τ H G Q, EnvOk X c σ m G τ H → CK X c σ τ G K Q → t τ H Q) : DE X c σ m e K :=
  fun pins s τ H G Q I E k => h.run pins s τ H Q I (g τ H G Q E k)
/-- the reading of an expression that is walked -/
def tE (X : Cx) (c : Ct) (e : Expr) : TE := fun τ H Q => ∃ σ m G K, EnvOk X c σ m G τ H ∧ DE X c σ m e K ∧ CK X c σ τ G K Q
theorem pe_t : PE X e (tE X c e) := ⟨fun pins s τ H Q I ⟨σ, m, G, K, E, d, k⟩ => d pins s τ H G Q I E k⟩
def tT (X : Cx) (c : Ct) (e : Expr) : TT := fun τ H Q => ∃ σ m G K, EnvOk X c σ m G τ H ∧ DT X c σ m e K ∧ CT X c σ τ G K Q
theorem pt_t : PT X e (tT X c e) := ⟨fun pins s τ H Q I ⟨σ, m, G, K, E, d, k⟩ => d _ pins s τ H G Q rfl I E k⟩
def tA (X : Cx) (c : Ct) (es : List Expr) : TA := fun τ H Q => ∃ σ m G K, EnvOk X c σ m G τ H ∧ DA X c σ m es K ∧ CA X c σ τ G K Q
theorem pa_t {es : List Expr} : PA X es (tA X c es) := ⟨fun pos pins s τ H Q I ⟨σ, m, G, K, E, d, k⟩ => d pos pins s τ H G Q I E k⟩
def tS (X : Cx) (c : Ct) (st : Stmt) : TS := fun D τ H => ∃ F σ m G en, EnvOk X c σ m G τ H ∧ DS X c σ m st en ∧ Ex F G ∧ Fit X c F D en
theorem ps_t {st : Stmt} : PS X st (tS X c st) := ⟨fun pins s τ H D I ⟨F, σ, m, G, en, E, d, f, k⟩ => d F pins s τ H G D I E f k⟩
def tSs (X : Cx) (c : Ct) (sts : List Stmt) : TS := fun D τ H => ∃ F σ m G en, EnvOk X c σ m G τ H ∧ DSs X c σ m sts en ∧ Ex F G ∧ Fit X c F D en
theorem pss_t {sts : List Stmt} : PSs X sts (tSs X c sts) := ⟨fun pins s τ H D I ⟨F, σ, m, G, en, E, d, f, k⟩ => d F pins s τ H G D I E f k⟩
theorem CK.now {τ : L2.St} {G H : Hp} {Q : VK} {r : R} {v : V} (k : CK X c σ τ G K Q) (h : K r m) (E : EnvOk X c σ m G τ H) (rv : RelR X.K G r v) : Q v H := k r m G H v h (Ex.refl G) E rv
theorem CK.mono {τ : L2.St} {G G' : Hp} {Q : VK} (k : CK X c σ τ G K Q) (e : Ex G G') : CK X c σ τ G' K Q := fun r m' G2 H' v h x E rv => k r m' G2 H' v h (e.trans x) E rv
theorem CT.mono {τ : L2.St} {G G' : Hp} {K : Bool → Mem → Prop} {Q : Bool → Hp → Prop} (k : CT X c σ τ G K Q) (e : Ex G G') : CT X c σ τ G' K Q := fun r m' G2 H' h x E => k r m' G2 H' h (e.trans x) E
theorem CA.mono {τ : L2.St} {G G' : Hp} {K : List R → Mem → Prop} {Q : List V → Hp → Prop} (k : CA X c σ τ G K Q) (e : Ex G G') : CA X c σ τ G' K Q := fun r m' G2 H' v h x E rv => k r m' G2 H' v h (e.trans x) E rv
end

/-! ### names, constants, sequences -/
section
variable {X : Cx} {c : Ct} {σ σ' : Sl} {m m1 : Mem} {e e1 e2 : Expr} {es : List Expr} {K : R → Mem → Prop} {pos : Pos} {x : Str} {r : R}
theorem de_name (h : Lk σ x r) (k : K r m) : DE X c σ m (.Name x pos) K := fun pins s τ H G Q I E q => by
  obtain ⟨i, v, h1, h2, h3, hv⟩ := E.get h
  obtain ⟨hd, hcd⟩ := E.nm.dbg x (List.mem_of_getElem? h1)
  exact (pe_var h1 hv hd hcd).run pins s τ H Q I ⟨v, h2, q.now k E h3⟩
theorem de_int {i : Int} {j} (k : K (.dat (.int i)) m) : DE X c σ m (.Constant (.int i) j pos) K := de_of pe_int fun τ H G Q E q => q.now k E (.dat .int)
theorem de_bl {b : Bool} {j} (k : K (.dat (.bl b)) m) : DE X c σ m (.Constant (.bool b) j pos) K := de_of pe_bl fun τ H G Q E q => q.now k E (.dat .bl)
theorem de_non {j} (k : K (.dat .non) m) : DE X c σ m (.Constant .none j pos) K := de_of pe_non fun τ H G Q E q => q.now k E (.dat .non)
theorem rep_str {K : PySem.W.Frag} {G : Hp} {z : Str} : Rep K G (.str (lit z)) (.str z) := by
  have h : Rep K G (.str (lit z)) (.str (sOf (lit z))) := .str
  rw [sOf_lit] at h; exact h
theorem de_str {z : Str} {j} (k : K (.dat (.str (lit z))) m) : DE X c σ m (.Constant (.str z) j pos) K := de_of pe_str fun τ H G Q E q => q.now k E (.dat rep_str)
/-- weaken what follows -/
theorem DE.imp {K' : R → Mem → Prop} (h : DE X c σ m e K) (k : ∀ r m', K r m' → K' r m') : DE X c σ m e K' := fun pins s τ H G Q I E q =>
  h pins s τ H G Q I E fun r m' G' H' v z x E' rv => q r m' G' H' v (k r m' z) x E' rv
theorem da_nil {K : List R → Mem → Prop} (k : K [] m) : DA X c σ m [] K := fun pos pins s τ H G Q I E q => pa_nil.run pos pins s τ H Q I (q [] m G H [] k (Ex.refl G) E .nil)
theorem da_cons {K : List R → Mem → Prop} (h : DE X c σ m e (fun r m1 => DA X c σ m1 es (fun rs m2 => K (r :: rs) m2))) (hs : starEach (e :: es) X.env = (false, eval e X.env) :: starEach es X.env := by rfl) : DA X c σ m (e :: es) K := fun pos pins s τ H G Q I E q => by
  rw [hs]
  show wpAny _ _ (spliced ((false, eval e X.env) :: backTo pos (starEach es X.env))) _ _ s
  refine Calls.spliced_cons (thn (h pins s τ H G (fun v H1 => ∃ r m1 G1, Ex G G1 ∧ DA X c σ m1 es (fun rs m2 => K (r :: rs) m2) ∧ EnvOk X c σ m1 G1 τ H1 ∧ RelR X.K G1 r v) I E (fun r m1 G1 H1 v z x E1 rv => ⟨r, m1, G1, x, z, E1, rv⟩)) fun u s1 hu => ?_)
  obtain ⟨v, H1, I1, r1, r, m1, G1, x1, d, E1, rv⟩ := hu
  exact thn (d pos pins s1 τ H1 G1 (fun vs H2 => Q (v :: vs) H2) I1 E1 (fun rs m2 G2 H2 vs z x E2 rv2 => q (r :: rs) m2 G2 H2 (v :: vs) z (x1.trans x) E2 (.cons (rv.mono x) rv2))) fun us s2 ⟨xs, H2, I2, r2, q2⟩ => ⟨v :: xs, H2, I2, .cons r1 r2, q2⟩
end

/-! ### statements -/
section
variable {X : Cx} {c : Ct} {σ σ' : Sl} {m m1 : Mem} {e : Expr} {st : Stmt} {sts : List Stmt} {en : En} {pos px : Pos} {x : Str} {r : R}
theorem Fit.up {F G : Hp} {D : Ends} (f : Fit X c F D en) (e : Ex F G) : Fit X c G D en :=
  ⟨fun σ m G' τ H h x E => f.nx σ m G' τ H h (e.trans x) E, fun r σ m G' τ H v h x E rv => f.rt r σ m G' τ H v h (e.trans x) E rv, fun σ m G' τ H h x E => f.bk σ m G' τ H h (e.trans x) E, fun σ m G' τ H h x E => f.ct σ m G' τ H h (e.trans x) E⟩
theorem dss_nil (k : en.nx σ m) : DSs X c σ m [] en := fun F pins s τ H G D I E x f => wpAny_execs_nil ⟨τ, H, I, f.nx σ m G τ H k x E⟩
theorem dss_cons (h : DS X c σ m st (nxTo en fun σ' m' => DSs X c σ' m' sts en)) : DSs X c σ m (st :: sts) en := fun F pins s τ H G D I E x f => by
  refine wpAny_execs_cons (thn (h F pins s τ H G { D with nx := fun τ' H' => ∃ σ' m' G', DSs X c σ' m' sts en ∧ Ex F G' ∧ EnvOk X c σ' m' G' τ' H' } I E x ⟨fun σ' m' G' τ' H' z y E' => ⟨σ', m', G', z, y, E'⟩, f.rt, f.bk, f.ct⟩) fun fl s1 q => ?_)
  cases fl with
  | next =>
    obtain ⟨τ', H', I', σ', m', G', z, y, E'⟩ := q
    exact z F pins s1 τ' H' G' D I' E' y f
  | ret v => exact q
  | brk => exact q
  | cont => exact q
theorem ds_pass (k : en.nx σ m) : DS X c σ m (.Pass pos) en := fun F pins s τ H G D I E x f => ps_pass.run pins s τ H D I (f.nx σ m G τ H k x E)
theorem ds_brk (k : en.bk σ m) : DS X c σ m (.Break pos) en := fun F pins s τ H G D I E x f => ps_break.run pins s τ H D I (f.bk σ m G τ H k x E)
theorem ds_cont (k : en.ct σ m) : DS X c σ m (.Continue pos) en := fun F pins s τ H G D I E x f => ps_continue.run pins s τ H D I (f.ct σ m G τ H k x E)
theorem ds_ret (h : DE X c σ m e en.rt) : DS X c σ m (.Return (some e) pos) en := fun F pins s τ H G D I E x f =>
  (ps_ret (pe_t (c := c))).run pins s τ H D I ⟨σ, m, G, en.rt, E, h, fun r m' G' H' v z y E' rv => f.rt r σ m' G' τ H' v z (x.trans y) E' rv⟩
theorem ds_retN (k : en.rt (.dat .non) m) : DS X c σ m (.Return none pos) en := fun F pins s τ H G D I E x f =>
  ps_retN.run pins s τ H D I (f.rt (.dat .non) σ m G τ H .non k x E (.dat .non))
theorem ds_expr (h : DE X c σ m e (fun _ m' => en.nx σ m')) (hs : swapsWith e none pos.line X.env = pure false := by rfl) : DS X c σ m (.Expr e pos) en := fun F pins s τ H G D I E x f =>
  (ps_expr (pe_t (c := c)) hs).run pins s τ H D I ⟨σ, m, G, _, E, h, fun r m' G' H' v z y E' rv => f.nx σ m' G' τ H' z (x.trans y) E'⟩
theorem ds_doc {z : Str} {j} {p : Pos} (k : en.nx σ m) : DS X c σ m (.Expr (.Constant (.str z) j p) pos) en := fun F pins s τ H G D I E x f => ps_doc.run pins s τ H D I (f.nx σ m G τ H k x E)
/-- the stores of a name: f says the slots behind -/
inductive PutF : Sl → Str → (R → Sl) → Prop
  | here {x o σ} : PutF ((x, o) :: σ) x (fun r => (x, some r) :: σ)
  | there {p x σ f} : PutF σ x f → PutF (p :: σ) x (fun r => p :: f r)
theorem PutF.put {x : Str} {f : R → Sl} (h : PutF σ x f) (r : R) : Put σ x r (f r) := by
  induction h with
  | here => exact .here
  | there _ ih => exact .there ih
theorem PutF.at {x : Str} {f : R → Sl} (h : PutF σ x f) : x ∈ σ.map (·.1) := by
  induction h with
  | here => exact List.mem_cons_self
  | there _ ih => exact List.mem_cons_of_mem _ ih
/-- a name is stored: it is the def's own -/
def Own (X : Cx) (x : Str) : Prop := Loc X.env.scope x ∧ (X.fn x = true ∨ X.env.scope.names.lookup x = some .local)
theorem ds_asg {f : R → Sl} (hx : Own X x) (hp : PutF σ x f) (h : DE X c σ m e (fun r m1 => en.nx (f r) m1)) (hs : swapsWithSole [.Name x px] e pos.line X.env = pure false := by rfl) (hw : swappedStores [.Name x px] e X.env = pure none := by rfl)
    (h1 : (assignEach [.Name x px] X.env).map (·.2) = [assign (.Name x px) X.env] := by rfl) : DS X c σ m (.Assign [.Name x px] e pos) en := fun F pins s τ H G D I E fx ft => by
  have hm : x ∈ X.N := by rw [E.names]; exact hp.at
  obtain ⟨i, hi⟩ := List.mem_iff_getElem?.mp hm
  refine (ps_asg (pe_t (c := c)) (pg_name (i := i) E.nm.nd hi hx.1 hx.2) hs hw h1).run pins s τ H D I ⟨σ, m, G, _, E, h, fun r m' G' H' v z y E' rv => ?_⟩
  obtain ⟨j, hj, E2⟩ := E'.put (hp.put r) (hx.1.elim .inl fun z => .inr (.inl z)) rv
  have ij : i = j := nodup_ix E.nm.nd hi hj
  subst ij
  exact ft.nx _ m' G' _ H' z (fx.trans y) E2
end
end D2
/-! ## D2Ops -/
namespace D2
open PySem PySem.Spec PyProof.Rows L2
abbrev rI (i : Int) : R := .dat (.int i)
abbrev rB (b : Bool) : R := .dat (.bl b)
abbrev rS (s : List Nat) : R := .dat (.str s)

/-! ### an operation on two values -/
def OP (X : Cx) (c : Ct) (σ : Sl) (m : Mem) (f : Value → Value → Sem Value) (r1 r2 : R) (K : R → Mem → Prop) : Prop :=
  ∀ (pins : List (Addr × Obj)) (s : Shared) (τ : L2.St) (H G : Hp) (v1 v2 : V) (u1 u2 : Value) (Q : VK), Inv X pins τ H s → EnvOk X c σ m G τ H → RelR X.K G r1 v1 → RelR X.K G r2 v2 → RelV v1 u1 → RelV v2 u2 →
    CK X c σ τ G K Q → wpAny (model X.prog X.w) X.A (f u1 u2) (EP X pins τ Q) X.xe s
def UP (X : Cx) (c : Ct) (σ : Sl) (m : Mem) (f : Value → Sem Value) (r1 : R) (K : R → Mem → Prop) : Prop :=
  ∀ (pins : List (Addr × Obj)) (s : Shared) (τ : L2.St) (H G : Hp) (v1 : V) (u1 : Value) (Q : VK), Inv X pins τ H s → EnvOk X c σ m G τ H → RelR X.K G r1 v1 → RelV v1 u1 →
    CK X c σ τ G K Q → wpAny (model X.prog X.w) X.A (f u1) (EP X pins τ Q) X.xe s
section
variable {X : Cx} {c : Ct} {σ : Sl} {m : Mem} {a b : Expr} {K : R → Mem → Prop} {pos : Pos} {f : Value → Value → Sem Value} {g1 : Value → Sem Value} {r1 r2 : R}
theorem op_of {r : R2} (h : OpR X f r) (g : ∀ τ H G v1 v2 Q, EnvOk X c σ m G τ H → RelR X.K G r1 v1 → RelR X.K G r2 v2 → CK X c σ τ G K Q → r v1 v2 H Q) : OP X c σ m f r1 r2 K :=
  fun pins s τ H G v1 v2 u1 u2 Q I E h1 h2 q1 q2 k => h pins s τ H v1 v2 u1 u2 Q I q1 q2 (g τ H G v1 v2 Q E h1 h2 k)
theorem up_of {r : V → Hp → VK → Prop} (h : UnR X g1 r) (g : ∀ τ H G v1 Q, EnvOk X c σ m G τ H → RelR X.K G r1 v1 → CK X c σ τ G K Q → r v1 H Q) : UP X c σ m g1 r1 K :=
  fun pins s τ H G v1 u1 Q I E h1 q1 k => h pins s τ H v1 u1 Q I q1 (g τ H G v1 Q E h1 k)
theorem two {pins : List (Addr × Obj)} {s : Shared} {τ : L2.St} {H G : Hp} {Q : VK} (h : DE X c σ m a (fun r1 m1 => DE X c σ m1 b (fun r2 m2 => OP X c σ m2 f r1 r2 K)))
    (I : Inv X pins τ H s) (E : EnvOk X c σ m G τ H) (k : CK X c σ τ G K Q) :
    wpAny (model X.prog X.w) X.A (eval a X.env) (fun v s₁ => wpAny (model X.prog X.w) X.A (eval b X.env) (fun u s₂ => wpAny (model X.prog X.w) X.A (f v u) (EP X pins τ Q) X.xe s₂) X.xe s₁) X.xe s := by
  refine thn (h pins s τ H G (fun v H1 => ∃ r m1 G1, Ex G G1 ∧ DE X c σ m1 b (fun r2 m2 => OP X c σ m2 f r r2 K) ∧ EnvOk X c σ m1 G1 τ H1 ∧ RelR X.K G1 r v) I E (fun r m1 G1 H1 v z x E1 rv => ⟨r, m1, G1, x, z, E1, rv⟩)) fun u s1 hu => ?_
  obtain ⟨v, H1, I1, q1, r, m1, G1, x1, d, E1, rv⟩ := hu
  refine thn (d pins s1 τ H1 G1 (fun w H2 => ∃ r2 m2 G2, Ex G1 G2 ∧ OP X c σ m2 f r r2 K ∧ EnvOk X c σ m2 G2 τ H2 ∧ RelR X.K G2 r2 w) I1 E1 (fun r m1 G1 H1 v z x E1 rv => ⟨r, m1, G1, x, z, E1, rv⟩)) fun u2 s2 hu2 => ?_
  obtain ⟨w, H2, I2, q2, r2, m2, G2, x2, d2, E2, rw2⟩ := hu2
  exact d2 pins s2 τ H2 G2 v w u u2 Q I2 E2 (rv.mono x2) rw2 q1 q2 (k.mono (x1.trans x2))
theorem de_bin {op : Operator} (h : DE X c σ m a (fun r1 m1 => DE X c σ m1 b (fun r2 m2 => OP X c σ m2 (binaryOp op) r1 r2 K))) : DE X c σ m (.BinOp a op b pos) K :=
  fun pins s τ H G Q I E k => wpAny_BinOp (two h I E k)
theorem de_cmp {op : CmpOp} (h : DE X c σ m a (fun r1 m1 => DE X c σ m1 b (fun r2 m2 => OP X c σ m2 (compareOp op) r1 r2 K))) (hm : behindInMarks op b = false := by first | exact nomark _ (by decide) (by decide) | rfl | with_unfolding_all rfl) : DE X c σ m (.Compare a [op] [b] pos) K :=
  fun pins s τ H G Q I E k => wpAny_Compare1 (two h I E k) hm
theorem de_un {op : UnaryOp} (h : DE X c σ m a (fun r1 m1 => UP X c σ m1 (unaryOp op) r1 K)) : DE X c σ m (.UnaryOp op a pos) K :=
  fun pins s τ H G Q I E k => UnaryOp_ (thn (h pins s τ H G (fun v H1 => ∃ r m1 G1, Ex G G1 ∧ UP X c σ m1 (unaryOp op) r K ∧ EnvOk X c σ m1 G1 τ H1 ∧ RelR X.K G1 r v) I E (fun r m1 G1 H1 v z x E1 rv => ⟨r, m1, G1, x, z, E1, rv⟩)) fun u s1 hu => by
    obtain ⟨v, H1, I1, q1, r, m1, G1, x1, d, E1, rv⟩ := hu
    exact d pins s1 τ H1 G1 v u Q I1 E1 rv q1 (k.mono x1))

/-! ### ints -/
theorem opI {C : Int → Int → Prop} {g : Int → Int → Int} {i j : Int} (h : OpR X f (L2.rI C fun i j => .int (g i j))) (hc : C i j) (k : K (rI (g i j)) m) : OP X c σ m f (rI i) (rI j) K :=
  op_of h fun τ H G v1 v2 Q E h1 h2 q => by
    cases h1 with | dat h1 => cases h2 with | dat h2 =>
    cases h1; cases h2
    exact ⟨i, j, rfl, rfl, hc, q.now k E (.dat .int)⟩
theorem opI0 {g : Int → Int → Int} {i j : Int} (h : OpR X f (L2.rI0 fun i j => .int (g i j))) (k : K (rI (g i j)) m) : OP X c σ m f (rI i) (rI j) K :=
  op_of h fun τ H G v1 v2 Q E h1 h2 q => by
    cases h1 with | dat h1 => cases h2 with | dat h2 =>
    cases h1; cases h2
    exact ⟨i, j, rfl, rfl, q.now k E (.dat .int)⟩
theorem opB0 {g : Int → Int → Bool} {i j : Int} (h : OpR X f (L2.rI0 fun i j => .bl (g i j))) (k : K (rB (g i j)) m) : OP X c σ m f (rI i) (rI j) K :=
  op_of h fun τ H G v1 v2 Q E h1 h2 q => by
    cases h1 with | dat h1 => cases h2 with | dat h2 =>
    cases h1; cases h2
    exact ⟨i, j, rfl, rfl, q.now k E (.dat .bl)⟩
variable {i j : Int}
theorem o_add (k : K (rI (i + j)) m) : OP X c σ m (binaryOp .Add) (rI i) (rI j) K := opI0 L2.op_add k
theorem o_sub (k : K (rI (i - j)) m) : OP X c σ m (binaryOp .Sub) (rI i) (rI j) K := opI0 L2.op_sub k
theorem o_mul (hc : CMulW i j) (k : K (rI (i * j)) m) : OP X c σ m (binaryOp .Mult) (rI i) (rI j) K := opI L2.op_mulW hc k
theorem o_mulS (hc : CMul i j) (k : K (rI (i * j)) m) : OP X c σ m (binaryOp .Mult) (rI i) (rI j) K := opI L2.op_mul hc k
theorem o_div (hc : CDivW i j) (k : K (rI (i / j)) m) : OP X c σ m (binaryOp .FloorDiv) (rI i) (rI j) K := opI L2.op_fdivW hc k
theorem o_mod (hc : 0 < j) (k : K (rI (i % j)) m) : OP X c σ m (binaryOp .Mod) (rI i) (rI j) K := opI (C := fun _ j => 0 < j) L2.op_mod hc k
theorem o_pow (hc : CPow i j) (k : K (rI (i ^ j.toNat)) m) : OP X c σ m (binaryOp .Pow) (rI i) (rI j) K := opI L2.op_pow hc k
theorem o_shl (hc : CPow i j) (k : K (rI (i * 2 ^ j.toNat)) m) : OP X c σ m (binaryOp .LShift) (rI i) (rI j) K := opI L2.op_shl hc k
theorem o_lt (k : K (rB (decide (i < j))) m) : OP X c σ m (compareOp .Lt) (rI i) (rI j) K := opB0 L2.op_lt k
theorem o_le (k : K (rB (decide (i ≤ j))) m) : OP X c σ m (compareOp .LtE) (rI i) (rI j) K := opB0 L2.op_le k
theorem o_gt (k : K (rB (decide (j < i))) m) : OP X c σ m (compareOp .Gt) (rI i) (rI j) K := opB0 L2.op_gt k
theorem o_ge (k : K (rB (decide (j ≤ i))) m) : OP X c σ m (compareOp .GtE) (rI i) (rI j) K := opB0 L2.op_ge k
theorem u_neg (k : K (rI (-i)) m) : UP X c σ m (unaryOp .USub) (rI i) K := up_of un_neg fun τ H G v1 Q E h1 q => by
  cases h1 with | dat h1 =>
  cases h1
  exact ⟨i, rfl, q.now k E (.dat .int)⟩

/-! ### == and != of plain values -/
theorem dec_int' {i j : Int} : decide (V.int i = V.int j) = decide (i = j) := by
  by_cases h : i = j
  · subst h; simp
  · rw [decide_eq_false h]; exact decide_eq_false fun q => h (by cases q; rfl)
theorem dec_str' {a b : List Nat} : decide (V.str (sOf a) = V.str (sOf b)) = decide (a = b) := by
  by_cases h : a = b
  · subst h; simp
  · rw [decide_eq_false h]
    refine decide_eq_false fun q => h ?_
    have z : sOf a = sOf b := by cases q; rfl
    have z2 := congrArg lit z
    rwa [lit_sOf, lit_sOf] at z2
theorem dec_bl' {a b : Bool} : decide (V.bl a = V.bl b) = decide (a = b) := by
  cases a <;> cases b <;> rfl
section
variable {x y : List Nat} {p q : Bool}
theorem o_eqI (k : K (rB (decide (i = j))) m) : OP X c σ m (compareOp .Eq) (rI i) (rI j) K := op_of L2.op_eq fun τ H G v1 v2 Q E h1 h2 q => by
  cases h1 with | dat h1 => cases h2 with | dat h2 =>
  cases h1; cases h2
  refine ⟨rfl, ?_⟩
  rw [dec_int']
  exact q.now k E (.dat .bl)
theorem o_neI (k : K (rB (!decide (i = j))) m) : OP X c σ m (compareOp .NotEq) (rI i) (rI j) K := op_of L2.op_ne fun τ H G v1 v2 Q E h1 h2 q => by
  cases h1 with | dat h1 => cases h2 with | dat h2 =>
  cases h1; cases h2
  refine ⟨rfl, ?_⟩
  rw [dec_int']
  exact q.now k E (.dat .bl)
theorem o_eqS (k : K (rB (decide (x = y))) m) : OP X c σ m (compareOp .Eq) (rS x) (rS y) K := op_of L2.op_eq fun τ H G v1 v2 Q E h1 h2 q => by
  cases h1 with | dat h1 => cases h2 with | dat h2 =>
  cases h1; cases h2
  refine ⟨rfl, ?_⟩
  rw [dec_str']
  exact q.now k E (.dat .bl)
theorem o_neS (k : K (rB (!decide (x = y))) m) : OP X c σ m (compareOp .NotEq) (rS x) (rS y) K := op_of L2.op_ne fun τ H G v1 v2 Q E h1 h2 q => by
  cases h1 with | dat h1 => cases h2 with | dat h2 =>
  cases h1; cases h2
  refine ⟨rfl, ?_⟩
  rw [dec_str']
  exact q.now k E (.dat .bl)
theorem o_eqB (k : K (rB (decide (p = q))) m) : OP X c σ m (compareOp .Eq) (rB p) (rB q) K := op_of L2.op_eq fun τ H G v1 v2 Q E h1 h2 q => by
  cases h1 with | dat h1 => cases h2 with | dat h2 =>
  cases h1; cases h2
  refine ⟨rfl, ?_⟩
  rw [dec_bl']
  exact q.now k E (.dat .bl)
theorem o_isB (k : K (rB (decide (p = q))) m) : OP X c σ m (compareOp .Is) (rB p) (rB q) K := op_of L2.op_isBl fun τ H G v1 v2 Q E h1 h2 z => by
  cases h1 with | dat h1 => cases h2 with | dat h2 =>
  cases h1; cases h2
  exact ⟨p, q, rfl, rfl, z.now k E (.dat .bl)⟩
end

/-! ### texts -/
theorem sOf_app (a b : List Nat) : sOf a ++ sOf b = sOf (a ++ b) := by
  show (⟨_⟩ : Str) = _
  simp [sOf]
theorem sOf_len (a : List Nat) : (sOf a).length = a.length := by
  show (a.toArray).size = _
  simp
theorem o_addS {x y : List Nat} (hl : x.length + y.length ≤ 1000000) (k : K (rS (x ++ y)) m) : OP X c σ m (binaryOp .Add) (rS x) (rS y) K := op_of L2.op_add_str fun τ H G v1 v2 Q E h1 h2 q => by
  cases h1 with | dat h1 => cases h2 with | dat h2 =>
  cases h1; cases h2
  refine ⟨_, _, rfl, rfl, ?_, ?_⟩
  · rw [sOf_len, sOf_len]; exact Nat.le_trans hl (by decide)
  · rw [sOf_app]; exact q.now k E (.dat .str)

/-! ### lists, seen -/
inductive VL (m : Mem) : R → List R → Prop
  | dat {ds} : VL m (.dat (.lst ds)) (ds.map .dat)
  | own {a rs m'} : Has m a (.lst rs) m' → VL m (.own a) rs
section
variable {τ : L2.St} {H G : Hp} {v : V} {r : R} {rs : List R} {c : Ct}
theorem VL.at (h : VL m r rs) (E : EnvOk X c σ m G τ H) (rv : RelR X.K G r v) : ∃ a vs, v = .ref a ∧ SqL X.K H a vs ∧ RelRs X.K G rs vs := by
  cases h with
  | dat =>
    cases rv with | dat rv =>
    cases rv with | lst hs hr => exact ⟨_, _, rfl, ex_l E.sub hs, hr.rel⟩
  | own hm =>
    cases rv
    obtain ⟨_, ho, hh, ro⟩ := E.mem _ hm.mem
    cases ro with | lst ro => exact ⟨_, _, rfl, .inl (.inl hh), ro⟩
end
theorem VL.nat {ds : List D} : VL m (.dat (.lst ds)) (ds.map .dat) := .dat
/-- a list tracked and free to be joined to another -/
inductive VU (m : Mem) : R → List R → Prop
  | own {a rs m'} : Has m a (.lst rs) m' → VU m (.own a) rs
theorem VU.at {τ : L2.St} {H G : Hp} {v : V} {r : R} {rs : List R} {c : Ct} (h : VU m r rs) (E : EnvOk X c σ m G τ H) (rv : RelR X.K G r v) : ∃ a vs, v = .ref a ∧ H a = some (.lst vs) ∧ RelRs X.K G rs vs := by
  cases h with
  | own hm =>
    cases rv
    obtain ⟨_, ho, hh, ro⟩ := E.mem _ hm.mem
    cases ro with | lst ro => exact ⟨_, _, rfl, hh, ro⟩
theorem o_cat {rs1 rs2 : List R} (h1 : VU m r1 rs1) (h2 : VU m r2 rs2) (hl : rs1.length + rs2.length ≤ 1000000) (k : ∀ p, K (.own p) ((p, .lst (rs1 ++ rs2)) :: m)) : OP X c σ m (binaryOp .Add) r1 r2 K := op_of L2.op_cat fun τ H G v1 v2 Q E q1 q2 q => by
  obtain ⟨a, vs, rfl, ha, ra⟩ := h1.at E q1
  obtain ⟨b, us, rfl, hb, rb⟩ := h2.at E q2
  refine ⟨a, b, vs, us, rfl, rfl, ha, hb, by rw [← ra.length, ← rb.length]; exact Nat.le_trans hl (by decide), fun p hp => ?_⟩
  exact q _ _ G _ _ (k p) (Ex.refl G) (E.new hp (.lst (ra.append rb))) .own

/-! ### tests -/
abbrev KB (K : Bool → Mem → Prop) : R → Mem → Prop := fun r m => ∃ b, r = rB b ∧ K b m
theorem kb {K : Bool → Mem → Prop} {b : Bool} (k : K b m) : KB K (rB b) m := ⟨b, rfl, k⟩
theorem ck_b {K : Bool → Mem → Prop} {τ : L2.St} {G : Hp} {Q : Bool → Hp → Prop} (k : CT X c σ τ G K Q) : CK X c σ τ G (KB K) (fun v H => ∃ b, v = .bl b ∧ Q b H) := fun r m' G' H' v ⟨b, e, z⟩ x E rv => by
  subst e
  cases rv with | dat rv =>
  cases rv
  exact ⟨b, rfl, k b m' G' H' z x E⟩
theorem dt_cmp {K : Bool → Mem → Prop} {op : CmpOp} (h : DE X c σ m a (fun r1 m1 => DE X c σ m1 b (fun r2 m2 => OP X c σ m2 (compareOp op) r1 r2 (KB K)))) (hm : behindInMarks op b = false := by first | exact nomark _ (by decide) (by decide) | rfl | with_unfolding_all rfl) : DT X c σ m (.Compare a [op] [b] pos) K :=
  fun wh pins s τ H G Q hw I E k => by
    subst hw
    refine wpAny_isTrue_Compare1 (thn (two h I E (ck_b k)) fun v s1 h1 => thn h1 fun u s2 h2 => thn h2 fun w s3 ⟨z, H3, I3, r3, b, e, q⟩ => ?_) hm
    subst e
    cases r3
    exact wpAny_truthy_bool ⟨H3, I3, q⟩
/-- an expression that gives a bool -/
theorem dt_val {e : Expr} {K : Bool → Mem → Prop} (h : DE X c σ m e (KB K)) (he : ∀ whole, isTrue e X.env whole = (do let v ← whole; standAt e.pos; holding [v] (truthy v)) := by intro _; rfl) : DT X c σ m e K :=
  fun wh pins s τ H G Q hw I E k => by
    subst hw
    refine isTrue_plain (thn (h pins s τ H G _ I E (ck_b k)) fun v s1 ⟨x, H1, I1, r1, b, e, q⟩ => ?_) (he _)
    subst e
    cases r1
    exact wpAny_truthy_bool ⟨H1, I1, q⟩
theorem dt_not {K : Bool → Mem → Prop} (h : DT X c σ m a (fun b m' => K (!b) m')) : DT X c σ m (.UnaryOp .Not a pos) K :=
  fun wh pins s τ H G Q hw I E k => by
    subst hw
    exact isTrue_not (thn (h _ pins s τ H G (fun b H' => Q (!b) H') rfl I E fun b m' G' H' z x E' => k (!b) m' G' H' z x E') fun b s1 ⟨H1, I1, q⟩ => ⟨H1, I1, q⟩)
/-- and, or over the operands that are left -/
def DW (X : Cx) (c : Ct) (σ : Sl) (m : Mem) (e : Expr) (K : Bool → Mem → Prop) : Prop :=
  ∀ (wh : Sem Value) (pins : List (Addr × Obj)) (s : Shared) (τ : L2.St) (H G : Hp) (Q : Bool → Hp → Prop), Inv X pins τ H s → EnvOk X c σ m G τ H → CT X c σ τ G K Q →
    wpAny (model X.prog X.w) X.A (isTrue e X.env wh) (TP X pins τ Q) X.xe s
theorem dt_bool {K : Bool → Mem → Prop} {op : BoolOp} {es : List Expr} (h : DW X c σ m (.BoolOp op es pos) K) : DT X c σ m (.BoolOp op es pos) K := fun wh pins s τ H G Q _ I E k => h wh pins s τ H G Q I E k
theorem dw_and1 {K : Bool → Mem → Prop} (h : DT X c σ m a K) : DW X c σ m (.BoolOp .And [a] pos) K := fun wh pins s τ H G Q I E k =>
  (pw_and1 (pt_t (c := c))).run wh pins s τ H Q I ⟨σ, m, G, K, E, h, k⟩
theorem dw_or1 {K : Bool → Mem → Prop} (h : DT X c σ m a K) : DW X c σ m (.BoolOp .Or [a] pos) K := fun wh pins s τ H G Q I E k =>
  (pw_or1 (pt_t (c := c))).run wh pins s τ H Q I ⟨σ, m, G, K, E, h, k⟩
theorem dw_and {K : Bool → Mem → Prop} {rest : List Expr} (h : DT X c σ m a (fun d m1 => (d = true → DW X c σ m1 (.BoolOp .And (b :: rest) pos) K) ∧ (d = false → K false m1))) : DW X c σ m (.BoolOp .And (a :: b :: rest) pos) K := fun wh pins s τ H G Q I E k => by
  refine isTrue_and (thn (h _ pins s τ H G (fun d H1 => ∃ m1 G1, Ex G G1 ∧ EnvOk X c σ m1 G1 τ H1 ∧ ((d = true → DW X c σ m1 (.BoolOp .And (b :: rest) pos) K) ∧ (d = false → K false m1))) rfl I E fun d m1 G1 H1 z x E1 => ⟨m1, G1, x, E1, z⟩) fun d s1 ⟨H1, I1, m1, G1, x1, E1, z1, z2⟩ => ?_)
  cases d with
  | true => exact z1 rfl wh pins s1 τ H1 G1 Q I1 E1 (k.mono x1)
  | false => exact ⟨H1, I1, k false m1 G1 H1 (z2 rfl) x1 E1⟩
theorem dw_or {K : Bool → Mem → Prop} {rest : List Expr} (h : DT X c σ m a (fun d m1 => (d = false → DW X c σ m1 (.BoolOp .Or (b :: rest) pos) K) ∧ (d = true → K true m1))) : DW X c σ m (.BoolOp .Or (a :: b :: rest) pos) K := fun wh pins s τ H G Q I E k => by
  refine isTrue_or (thn (h _ pins s τ H G (fun d H1 => ∃ m1 G1, Ex G G1 ∧ EnvOk X c σ m1 G1 τ H1 ∧ ((d = false → DW X c σ m1 (.BoolOp .Or (b :: rest) pos) K) ∧ (d = true → K true m1))) rfl I E fun d m1 G1 H1 z x E1 => ⟨m1, G1, x, E1, z⟩) fun d s1 ⟨H1, I1, m1, G1, x1, E1, z1, z2⟩ => ?_)
  cases d with
  | false => exact z1 rfl wh pins s1 τ H1 G1 Q I1 E1 (k.mono x1)
  | true => exact ⟨H1, I1, k true m1 G1 H1 (z2 rfl) x1 E1⟩
/-- .. as values -/
theorem de_bo1 {op : BoolOp} (h : DE X c σ m a K) : DE X c σ m (.BoolOp op [a] pos) K := fun pins s τ H G Q I E k => BoolOp_one (h pins s τ H G Q I E k)
theorem de_and {rest : List Expr} (h : DE X c σ m a (fun r m1 => ∃ d, r = rB d ∧ (d = true → DE X c σ m1 (.BoolOp .And (b :: rest) pos) K) ∧ (d = false → K (rB false) m1))) : DE X c σ m (.BoolOp .And (a :: b :: rest) pos) K :=
  fun pins s τ H G Q I E k => (pe_and (pe_t (c := c)) (pe_t (c := c))).run pins s τ H Q I ⟨σ, m, G, _, E, h, fun r m1 G1 H1 v ⟨d, e, z1, z2⟩ x E1 rv => by
    subst e
    cases rv with | dat rv =>
    cases rv
    refine ⟨d, rfl, ?_⟩
    cases d with
    | true => exact ⟨σ, m1, G1, K, E1, z1 rfl, k.mono x⟩
    | false => exact k _ m1 G1 H1 _ (z2 rfl) x E1 (.dat .bl)⟩
theorem de_or {rest : List Expr} (h : DE X c σ m a (fun r m1 => ∃ d, r = rB d ∧ (d = false → DE X c σ m1 (.BoolOp .Or (b :: rest) pos) K) ∧ (d = true → K (rB true) m1))) : DE X c σ m (.BoolOp .Or (a :: b :: rest) pos) K :=
  fun pins s τ H G Q I E k => (pe_or (pe_t (c := c)) (pe_t (c := c))).run pins s τ H Q I ⟨σ, m, G, _, E, h, fun r m1 G1 H1 v ⟨d, e, z1, z2⟩ x E1 rv => by
    subst e
    cases rv with | dat rv =>
    cases rv
    refine ⟨d, rfl, ?_⟩
    cases d with
    | false => exact ⟨σ, m1, G1, K, E1, z1 rfl, k.mono x⟩
    | true => exact k _ m1 G1 H1 _ (z2 rfl) x E1 (.dat .bl)⟩
theorem de_not (h : DE X c σ m a (fun r m1 => ∃ d, r = rB d ∧ K (rB (!d)) m1)) : DE X c σ m (.UnaryOp .Not a pos) K :=
  fun pins s τ H G Q I E k => (pe_not (pe_t (c := c))).run pins s τ H Q I ⟨σ, m, G, _, E, h, fun r m1 G1 H1 v ⟨d, e, z⟩ x E1 rv => by
    subst e
    cases rv with | dat rv =>
    cases rv
    exact ⟨d, rfl, k _ m1 G1 H1 _ z x E1 (.dat .bl)⟩⟩
theorem de_if {e : Expr} (h : DT X c σ m e (fun d m1 => (d = true → DE X c σ m1 a K) ∧ (d = false → DE X c σ m1 b K))) : DE X c σ m (.IfExp e a b pos) K :=
  fun pins s τ H G Q I E k => wpAny_IfExp (thn (h _ pins s τ H G (fun d H1 => ∃ m1 G1, Ex G G1 ∧ EnvOk X c σ m1 G1 τ H1 ∧ ((d = true → DE X c σ m1 a K) ∧ (d = false → DE X c σ m1 b K))) rfl I E fun d m1 G1 H1 z x E1 => ⟨m1, G1, x, E1, z⟩) fun d s1 ⟨H1, I1, m1, G1, x1, E1, z1, z2⟩ => by
    cases d with
    | true => exact z1 rfl pins s1 τ H1 G1 Q I1 E1 (k.mono x1)
    | false => exact z2 rfl pins s1 τ H1 G1 Q I1 E1 (k.mono x1))
theorem ds_if {e : Expr} {A B : List Stmt} {en : En} (h : DT X c σ m e (fun d m1 => (d = true → DSs X c σ m1 A en) ∧ (d = false → DSs X c σ m1 B en))) : DS X c σ m (.If e A B pos) en := fun F pins s τ H G D I E x f =>
  wpAny_If (thn (h _ pins s τ H G (fun d H1 => ∃ m1 G1, Ex G G1 ∧ EnvOk X c σ m1 G1 τ H1 ∧ ((d = true → DSs X c σ m1 A en) ∧ (d = false → DSs X c σ m1 B en))) rfl I E fun d m1 G1 H1 z y E1 => ⟨m1, G1, y, E1, z⟩) fun d s1 ⟨H1, I1, m1, G1, x1, E1, z1, z2⟩ => by
    cases d with
    | true => exact z1 rfl F pins s1 τ H1 G1 D I1 E1 (x.trans x1) f
    | false => exact z2 rfl F pins s1 τ H1 G1 D I1 E1 (x.trans x1) f)

/-! ### a < b < c -/
theorem de_chain {e : Expr} {op op' : CmpOp} {r r' : R2} (ho : OpR X (compareOp op) r) (ho' : OpR X (compareOp op') r') {i j k : Int} {g g' : Int → Int → Bool} (er : r = L2.rI0 fun i j => .bl (g i j)) (er' : r' = L2.rI0 fun i j => .bl (g' i j))
    (h : DE X c σ m a (fun r1 m1 => r1 = rI i ∧ DE X c σ m1 b (fun r2 m2 => r2 = rI j ∧ (g i j = true → DE X c σ m2 e (fun r3 m3 => r3 = rI k ∧ K (rB (g' j k)) m3)) ∧ (g i j = false → K (rB false) m2))))
    (hm : lastMarks [op, op'] [b, e] = false := by with_unfolding_all rfl) : DE X c σ m (.Compare a [op, op'] [b, e] pos) K := fun pins s τ H G Q I E kk => by
  subst er er'
  refine (pe_chain ho ho' (pe_t (c := c)) (pe_t (c := c)) (pe_t (c := c)) hm).run pins s τ H Q I ?_
  refine ⟨σ, m, G, _, E, h, fun r1 m1 G1 H1 v1 ⟨e1, z1⟩ x1 E1 rv1 => ?_⟩
  refine ⟨σ, m1, G1, _, E1, z1, fun r2 m2 G2 H2 v2 ⟨e2, z2, z3⟩ x2 E2 rv2 => ?_⟩
  subst e1 e2
  cases rv1 with | dat rv1 => cases rv2 with | dat rv2 =>
  cases rv1; cases rv2
  refine ⟨i, j, rfl, rfl, g i j, rfl, ?_⟩
  cases hg : g i j with
  | true =>
    rw [if_pos rfl]
    refine ⟨σ, m2, G2, _, E2, z2 hg, fun r3 m3 G3 H3 v3 ⟨e3, z⟩ x3 E3 rv3 => ?_⟩
    subst e3
    cases rv3 with | dat rv3 =>
    cases rv3
    exact ⟨j, k, rfl, rfl, kk _ m3 G3 H3 _ z ((x1.trans x2).trans x3) E3 (.dat .bl)⟩
  | false =>
    rw [if_neg Bool.false_ne_true]
    exact kk _ m2 G2 H2 _ (z3 hg) (x1.trans x2) E2 (.dat .bl)
end
end D2
/-! ## D2Call -/
namespace D2
open PySem PySem.Spec PyProof.Rows L2

/-! ### what a def promises, over data -/
/-- arguments, the owned objects that it is handed, what is wanted of the answer, of an exception -/
abbrev Sp2 := List R → Mem → (R → Mem → Prop) → (Addr → List (Str × D) → Mem → Prop) → Prop
/-- an exception's own dict -/
def ExcD (K : PySem.W.Frag) (G : Hp) (fs : List (Str × D)) (d : Option Addr) : Prop := (fs = [] ∧ d = none) ∨ ∃ dd vs, d = some dd ∧ G dd = some (.xd vs) ∧ RepF K G fs vs
structure OutOk (K : PySem.W.Frag) (m m' : Mem) (G H G' H' : Hp) : Prop where
  up : Ex G G'
  sub : Ex G' H'
  nd : (m'.map (·.1)).Nodup
  mem : MemOk K m' G' H'
  fr : ∀ a o, H a = some o → (∀ p ∈ m, p.1 ≠ a) → H' a = some o
  th : ∀ p ∈ m, H' p.1 ≠ none
  ok : ∀ p ∈ m', (∃ q ∈ m, q.1 = p.1) ∨ H p.1 = none
  gn : ∀ a o, G' a = some o → G a = some o ∨ (∃ q ∈ m, q.1 = a) ∨ H a = none
def spOf (K : PySem.W.Frag) (S : Sp2) : Sp := fun vs H Q E => ∃ rs m G Kr Ke, S rs m Kr Ke ∧ Ex G H ∧ (m.map (·.1)).Nodup ∧ MemOk K m G H ∧ RelRs K G rs vs ∧
  (∀ r m' G' H' v, Kr r m' → OutOk K m m' G H G' H' → RelR K G' r v → Q v H') ∧
  (∀ C fs m' G' H' d, Ke C fs m' → OutOk K m m' G H G' H' → ExcD K G' fs d → E (.ref C) d H')

/-- the context takes what is wished of exceptions -/
def Wx (X : Cx) (c : Ct) : WX := fun cls d τ H => ∃ σ m G C fs, cls = .ref C ∧ c.ex σ m C fs ∧ EnvOk X c σ m G τ H ∧ ExcD X.K G fs d
def Tk (X : Cx) (c : Ct) : Prop := L2N.Takes X (Wx X c)
theorem tk_none {X : Cx} {c : Ct} (h : ∀ σ m C fs, ¬ c.ex σ m C fs) : Tk X c := fun _ _ ⟨_, _, _, _, _, _, _, _, _, _, _, _, _, _, _, _, ⟨σ, m, _, C, fs, _, w, _⟩⟩ => (h σ m C fs w).elim
/-- the def behind a module's name keeps a promise -/
def CalleeG (P : Program) (w : World) (K : PySem.W.Frag) (mg : Str → Option Value) (base : Heap) (x : Str) (k : Nat) (S : Sp2) : Prop :=
  ∃ f fd ps, mg x = some (.ref f) ∧ PySem.W.keepIn K (.ref f) = true ∧ Binds K fd ps [] ∧ FnOk P w K mg base (L2N.CX P w) k f fd ps (spOf K S)
abbrev Callee (X : Cx) (x : Str) (k : Nat) (S : Sp2) : Prop := CalleeG X.prog X.w X.K X.mg X.base x k S
structure Live (X : Cx) (c : Ct) (k : Nat) : Prop where
  own : PassesOwn (model X.prog X.w) X.A X.env X.xe
  tk : Tk X c
  calm : X.calm = true
  room : Room k X.A

/-! ### parts of the owned objects -/
inductive Split : Mem → Mem → Mem → Prop
  | nil {m} : Split m [] m
  | cons {m a o m1 mf rest} : Has m a o m1 → Split m1 mf rest → Split m ((a, o) :: mf) rest
theorem Has.perm {m m' : Mem} {a : Addr} {o : O} (h : Has m a o m') : m.Perm ((a, o) :: m') := by
  induction h with
  | here => exact .refl _
  | there _ ih => exact (ih.cons _).trans (.swap _ _ _)
theorem Split.perm {m mf rest : Mem} (h : Split m mf rest) : m.Perm (mf ++ rest) := by
  induction h with
  | nil => exact .refl _
  | cons h _ ih => exact h.perm.trans (ih.cons _)
section
variable {X : Cx} {c : Ct} {σ : Sl} {m m1 mf rest m' : Mem} {G G' : Hp} {τ : L2.St} {H H' : Hp}
/-- behind a call -/
theorem EnvOk.after (E : EnvOk X c σ m G τ H) (h : Split m mf rest) (o : OutOk X.K mf m' G H G' H') : EnvOk X c σ (m' ++ rest) G' τ H' := by
  have pm := h.perm
  have inF : ∀ p ∈ mf, p ∈ m := fun p hp => pm.mem_iff.mpr (List.mem_append_left _ hp)
  have inR : ∀ p ∈ rest, p ∈ m := fun p hp => pm.mem_iff.mpr (List.mem_append_right _ hp)
  have nd : ((mf ++ rest).map (·.1)).Nodup := (pm.map _).nodup_iff.mp E.nd
  have apart : ∀ p ∈ mf, ∀ q ∈ rest, p.1 ≠ q.1 := fun p hp q hq e => by
    rw [List.map_append, List.nodup_append] at nd
    exact nd.2.2 p.1 (List.mem_map_of_mem (f := (·.1)) hp) q.1 (List.mem_map_of_mem (f := (·.1)) hq) e
  have keepR : ∀ q ∈ rest, H' q.1 = H q.1 := fun q hq => by
    obtain ⟨_, ho, hh, _⟩ := E.mem q (inR q hq)
    rw [hh]
    exact o.fr q.1 ho hh fun p hp => apart p hp q hq
  refine ⟨E.nm, E.names, E.len, o.sub, ?_, fun p hp => ?_, fun a w ha hm => ?_, fun a ha => ?_, fun p hp => ?_, fun a w ha => ?_, E.g0.trans o.up, E.vis, fun i x r hi => ?_⟩
  · rw [List.map_append, List.nodup_append]
    refine ⟨o.nd, ?_, fun a ha b hb e => ?_⟩
    · rw [List.map_append, List.nodup_append] at nd; exact nd.2.1
    · obtain ⟨p, hp, rfl⟩ := List.mem_map.mp ha
      obtain ⟨q, hq, rfl⟩ := List.mem_map.mp hb
      rcases o.ok p hp with ⟨z, hz, ez⟩ | hn
      · exact apart z hz q hq (ez.trans e)
      · obtain ⟨_, ho, hh, _⟩ := E.mem q (inR q hq)
        rw [e, hh] at hn; cases hn
  · rcases List.mem_append.mp hp with hp | hp
    · exact o.mem p hp
    · obtain ⟨g, ho, hh, ro⟩ := E.mem p (inR p hp)
      refine ⟨?_, ho, by rw [keepR p hp]; exact hh, ro.mono o.up⟩
      cases e : G' p.1 with
      | none => rfl
      | some w =>
        rcases o.gn p.1 w e with z | ⟨q, hq, z⟩ | z
        · rw [g] at z; cases z
        · exact absurd z (apart q hq p hp)
        · rw [hh] at z; cases z
  · have z := E.fr a w ha hm
    refine o.fr a w z fun p hp e => ?_
    rcases E.ok p (inF p hp) with y | y
    · rw [e] at y; exact hm y
    · rw [e, ha] at y; cases y
  · have z := E.th a ha
    by_cases hq : ∃ p ∈ mf, p.1 = a
    · obtain ⟨p, hp, e⟩ := hq
      rw [← e]; exact o.th p hp
    · cases e : H a with
      | none => exact absurd e z
      | some w =>
        rw [o.fr a w e fun p hp e' => hq ⟨p, hp, e'⟩]
        exact fun y => by cases y
  · rcases List.mem_append.mp hp with hp | hp
    · rcases o.ok p hp with ⟨q, hq, e⟩ | hn
      · rw [← e]; exact E.ok q (inF q hq)
      · rcases E.h0 hn with y | y
        · exact .inr y
        · exact .inl y
    · exact E.ok p (inR p hp)
  · rcases o.gn a w ha with z | ⟨q, hq, e⟩ | hn
    · exact E.gn a w z
    · rw [← e]; exact .inr (E.ok q (inF q hq))
    · rcases E.h0 hn with y | y
      · exact .inr (.inr y)
      · exact .inr (.inl y)
  · obtain ⟨v, h1, h2⟩ := E.sl i x r hi
    exact ⟨v, h1, h2.mono o.up⟩
theorem EnvOk.part (E : EnvOk X c σ m G τ H) (h : Split m mf rest) : (mf.map (·.1)).Nodup ∧ MemOk X.K mf G H := by
  have pm := h.perm
  refine ⟨?_, fun p hp => E.mem p (pm.mem_iff.mpr (List.mem_append_left _ hp))⟩
  have nd : ((mf ++ rest).map (·.1)).Nodup := (pm.map _).nodup_iff.mp E.nd
  rw [List.map_append, List.nodup_append] at nd
  exact nd.1
end

/-! ### a call by a module's name -/
section
variable {X : Cx} {c : Ct} {σ : Sl} {m : Mem} {x : Str} {S : Sp2} {k j : Nat} {e : Expr} {es : List Expr} {K : R → Mem → Prop} {p pos : Pos}
theorem callee_sp {mf rest : Mem} {rs : List R} {vs : List V} {G : Hp} {τ : L2.St} {H : Hp} {Q : VK} (E : EnvOk X c σ m G τ H) (hs : Split m mf rest) (rv : RelRs X.K G rs vs) (h : S rs mf (fun r m' => K r (m' ++ rest)) (fun C fs m' => c.ex σ (m' ++ rest) C fs))
    (q : CK X c σ τ G K Q) : spOf X.K S vs H Q (WE (Wx X c) τ) := by
  obtain ⟨h1, h2⟩ := E.part hs
  refine ⟨rs, mf, G, _, _, h, E.sub, h1, h2, rv, fun r m' G' H' v z o rv' => ?_, fun C fs m' G' H' d z o hd => ?_⟩
  · exact q r (m' ++ rest) G' H' v z o.up (E.after hs o) rv'
  · exact ⟨σ, m' ++ rest, G', C, fs, rfl, z, E.after hs o, hd⟩
theorem de_call (cl : Callee X x j S) (L : Live X c k) (hg : Gl X x) (h : DA X c σ m (e :: es) (fun rs m1 => ∃ mf rest, Split m1 mf rest ∧ S rs mf (fun r m' => K r (m' ++ rest)) (fun C fs m' => c.ex σ (m' ++ rest) C fs))) (hjk : j ≤ k := by decide)
    (hdb : (x == ("__debug__" : Str)) = false := by decide) (he : starEach (e :: es) X.env = (false, eval e X.env) :: starEach es X.env := by rfl) (hpl : (backTo pos (starEach es X.env)).any (·.1) = false := by rfl) : DE X c σ m (.Call (.Name x p) (e :: es) [] pos) K := fun pins s τ H G Q I E q => by
  obtain ⟨f, fd, ps, hm, hk, hb, F⟩ := cl
  refine (pe_callS (F.mono hjk) L.room hg hm hk hb (fun τ => L2N.passAt L.tk τ) (pa_t (c := c)) hdb he hpl).run pins s τ H Q I ?_
  exact ⟨σ, m, G, _, E, h, fun rs m1 G1 H1 vs ⟨mf, rest, hs, z⟩ x1 E1 rv => callee_sp E1 hs rv z (q.mono x1)⟩
end

/-! ### a def keeps its promise, by its body -/
section
variable {P : Program} {w : World} {K : PySem.W.Frag} {mg : Str → Option Value} {base : Heap} {x qual : Str} {params : Arguments} {body : List Stmt} {scope : Scope} {dvs : List V} {kws : List (Str × V)} {f : Addr} {fd : FuncData} {N ps : List Str} {k : Nat} {S : Sp2}
/-- what is told of a def's context -/
structure Def (X : Cx) (P : Program) (w : World) (K : PySem.W.Frag) (mg : Str → Option Value) (base : Heap) (N : List Str) (sc : Scope) : Prop where
  prog : X.prog = P
  w : X.w = w
  K : X.K = K
  mg : X.mg = mg
  base : X.base = base
  N : X.N = N
  sc : X.env.scope = sc
  fn : ∀ x, X.fn x = true
  stk : X.stack = X.env :: X.outer
  fra : X.env.frame = some X.env.locals
theorem start_len {N : List Str} {vs : List V} (h : vs.length ≤ N.length) : (L2.start N vs).length = N.length := by
  unfold L2.start
  rw [List.length_append, List.length_map, List.length_replicate]
  omega
def slots (N : List Str) (rs : List R) : Sl := N.zip (rs.map some ++ List.replicate (N.length - rs.length) none)
theorem slots_names {N : List Str} {rs : List R} (h : rs.length ≤ N.length) : (slots N rs).map (·.1) = N := by
  unfold slots
  rw [List.map_fst_zip]
  rw [List.length_append, List.length_map, List.length_replicate]
  omega
theorem fn2 (F : FunD K x qual params body scope dvs kws f fd) (Sc : FnScope N ps scope) (dbg : ∀ x ∈ N, (x == ("__debug__" : Str)) = false ∧ (x == ("__classdict__" : Str)) = false) (len : ∀ rs m Kr Ke, S rs m Kr Ke → rs.length = ps.length)
    (hb : ∀ (X : Cx) (c : Ct) (rs : List R) (m : Mem) (Kr : R → Mem → Prop) (Ke : Addr → List (Str × D) → Mem → Prop), Def X P w K mg base N scope → Live X c k → (∀ σ m' C fs, Ke C fs m' → c.ex σ m' C fs) → S rs m Kr Ke →
      DSs X c (slots N rs) m body { nx := fun _ m' => Kr (.dat .non) m', rt := Kr }) : FnOk P w K mg base (L2N.CX P w) (k + 1) f fd ps (spOf K S) := by
  refine F.ok Sc (fun vs H Q E ⟨rs, m, G, Kr, Ke, h, _, _, _, rv, _⟩ => by rw [← rv.length]; exact len _ _ _ _ h) fun cdv A outer s H vs Q E hr ⟨rs, m, G, Kr, Ke, h, sub, nd, mem, rv, hQ, hE⟩ => ?_
  have hrl : rs.length = ps.length := len _ _ _ _ h
  have hpl : ps.length ≤ N.length := by have := congrArg List.length Sc.pre; rw [List.length_take] at this; omega
  let X : Cx := cxOf (L2N.CX P w) P w K mg base N qual scope f cdv A outer s H E
  let c : Ct := ⟨H, G, m.map (·.1), fun _ m' C fs => Ke C fs m'⟩
  have out : ∀ {σ : Sl} {m' : Mem} {G' : Hp} {τ : L2.St} {H' : Hp}, Ex G G' → EnvOk X c σ m' G' τ H' → OutOk K m m' G H G' H' := fun {σ m' G' τ H'} up E' => by
    refine ⟨up, E'.sub, E'.nd, E'.mem, fun a o ha hn => E'.fr a o ha fun hm => ?_, fun p hp => E'.th p.1 (List.mem_map_of_mem (f := (·.1)) hp), fun p hp => ?_, fun a o ha => ?_⟩
    · obtain ⟨p, hp, e⟩ := List.mem_map.mp hm
      exact hn p hp e
    · rcases E'.ok p hp with z | z
      · obtain ⟨q, hq, e⟩ := List.mem_map.mp z
        exact .inl ⟨q, hq, e⟩
      · exact .inr z
    · rcases E'.gn a o ha with z | z | z
      · exact .inl z
      · obtain ⟨q, hq, e⟩ := List.mem_map.mp z
        exact .inr (.inl ⟨q, hq, e⟩)
      · exact .inr (.inr z)
  have D : Def X P w K mg base N scope := ⟨rfl, rfl, rfl, rfl, rfl, rfl, rfl, fun _ => rfl, rfl, rfl⟩
  have G0 : ∀ {σ : Sl} {m' : Mem} {G' : Hp} {τ : L2.St} {H' : Hp}, EnvOk X c σ m' G' τ H' → True := fun _ => trivial
  have tk : L2N.Takes X (fun cls d _ H' => E cls d H') := L2N.takes_of rfl rfl rfl rfl
  refine ⟨tSs X c body, pss_t, G, slots N rs, m, G, _, ?_, hb X c rs m Kr (fun C fs m' => Ke C fs m') D ⟨passes_of rfl, ?_, rfl, hr⟩ (fun _ _ _ _ z => z) h, Ex.refl G, ?_⟩
  · refine ⟨⟨Sc.nd, dbg⟩, (slots_names (by rw [hrl]; exact hpl)).symm, ?_, sub, nd, mem, fun a o ha _ => ha, fun a ha => ?_, fun p hp => .inl (List.mem_map_of_mem (f := (·.1)) hp), fun a o ha => .inl ha, Ex.refl G, fun p hp hs => ?_, fun i y r hi => ?_⟩
    · rw [start_len (by rw [← rv.length, hrl]; exact hpl)]
      have e := congrArg List.length (slots_names (N := N) (rs := rs) (by rw [hrl]; exact hpl))
      rw [List.length_map] at e
      exact e.symm
    · obtain ⟨p, hp, rfl⟩ := List.mem_map.mp ha
      obtain ⟨_, ho, hh, _⟩ := mem p hp
      rw [hh]; exact fun z => by cases z
    · -- a slot with a value is a parameter
      obtain ⟨i, hi⟩ := List.mem_iff_getElem?.mp hp
      unfold slots at hi
      rw [List.getElem?_zip_eq_some] at hi
      obtain ⟨h1, h2⟩ := hi
      have lt : i < rs.length := by
        by_cases lt : i < rs.length
        · exact lt
        · rw [List.getElem?_append_right (by simpa using Nat.le_of_not_lt lt), List.getElem?_replicate] at h2
          split at h2
          · cases h2' : p.2 with
            | none => rw [h2'] at hs; cases hs
            | some z => rw [h2'] at h2; cases h2
          · cases h2
      have hp1 : p.1 ∈ ps := by
        rw [← Sc.pre]
        exact List.mem_of_getElem? (by rw [List.getElem?_take_of_lt (by rw [← hrl]; exact lt)]; exact h1)
      rcases Sc.par _ hp1 with k | k
      · exact .inl k
      · exact .inr (.inl k)
    · unfold slots at hi
      rw [List.getElem?_zip_eq_some] at hi
      obtain ⟨h1, h2⟩ := hi
      have lt : i < rs.length := by
        by_cases lt : i < rs.length
        · exact lt
        · rw [List.getElem?_append_right (by simpa using Nat.le_of_not_lt lt), List.getElem?_replicate] at h2
          split at h2 <;> cases h2
      rw [List.getElem?_append_left (by simpa using lt), List.getElem?_map] at h2
      have hr' : rs[i]? = some r := by
        cases e : rs[i]? with
        | none => rw [e] at h2; cases h2
        | some z => rw [e] at h2; cases h2; rfl
      obtain ⟨v, hv, rv'⟩ := rv.get hr'
      refine ⟨v, ?_, rv'⟩
      unfold L2.start
      rw [List.getElem?_append_left (by rw [List.length_map, ← rv.length]; exact lt), List.getElem?_map, hv] <;> rfl
  · refine L2N.Takes.imp tk fun cls d τ H' ⟨σ, m', G', C, fs, e, z, E', hd⟩ => ?_
    subst e
    exact hE C fs m' G' H' d z (out E'.g0 E') hd
  · refine ⟨fun σ m' G' τ H' z up E' => hQ _ m' G' H' .non z (out up E') (.dat .non), fun r σ m' G' τ H' v z up E' rv' => hQ r m' G' H' v z (out up E') rv', fun _ _ _ _ _ z => z.elim, fun _ _ _ _ _ z => z.elim⟩
end
end D2
/-! ## D2Bi -/
namespace D2
open PySem PySem.Spec PyProof.Rows L2
section
variable {X : Cx} {c : Ct} {σ : Sl} {m m' m1 : Mem} {x : Str} {k j : Nat} {e o a b : Expr} {es : List Expr} {K : R → Mem → Prop} {p pos apos : Pos} {id T : String} {name : Str}

/-! ### built-in functions, classes -/
def BK (X : Cx) (c : Ct) (σ : Sl) (m : Mem) (r : List V → Hp → VK → Prop) (rs : List R) (K : R → Mem → Prop) : Prop :=
  ∀ (τ : L2.St) (H G : Hp) (vs : List V) (Q : VK), EnvOk X c σ m G τ H → RelRs X.K G rs vs → CK X c σ τ G K Q → r vs H Q
theorem de_callB {r : List V → Hp → VK → Prop} (hc : CallR X (.builtin id) r) (hg : Gl X x) (hm : X.mg x = none) (hv : bootBuiltins x = some (.builtin id)) (h : DA X c σ m (e :: es) (fun rs m1 => BK X c σ m1 r rs K)) (hn : x ≠ "__name__" := by decide) (hdb : (x == ("__debug__" : Str)) = false := by decide)
    (he : starEach (e :: es) X.env = (false, eval e X.env) :: starEach es X.env := by rfl) (hpl : (backTo pos (starEach es X.env)).any (·.1) = false := by rfl) : DE X c σ m (.Call (.Name x p) (e :: es) [] pos) K :=
  de_of (pe_callB hc hg hm hv (pa_t (c := c)) hn hdb he hpl) fun τ H G Q E q => ⟨σ, m, G, _, E, h, fun rs m1 G1 H1 vs z x1 E1 rv => z τ H1 G1 vs Q E1 rv (q.mono x1)⟩
theorem de_callT {r : List V → Hp → VK → Prop} (hc : CallR X (.type T) r) (hg : Gl X x) (hm : X.mg x = none) (hv : bootBuiltins x = some (.type T)) (h : DA X c σ m (e :: es) (fun rs m1 => BK X c σ m1 r rs K)) (hn : x ≠ "__name__" := by decide) (hdb : (x == ("__debug__" : Str)) = false := by decide)
    (he : starEach (e :: es) X.env = (false, eval e X.env) :: starEach es X.env := by rfl) (hpl : (backTo pos (starEach es X.env)).any (·.1) = false := by rfl) : DE X c σ m (.Call (.Name x p) (e :: es) [] pos) K :=
  de_of (pe_callTy hc hg hm hv (pa_t (c := c)) hn hdb he hpl) fun τ H G Q E q => ⟨σ, m, G, _, E, h, fun rs m1 G1 H1 vs z x1 E1 rv => z τ H1 G1 vs Q E1 rv (q.mono x1)⟩
theorem one_of {G : Hp} {r : R} {vs : List V} {Kf : PySem.W.Frag} (h : RelRs Kf G [r] vs) : ∃ v, vs = [v] ∧ RelR Kf G r v := by
  cases h with | cons h t => cases t; exact ⟨_, rfl, h⟩
theorem two_of {G : Hp} {r q : R} {vs : List V} {Kf : PySem.W.Frag} (h : RelRs Kf G [r, q] vs) : ∃ v u, vs = [v, u] ∧ RelR Kf G r v ∧ RelR Kf G q u := by
  cases h with | cons h t => cases t with | cons h' t => cases t; exact ⟨_, _, rfl, h, h'⟩
theorem int_of {G : Hp} {i : Int} {v : V} {Kf : PySem.W.Frag} (h : RelR Kf G (rI i) v) : v = .int i := by
  cases h with | dat h => cases h; rfl
theorem str_of {G : Hp} {s : List Nat} {v : V} {Kf : PySem.W.Frag} (h : RelR Kf G (rS s) v) : v = .str (sOf s) := by
  cases h with | dat h => cases h; rfl
theorem bl_of {G : Hp} {s : Bool} {v : V} {Kf : PySem.W.Frag} (h : RelR Kf G (rB s) v) : v = .bl s := by
  cases h with | dat h => cases h; rfl

/-- a value's length -/
inductive Ln (m : Mem) : R → Nat → Prop
  | str {s} (h : s.length ≤ 10000000) : Ln m (rS s) s.length
  | lst {r rs} (h : VL m r rs) : Ln m r rs.length
  | tup {ds} : Ln m (.dat (.tup ds)) ds.length
abbrev rLen (K : PySem.W.Frag) : List V → Hp → VK → Prop := fun xs H Q => ∃ x n, xs = [x] ∧ LenV K x H n ∧ Q (.int n) H
theorem b_len {r : R} {n : Nat} (h : Ln m r n) (k : K (rI n) m) : BK X c σ m (rLen X.K) [r] K := fun τ H G vs Q E rv q => by
  obtain ⟨v, rfl, r1⟩ := one_of rv
  clear rv
  refine ⟨v, n, rfl, ?_, q.now k E (.dat .int)⟩
  cases h with
  | str h => cases str_of r1; exact ⟨by rw [sOf_len]; exact Nat.le_trans h (by decide), (sOf_len _).symm⟩
  | lst h =>
    obtain ⟨a, vs, rfl, hs, rr⟩ := h.at E r1
    exact .inl ⟨vs, hs, rr.length⟩
  | tup =>
    cases r1 with | dat r1 =>
    cases r1 with | tup hs rr => exact .inr ⟨_, ex_t E.sub hs, rr.length⟩
theorem d_len (hg : Gl X "len") (hm : X.mg "len" = none) (h : DE X c σ m e (fun r m1 => ∃ n, Ln m1 r n ∧ K (rI n) m1)) (hst : starEach [e] X.env = (false, eval e X.env) :: starEach [] X.env := by rfl) : DE X c σ m (.Call (.Name "len" p) [e] [] pos) K :=
  de_callB call_len hg hm boot_len (da_cons (h.imp fun r m1 ⟨n, z, k⟩ => da_nil (b_len z k)) hst) (he := hst)
theorem d_int (hg : Gl X "int") (hm : X.mg "int" = none) (h : DE X c σ m e (fun r m1 => ∃ i, r = rI i ∧ K (rI i) m1)) (hst : starEach [e] X.env = (false, eval e X.env) :: starEach [] X.env := by rfl) : DE X c σ m (.Call (.Name "int" p) [e] [] pos) K :=
  de_callT call_int1 hg hm boot_int (da_cons (h.imp fun r m1 ⟨i, z, k⟩ => da_nil fun τ H G vs Q E rv q => by
    subst z
    obtain ⟨v, rfl, r1⟩ := one_of rv
    cases int_of r1
    exact .inl ⟨i, rfl, q.now k E (.dat .int)⟩) hst) (he := hst)
theorem d_abs (hg : Gl X "abs") (hm : X.mg "abs" = none) (h : DE X c σ m e (fun r m1 => ∃ i, r = rI i ∧ K (rI (if i < 0 then -i else i)) m1)) (hst : starEach [e] X.env = (false, eval e X.env) :: starEach [] X.env := by rfl) : DE X c σ m (.Call (.Name "abs" p) [e] [] pos) K :=
  de_callB call_abs hg hm (by decide +kernel) (da_cons (h.imp fun r m1 ⟨i, z, k⟩ => da_nil fun τ H G vs Q E rv q => by
    subst z
    obtain ⟨v, rfl, r1⟩ := one_of rv
    cases int_of r1
    exact ⟨i, rfl, q.now k E (.dat .int)⟩) hst) (he := hst)

/-! ### methods of built-in types -/
/-- of which built-in type the receiver is -/
inductive TyM (m : Mem) : String → R → Prop
  | str {s} : TyM m "str" (rS s)
  | int {i} : TyM m "int" (rI i)
  | lst {r rs} (h : VL m r rs) : TyM m "list" r
  | dk {a kvs m'} (h : Has m a (.dk kvs) m') : TyM m "dict" (.own a)
theorem TyM.at {τ : L2.St} {H G : Hp} {r : R} {v : V} (h : TyM m T r) (E : EnvOk X c σ m G τ H) (rv : RelR X.K G r v) : tyV X.K T v H := by
  cases h with
  | str => cases str_of rv; rfl
  | int => cases int_of rv; rfl
  | lst h => obtain ⟨a, vs, rfl, hs, rr⟩ := h.at E rv; exact .inl ⟨rfl, vs, hs⟩
  | dk h =>
    cases rv
    obtain ⟨_, ho, hh, ro⟩ := E.mem _ h.mem
    cases ro with | dk ro => exact .inr (.inr (.inl ⟨rfl, .inl ⟨_, hh⟩⟩))
def MK (X : Cx) (c : Ct) (σ : Sl) (m : Mem) (r : V → List V → Hp → VK → Prop) (ro : R) (rs : List R) (K : R → Mem → Prop) : Prop :=
  ∀ (τ : L2.St) (H G : Hp) (v : V) (vs : List V) (Q : VK), EnvOk X c σ m G τ H → RelR X.K G ro v → RelRs X.K G rs vs → CK X c σ τ G K Q → r v vs H Q
theorem de_bm {r : V → List V → Hp → VK → Prop} (pa : PlainAttrs T) (slot : Slot T name id) (hty : typeOf (.builtin id) = pure (.type "method_descriptor")) (hm : MtR X id r)
    (h : DE X c σ m o (fun ro m1 => TyM m1 T ro ∧ DA X c σ m1 (e :: es) (fun rs m2 => MK X c σ m2 r ro rs K))) (hbase : attributeBase o name X.env (eval o X.env) = eval o X.env := by rfl)
    (hfew : ((backTo pos (starEach (e :: es) X.env)).all (fun x => !x.1) && (backToKw pos (keywordEach [] X.env)).all (fun x => x.1.isSome)
      && decide ((e :: es).length + ([] : List Keyword).length + (if ([] : List Keyword).isEmpty then 0 else 1) < 30)) = true := by rfl)
    (hline : (apos.endLine == pos.line) = true := by rfl) (hs : starEach (e :: es) X.env = (false, eval e X.env) :: starEach es X.env := by rfl) (hplain : (backTo pos (starEach es X.env)).any (·.1) = false := by rfl) :
    DE X c σ m (.Call (.Attribute o name apos) (e :: es) [] pos) K :=
  de_of (pe_bm pa slot hty hm (pe_t (c := c)) (pa_t (c := c)) hbase hfew hline hs hplain) fun τ H G Q E q => ⟨σ, m, G, _, E, h, fun ro m1 G1 H1 v ⟨t, d⟩ x1 E1 rv =>
    ⟨t.at E1 rv, σ, m1, G1, _, E1, d, fun rs m2 G2 H2 vs z x2 E2 rvs => z τ H2 G2 v vs Q E2 (rv.mono x2) rvs (q.mono (x1.trans x2))⟩⟩
theorem de_bm0 {r : V → List V → Hp → VK → Prop} (pa : PlainAttrs T) (slot : Slot T name id) (hty : typeOf (.builtin id) = pure (.type "method_descriptor")) (hm : MtR X id r)
    (h : DE X c σ m o (fun ro m1 => TyM m1 T ro ∧ MK X c σ m1 r ro [] K)) (hbase : attributeBase o name X.env (eval o X.env) = eval o X.env := by rfl) (hline : (apos.endLine == pos.line) = true := by rfl) :
    DE X c σ m (.Call (.Attribute o name apos) [] [] pos) K :=
  de_of (pe_bm0 pa slot hty hm (pe_t (c := c)) hbase hline) fun τ H G Q E q => ⟨σ, m, G, _, E, h, fun ro m1 G1 H1 v ⟨t, z⟩ x1 E1 rv => ⟨t.at E1 rv, z τ H1 G1 v [] Q E1 rv .nil (q.mono x1)⟩⟩
theorem k_append {a : Addr} {rs : List R} {r : R} (h : Chg m a (.lst rs) (.lst (rs ++ [r])) m') (hl : rs.length < 1000000) (k : K (.dat .non) m') : MK X c σ m rAppend (.own a) [r] K := fun τ H G v vs Q E ro rv q => by
  cases ro
  obtain ⟨u, rfl, ru⟩ := one_of rv
  obtain ⟨_, ho, hh, rr⟩ := E.mem _ h.mem
  cases rr with | lst rr =>
  exact ⟨a, _, u, rfl, rfl, hh, by rw [← rr.length]; exact Nat.lt_of_lt_of_le hl (by decide), q _ _ G _ _ k (Ex.refl G) (E.chg h (.lst (rr.append (.cons ru .nil)))) (.dat .non)⟩
theorem k_extend {a : Addr} {b : R} {rs qs : List R} (h : Chg m a (.lst rs) (.lst (rs ++ qs)) m') (hb : VU m b qs) (hl : rs.length + qs.length ≤ 1000000) (k : K (.dat .non) m') : MK X c σ m rExtend (.own a) [b] K := fun τ H G v vs Q E ro rv q => by
  cases ro
  obtain ⟨u, rfl, ru⟩ := one_of rv
  obtain ⟨b', us, rfl, hbb, rb⟩ := hb.at E ru
  obtain ⟨_, ho, hh, rr⟩ := E.mem _ h.mem
  cases rr with | lst rr =>
  exact ⟨a, b', _, us, rfl, rfl, hh, hbb, by rw [← rr.length, ← rb.length]; exact Nat.le_trans hl (by decide), q _ _ G _ _ k (Ex.refl G) (E.chg h (.lst (rr.append rb))) (.dat .non)⟩
theorem reps_strs {G : Hp} {Kf : PySem.W.Frag} : ∀ {ss : List (List Nat)} {vs : List V}, RelRs Kf G (ss.map rS) vs → vs = (ss.map sOf).map V.str
  | [], _, .nil => rfl
  | s :: ss, _, .cons h t => by rw [str_of h, reps_strs t]; rfl
theorem lens_sum (ss : List (List Nat)) : ((ss.map sOf).map (·.length)).sum = (ss.map (·.length)).sum := by
  rw [List.map_map]
  refine congrArg List.sum (List.map_congr_left fun s _ => ?_)
  exact sOf_len s
abbrev rJoin (K : PySem.W.Frag) : V → List V → Hp → VK → Prop := fun x xs H Q => ∃ a p, ∃ ys : List Str, x = .str a ∧ xs = [.ref p] ∧ (SqL K H p (ys.map V.str) ∨ SqT K H p (ys.map V.str)) ∧
    (ys.map (·.length)).sum + ys.length * a.length ≤ 16777216 ∧ Q (.str (Txt.join a ys)) H
theorem tl_sOf (l : List Nat) : TL.tl (sOf l) = l := by
  unfold TL.tl
  simp [sOf]
theorem join_flat : ∀ ss : List (List Nat), TL.joinL [] ss = ss.flatten
  | [] => rfl
  | [s] => by simp [TL.joinL]
  | s :: t :: r => by
    show s ++ ([] ++ TL.joinL [] (t :: r)) = _
    rw [List.nil_append, join_flat (t :: r)]; rfl
theorem k_joinE {r : R} {ss : List (List Nat)} (h : VL m r (ss.map rS)) (hl : (ss.map (·.length)).sum ≤ 1000000) (k : K (rS ss.flatten) m) : MK X c σ m (rJoin X.K) (rS []) [r] K := fun τ H G v vs Q E ro rv q => by
  cases str_of ro
  obtain ⟨u, rfl, ru⟩ := one_of rv
  obtain ⟨a, us, rfl, hs, rr⟩ := h.at E ru
  cases reps_strs rr
  refine ⟨_, a, ss.map sOf, rfl, rfl, .inl hs, ?_, ?_⟩
  · rw [lens_sum]
    have e : (sOf []).length = 0 := rfl
    rw [e, Nat.mul_zero]
    exact Nat.le_trans hl (by decide)
  · have e : Txt.join (sOf []) (ss.map sOf) = sOf ss.flatten := by
      have h2 := TL.tl_join (sOf []) (ss.map sOf)
      rw [tl_sOf, List.map_map, show (TL.tl ∘ sOf) = id from funext tl_sOf, List.map_id, join_flat] at h2
      rw [TL.join_eq, ← h2]
    rw [e]
    exact q.now k E (.dat .str)

/-! ### subscripts -/
def IX (X : Cx) (c : Ct) (σ : Sl) (m : Mem) (a b : Expr) (r1 r2 : R) (K : R → Mem → Prop) : Prop :=
  ∀ (pins : List (Addr × Obj)) (s : Shared) (τ : L2.St) (H G : Hp) (v1 v2 : V) (u1 u2 : Value) (Q : VK), Inv X pins τ H s → EnvOk X c σ m G τ H → RelR X.K G r1 v1 → RelR X.K G r2 v2 → RelV v1 u1 → RelV v2 u2 →
    CK X c σ τ G K Q → subscripted b false u1 u2 = operate [u1, u2] (getItem u1 u2) → wpAny (model X.prog X.w) X.A (subscriptTail a b u1 u2) (EP X pins τ Q) X.xe s
theorem de_ix (h : DE X c σ m a (fun r1 m1 => DE X c σ m1 b (fun r2 m2 => IX X c σ m2 a b r1 r2 K))) (hs : PlainIx b := by intro _ _; rfl) : DE X c σ m (.Subscript a b pos) K := fun pins s τ H G Q I E k => by
  refine Subscript_ (two (f := fun v u => subscriptTail a b v u) (h.imp fun r1 m1 z => z.imp fun r2 m2 z => fun pins s τ H G v1 v2 u1 u2 Q I E q1 q2 p1 p2 k => z pins s τ H G v1 v2 u1 u2 Q I E q1 q2 p1 p2 k (hs _ _)) I E k)
theorem ix_of {r : R2} {r1 r2 : R} (h : IxR X r) (g : ∀ τ H G v1 v2 Q, EnvOk X c σ m G τ H → RelR X.K G r1 v1 → RelR X.K G r2 v2 → CK X c σ τ G K Q → r v1 v2 H Q) : IX X c σ m a b r1 r2 K :=
  fun pins s τ H G v1 v2 u1 u2 Q I E q1 q2 p1 p2 k hs => h a b pins s τ H v1 v2 u1 u2 Q I p1 p2 (g τ H G v1 v2 Q E q1 q2 k) hs
theorem at_rel {Kf : PySem.W.Frag} {G : Hp} {rs : List R} {vs : List V} {i : Int} {r : R} (h : RelRs Kf G rs vs) (e : atI rs i = some r) : ∃ v, atI vs i = some v ∧ RelR Kf G r v := by
  unfold atI at e ⊢
  rw [← h.length]
  cases q : ixN rs.length i with
  | none => rw [q] at e; cases e
  | some j =>
    rw [q] at e
    exact h.get e
theorem x_lst {r1 : R} {rs : List R} {i : Int} {r : R} (h : VL m r1 rs) (e : atI rs i = some r) (k : K r m) : IX X c σ m a b r1 (rI i) K := ix_of ix_list fun τ H G v1 v2 Q E q1 q2 q => by
  obtain ⟨p, vs, rfl, hs, rr⟩ := h.at E q1
  cases int_of q2
  obtain ⟨v, hv, rv⟩ := at_rel rr e
  exact ⟨p, vs, i, v, rfl, rfl, hs, hv, q.now k E rv⟩
theorem x_tup {ds : List D} {i : Int} {d : D} (e : atI ds i = some d) (k : K (.dat d) m) : IX X c σ m a b (.dat (.tup ds)) (rI i) K := ix_of ix_tup fun τ H G v1 v2 Q E q1 q2 q => by
  cases int_of q2
  cases q1 with | dat q1 =>
  cases q1 with | tup hs rr =>
  have e' : atI (ds.map R.dat) i = some (.dat d) := by
    unfold atI at e ⊢
    rw [List.length_map]
    cases q : ixN ds.length i with
    | none => rw [q] at e; cases e
    | some j => rw [q] at e; show (ds.map R.dat)[j]? = _; rw [List.getElem?_map, show ds[j]? = some d from e] <;> rfl
  obtain ⟨v, hv, rv⟩ := at_rel rr.rel e'
  exact ⟨_, _, i, v, rfl, rfl, ex_t E.sub hs, hv, q.now k E rv⟩
theorem x_str {s : List Nat} {i : Int} {ch : Nat} (hl : s.length ≤ 1000000) (e : atI s i = some ch) (k : K (rS [ch]) m) : IX X c σ m a b (rS s) (rI i) K := ix_of ix_str fun τ H G v1 v2 Q E q1 q2 q => by
  cases str_of q1
  cases int_of q2
  refine ⟨_, i, ch, rfl, rfl, by rw [sOf_len]; exact Nat.le_trans hl (by decide), by rw [show (sOf s).cps.toList = s from lit_sOf s]; exact e, q.now k E (.dat (Rep.str (s := [ch])))⟩

/-! ### slices -/
def DO (X : Cx) (c : Ct) (σ : Sl) (m : Mem) (e : Option Expr) (K : Option Int → Mem → Prop) : Prop :=
  match e with
  | none => K none m
  | some e => DE X c σ m e (fun r m1 => ∃ i, r = rI i ∧ K (some i) m1)
def tO (X : Cx) (c : Ct) (e : Option Expr) : TO := match e with
  | none => tNoPart
  | some e => tPart (tE X c e)
theorem po_t {e : Option Expr} : PO X e (tO X c e) := by
  cases e with
  | none => exact po_none
  | some e => exact po_some pe_t
theorem do_run {e : Option Expr} {Ko : Option Int → Mem → Prop} {τ : L2.St} {H G : Hp} {Q : Option Int → Hp → Prop} (h : DO X c σ m e Ko) (E : EnvOk X c σ m G τ H) (q : ∀ o m' G' H', Ko o m' → Ex G G' → EnvOk X c σ m' G' τ H' → Q o H') : tO X c e τ H Q := by
  cases e with
  | none => exact q none m G H h (Ex.refl G) E
  | some e => exact ⟨σ, m, G, _, E, h, fun r m1 G1 H1 v ⟨i, ei, z⟩ x E1 rv => by
      subst ei
      cases int_of rv
      exact ⟨i, rfl, q _ m1 G1 H1 z x E1⟩⟩
def SL (X : Cx) (c : Ct) (σ : Sl) (m : Mem) (r : R) (lo hi : Option Int) (K : R → Mem → Prop) : Prop :=
  ∃ rr : V → Option Int → Option Int → Hp → VK → Prop, SlR X rr ∧ ∀ (τ : L2.St) (H G : Hp) (v : V) (Q : VK), EnvOk X c σ m G τ H → RelR X.K G r v → CK X c σ τ G K Q → rr v lo hi H Q
/-- the reading of a slice picks its rule by the receiver: the receiver's kind is told ahead -/
theorem de_slice {lo hi : Option Expr} {p2 : Pos} {rr : V → Option Int → Option Int → Hp → VK → Prop} (hr : SlR X rr)
    (h : DE X c σ m a (fun r m1 => DO X c σ m1 lo (fun l m2 => DO X c σ m2 hi (fun u m3 => ∀ (τ : L2.St) (H G : Hp) (v : V) (Q : VK), EnvOk X c σ m3 G τ H → RelR X.K G r v → CK X c σ τ G K Q → rr v l u H Q)))) :
    DE X c σ m (.Subscript a (.Slice lo hi none p2) pos) K :=
  de_of (pe_slice hr (pe_t (c := c)) (po_t (c := c)) (po_t (c := c))) fun τ H G Q E q => ⟨σ, m, G, _, E, h, fun r m1 G1 H1 v d1 x1 E1 rv =>
    do_run d1 E1 fun l m2 G2 H2 d2 x2 E2 => do_run d2 E2 fun u m3 G3 H3 d3 x3 E3 => d3 τ H3 G3 v Q E3 (rv.mono (x2.trans x3)) (q.mono ((x1.trans x2).trans x3))⟩
/-- any of the three kinds of slices -/
def rSlAny (K : PySem.W.Frag) : V → Option Int → Option Int → Hp → VK → Prop := fun x lo hi H Q => rSlL K x lo hi H Q ∨ rSlS x lo hi H Q
theorem sl_any : SlR X (rSlAny X.K) := SlR.or sl_list sl_str
def cutL {α : Type} (xs : List α) (lo hi : Option Int) : List α := (xs.drop (HT.sIx xs.length 0 lo)).take (HT.sIx xs.length xs.length hi - HT.sIx xs.length 0 lo)
theorem cut_rel {Kf : PySem.W.Frag} {G : Hp} {rs : List R} {vs : List V} {lo hi : Option Int} (h : RelRs Kf G rs vs) : RelRs Kf G (cutL rs lo hi) (cutV vs lo hi) := by
  unfold cutL cutV
  rw [h.length]
  exact (h.drop _).take _
/-- what a slice of a value is -/
def SlK (X : Cx) (c : Ct) (σ : Sl) (m : Mem) (r : R) (lo hi : Option Int) (K : R → Mem → Prop) : Prop := ∀ (τ : L2.St) (H G : Hp) (v : V) (Q : VK), EnvOk X c σ m G τ H → RelR X.K G r v → CK X c σ τ G K Q → rSlAny X.K v lo hi H Q
theorem d_slice {lo hi : Option Expr} {p2 : Pos} (h : DE X c σ m a (fun r m1 => DO X c σ m1 lo (fun l m2 => DO X c σ m2 hi (fun u m3 => SlK X c σ m3 r l u K)))) : DE X c σ m (.Subscript a (.Slice lo hi none p2) pos) K := de_slice sl_any h
theorem s_lst {r : R} {rs : List R} {lo hi : Option Int} (h : VL m r rs) (k : ∀ p, K (.own p) ((p, .lst (cutL rs lo hi)) :: m)) : SlK X c σ m r lo hi K := fun τ H G v Q E rv q => by
  obtain ⟨a, vs, rfl, hs, rr⟩ := h.at E rv
  exact .inl ⟨a, vs, rfl, hs, fun p hp => q _ _ G _ _ (k p) (Ex.refl G) (E.new hp (.lst (cut_rel rr))) .own⟩
theorem s_str {s : List Nat} {lo hi : Option Int} (hl : s.length ≤ 1000000) (k : K (rS (cutL s lo hi)) m) : SlK X c σ m (rS s) lo hi K := fun τ H G v Q E rv q => by
  cases str_of rv
  refine .inr ⟨_, rfl, by rw [sOf_len]; exact Nat.le_trans hl (by decide), ?_⟩
  have e : cutS (sOf s) lo hi = sOf (cutL s lo hi) := by
    unfold cutS cutL
    rw [sOf_len, show (sOf s).cps.toList = s from lit_sOf s]
  rw [e]
  exact q.now k E (.dat .str)

/-! ### displays -/
theorem de_lst (h : DA X c σ m es (fun rs m1 => rs.length ≤ 1000000 ∧ ∀ p, K (.own p) ((p, .lst rs) :: m1))) : DE X c σ m (.List es pos) K :=
  de_of (pe_lst (pa_t (c := c))) fun τ H G Q E q => ⟨σ, m, G, _, E, h, fun rs m1 G1 H1 vs ⟨hl, z⟩ x1 E1 rv =>
    ⟨by rw [← rv.length]; exact Nat.le_trans hl (by decide), fun p hp => q _ _ G1 _ _ (z p) x1 (E1.new hp (.lst rv)) .own⟩⟩
theorem de_tup {x1 : Nat} (h : DA X c σ m es (fun rs m1 => rs.length ≤ 1000000 ∧ ∃ ds m2, Frzs m1 rs ds m2 ∧ K (.dat (.tup ds)) m2)) : DE X c σ m (.Tuple es x1 pos) K :=
  de_of (pe_tup (pa_t (c := c))) fun τ H G Q E q => ⟨σ, m, G, _, E, h, fun rs m1 G1 H1 vs ⟨hl, ds, m2, f, z⟩ x1 E1 rv => by
    refine ⟨by rw [← rv.length]; exact Nat.le_trans hl (by decide), fun p hp => ?_⟩
    obtain ⟨G2, x2, E2, r2⟩ := f.env E1 rv
    have g2 : G2 p = none := E2.sub.back hp
    exact q _ m2 (upd G2 p (.tup vs)) _ _ z ((x1.trans x2).trans (Ex.new g2)) (E2.newG hp) (.dat (.tup (.inl (.inl upd_same)) (r2.mono (Ex.new g2))))⟩
/-! ### a value frozen on the way -/
theorem de_frz (h : DE X c σ m e (fun r m1 => ∃ d m2, Frz m1 r d m2 ∧ K (.dat d) m2)) : DE X c σ m e K := fun pins s τ H G Q I E q =>
  h pins s τ H G Q I E fun r m1 G1 H1 v ⟨d, m2, f, z⟩ x1 E1 rv => by
    obtain ⟨G2, x2, E2, r2⟩ := f.env E1 rv
    exact q _ m2 G2 H1 v z (x1.trans x2) E2 (.dat r2)
/-- owned objects let go -/
theorem de_drop (h : DE X c σ m e (fun r m1 => ∃ m2, (∀ q ∈ m2, q ∈ m1) ∧ (m2.map (·.1)).Nodup ∧ K r m2)) : DE X c σ m e K := fun pins s τ H G Q I E q =>
  h pins s τ H G Q I E fun r m1 G1 H1 v ⟨m2, hs, nd, z⟩ x1 E1 rv => q r m2 G1 H1 v z x1 (E1.drop hs nd) rv
theorem de_sub (h : DE X c σ m e (fun r m1 => ∃ m2, m2.Sublist m1 ∧ K r m2)) : DE X c σ m e K := fun pins s τ H G Q I E q =>
  h pins s τ H G Q I E fun r m1 G1 H1 v ⟨m2, hs, z⟩ x1 E1 rv => q r m2 G1 H1 v z x1 (E1.drop (fun p hp => hs.subset hp) ((hs.map _).nodup E1.nd)) rv

/-! ### a store into a list -/
theorem ds_setL {en : En} {px : Pos} (h : DE X c σ m e (fun rv m1 => DE X c σ m1 a (fun ro m2 => DE X c σ m2 b (fun ri m3 => ∃ q rs i j m4, ro = .own q ∧ ri = rI i ∧ Chg m3 q (.lst rs) (.lst (rs.set j rv)) m4 ∧ ixN rs.length i = some j ∧ en.nx σ m4))))
    (hs : swapsWithSole [.Subscript a b px] e pos.line X.env = pure false := by rfl) (hw : swappedStores [.Subscript a b px] e X.env = pure none := by rfl) (h1 : (assignEach [.Subscript a b px] X.env).map (·.2) = [assign (.Subscript a b px) X.env] := by rfl)
    (ha : ∀ v, assign (.Subscript a b px) X.env v = (do
      let ov ← holding [v] (eval a X.env)
      let iv ← holding [v, ov] (eval b X.env)
      standAt px
      holding [v, ov, iv] (setItem ov iv v)
      release [v, ov, iv] []) := by intro _; rfl) :
    DS X c σ m (.Assign [.Subscript a b px] e pos) en := fun F pins s τ H G D I E fx ft => by
  refine (ps_asg (pe_t (c := c)) (pg_sub (pe_t (c := c)) (pe_t (c := c)) set_list ha) hs hw h1).run pins s τ H D I ?_
  refine ⟨σ, m, G, _, E, h, fun rv m1 G1 H1 v d1 x1 E1 r1 => ?_⟩
  refine ⟨σ, m1, G1, _, E1, d1, fun ro m2 G2 H2 vo d2 x2 E2 r2 => ?_⟩
  refine ⟨σ, m2, G2, _, E2, d2, fun ri m3 G3 H3 vi ⟨q, rs, i, j, m4, e1, e2, hc, hj, z⟩ x3 E3 r3 => ?_⟩
  subst e1 e2
  have r2' := r2.mono x3
  cases r2'
  cases int_of r3
  obtain ⟨_, ho, hh, rr⟩ := E3.mem _ hc.mem
  cases rr with | lst rr =>
  refine ⟨q, _, i, j, rfl, rfl, hh, by rw [← rr.length]; exact hj, ?_⟩
  exact ft.nx σ m4 G3 τ _ z (((fx.trans x1).trans x2).trans x3) (E3.chg hc (.lst (rr.set j (r1.mono (x2.trans x3)))))
end
end D2
/-! ## D2Loop -/
namespace D2
open PySem PySem.Spec PyProof.Rows L2

/-! ### the frame: what a part of the owned objects does not hold stays -/
section
variable {X : Cx} {c c' : Ct} {σ : Sl} {m m' mf rest : Mem} {G G' : Hp} {τ τ' : L2.St} {H H' : Hp}
/-- the context of a part -/
def ctSub (c : Ct) (H G : Hp) (mf : Mem) (ex : Sl → Mem → Addr → List (Str × D) → Prop) : Ct := ⟨H, G, mf.map (·.1), ex⟩
theorem EnvOk.into (E : EnvOk X c σ m G τ H) (h : Split m mf rest) {ex : Sl → Mem → Addr → List (Str × D) → Prop} : EnvOk X (ctSub c H G mf ex) σ mf G τ H := by
  obtain ⟨h1, h2⟩ := E.part h
  refine ⟨E.nm, E.names, E.len, E.sub, h1, h2, fun a o ha _ => ha, fun a ha => ?_, fun p hp => .inl (List.mem_map_of_mem (f := (·.1)) hp), fun a o ha => .inl ha, Ex.refl G, E.vis, E.sl⟩
  obtain ⟨p, hp, rfl⟩ := List.mem_map.mp ha
  obtain ⟨_, ho, hh, _⟩ := h2 p hp
  rw [hh]; exact fun z => by cases z
theorem EnvOk.outK {ex : Sl → Mem → Addr → List (Str × D) → Prop} {σ' : Sl} {X' : Cx} (E' : EnvOk X' (ctSub c H G mf ex) σ' m' G' τ' H') : OutOk X'.K mf m' G H G' H' := by
  refine ⟨E'.g0, E'.sub, E'.nd, E'.mem, fun a o ha hn => E'.fr a o ha fun hm => ?_, fun p hp => E'.th p.1 (List.mem_map_of_mem (f := (·.1)) hp), fun p hp => ?_, fun a o ha => ?_⟩
  · obtain ⟨p, hp, e⟩ := List.mem_map.mp hm
    exact hn p hp e
  · rcases E'.ok p hp with z | z
    · obtain ⟨q, hq, e⟩ := List.mem_map.mp z
      exact .inl ⟨q, hq, e⟩
    · exact .inr z
  · rcases E'.gn a o ha with z | z | z
    · exact .inl z
    · obtain ⟨q, hq, e⟩ := List.mem_map.mp z
      exact .inr (.inl ⟨q, hq, e⟩)
    · exact .inr (.inr z)
/-- back from the part, the slots as they are behind it -/
theorem EnvOk.back {ex : Sl → Mem → Addr → List (Str × D) → Prop} {σ' : Sl} (E : EnvOk X c σ m G τ H) (h : Split m mf rest) (E' : EnvOk X (ctSub c H G mf ex) σ' m' G' τ' H') : EnvOk X c σ' (m' ++ rest) G' τ' H' := by
  have A := E.after h E'.outK
  exact ⟨E'.nm, E'.names, E'.len, A.sub, A.nd, A.mem, A.fr, A.th, A.ok, A.gn, A.g0, E'.vis, E'.sl⟩
theorem split_app (mf rest : Mem) : Split (mf ++ rest) mf rest := by
  induction mf with
  | nil => exact .nil
  | cons p mf ih => exact .cons (a := p.1) (o := p.2) .here ih
end

/-! ### what a for walks -/
/-- the walked items are these data -/
def Walks (K : PySem.W.Frag) (J : It) (ds : List D) (G : Hp) : Prop := ∀ i H, Ex G H →
  (∀ d, ds[i]? = some d → J.go i H ∧ ∀ x H', J.yld i H x H' → (H' = H ∧ Rep K G d x) ∨ ∃ p ho, H p = none ∧ H' = L2.upd H p ho ∧ Rep K (L2.upd G p ho) d x) ∧ (ds.length ≤ i → J.stop i H)
def DIt (X : Cx) (c : Ct) (σ : Sl) (m : Mem) (tg iter : Expr) (K : List D → Mem → Prop) : Prop :=
  ∃ wi : TI, PI X tg iter wi ∧ ∀ (τ : L2.St) (H G : Hp) (R' : It → Hp → Prop), EnvOk X c σ m G τ H →
    (∀ ds m' G' H' J, K ds m' → Ex G G' → EnvOk X c σ m' G' τ H' → Walks X.K J ds G' → R' J H') → wi τ H R'
section
variable {X : Cx} {c : Ct} {σ : Sl} {m m' : Mem} {x : Str} {k j : Nat} {e o a b tg iter : Expr} {es : List Expr} {p pos : Pos} {K : List D → Mem → Prop}
theorem walks_list {Kf : PySem.W.Frag} {G : Hp} {q : Addr} {vs : List V} {ds : List D} (hs : SqL Kf G q vs) (r : Reps Kf G ds vs) (inj : ∀ H, Ex G H → ∀ ys, SqL Kf H q ys → True) : Walks Kf (Itl Kf q) ds G := fun i H ex => by
  have hs' := ex_l ex hs
  refine ⟨fun d hd => ?_, fun hl => ⟨vs, hs', by rw [← r.length]; exact hl⟩⟩
  obtain ⟨u, hu, ru⟩ := r.rel.get (show (ds.map R.dat)[i]? = some (.dat d) by rw [List.getElem?_map, hd]; rfl)
  refine ⟨⟨vs, u, hs', hu⟩, fun x H' ⟨e, y⟩ => .inl ⟨e, ?_⟩⟩
  have z := y vs hs'
  rw [hu] at z; cases z
  cases ru with | dat ru => exact ru
theorem it_list (h : DE X c σ m iter (fun r m1 => ∃ ds m2, Frz m1 r (.lst ds) m2 ∧ K ds m2)) : DIt X c σ m tg iter K := by
  refine ⟨_, pi_list (pe_t (c := c)), fun τ H G R' E q => ⟨σ, m, G, _, E, h, fun r m1 G1 H1 v ⟨ds, m2, f, z⟩ x1 E1 rv => ?_⟩⟩
  obtain ⟨G2, x2, E2, r2⟩ := f.env E1 rv
  cases r2 with | lst hs rr =>
  exact ⟨_, rfl, ⟨_, ex_l E2.sub hs⟩, q ds m2 G2 H1 _ z (x1.trans x2) E2 (walks_list hs rr fun _ _ _ _ => trivial)⟩
theorem it_tup (h : DE X c σ m iter (fun r m1 => ∃ ds, r = .dat (.tup ds) ∧ K ds m1)) : DIt X c σ m tg iter K := by
  refine ⟨_, pi_tup (pe_t (c := c)), fun τ H G R' E q => ⟨σ, m, G, _, E, h, fun r m1 G1 H1 v ⟨ds, er, z⟩ x1 E1 rv => ?_⟩⟩
  subst er
  cases rv with | dat rv =>
  cases rv with | tup hs rr =>
  refine ⟨_, rfl, ⟨_, ex_t E1.sub hs⟩, q ds m1 G1 H1 _ z x1 E1 fun i H2 ex => ?_⟩
  have hs' := ex_t ex hs
  refine ⟨fun d hd => ?_, fun hl => ⟨_, hs', by rw [← rr.length]; exact hl⟩⟩
  obtain ⟨u, hu, ru⟩ := rr.rel.get (show (ds.map R.dat)[i]? = some (.dat d) by rw [List.getElem?_map, hd]; rfl)
  refine ⟨⟨_, u, hs', hu⟩, fun x H' ⟨e, y⟩ => .inl ⟨e, ?_⟩⟩
  have z := y _ hs'
  rw [hu] at z; cases z
  cases ru with | dat ru => exact ru
theorem it_str (h : DE X c σ m iter (fun r m1 => ∃ s, r = rS s ∧ K (s.map fun ch => .str [ch]) m1)) : DIt X c σ m tg iter K := by
  refine ⟨_, pi_str (pe_t (c := c)), fun τ H G R' E q => ⟨σ, m, G, _, E, h, fun r m1 G1 H1 v ⟨s, er, z⟩ x1 E1 rv => ?_⟩⟩
  subst er
  cases str_of rv
  refine ⟨_, rfl, q _ m1 G1 H1 _ z x1 E1 fun i H2 ex => ⟨fun d hd => ?_, fun hl => ?_⟩⟩
  · rw [List.getElem?_map] at hd
    cases e : s[i]? with
    | none => rw [e] at hd; cases hd
    | some ch =>
      rw [e] at hd
      cases hd
      have hi : i < s.length := (List.getElem?_eq_some_iff.mp e).1
      refine ⟨by show i < (sOf s).cps.size; simpa [sOf] using hi, fun x H' ⟨eH, c', hc, ex'⟩ => .inl ⟨eH, ?_⟩⟩
      have hc' : s[i]? = some c' := by simpa [sOf] using hc
      rw [e] at hc'; cases hc'
      rw [ex']
      exact Rep.str (s := [ch])
  · show (sOf s).cps.size ≤ i
    simpa [sOf] using hl
def ups (lo : Int) (n : Nat) : List D := (List.range n).map fun (i : Nat) => D.int (lo + (i : Int))
theorem ups_at {lo : Int} {n i : Nat} {d : D} (h : (ups lo n)[i]? = some d) : i < n ∧ d = .int (lo + i) := by
  unfold ups at h
  rw [List.getElem?_map] at h
  by_cases hi : i < n
  · rw [List.getElem?_range hi] at h
    cases h
    exact ⟨hi, rfl⟩
  · rw [List.getElem?_eq_none (by simpa using Nat.le_of_not_lt hi)] at h
    cases h
theorem ups_len (lo : Int) (n : Nat) : (ups lo n).length = n := by simp [ups]
theorem walks_rng {Kf : PySem.W.Frag} {G : Hp} {lo : Int} {n : Nat} : Walks Kf (Itr lo n) (ups lo n) G := fun i H ex =>
  ⟨fun d hd => by
    obtain ⟨hi, ed⟩ := ups_at hd
    subst ed
    exact ⟨hi, fun x H' ⟨e, y⟩ => .inl ⟨e, by rw [y]; exact .int⟩⟩, fun hl => by rw [ups_len] at hl; exact hl⟩
theorem it_rng1 (hg : Gl X "range") (hm : X.mg "range" = none) (h : DE X c σ m a (fun r m1 => ∃ n, r = rI n ∧ -(2 ^ 62) ≤ n ∧ n < 2 ^ 62 ∧ K (ups 0 n.toNat) m1)) (hs : starEach [a] X.env = [(false, eval a X.env)] := by rfl) :
    DIt X c σ m tg (.Call (.Name "range" p) [a] [] pos) K := by
  refine ⟨_, pi_range1 hg hm (pa_t (c := c)) hs, fun τ H G R' E q => ⟨σ, m, G, fun rs m1 => ∃ n, rs = [rI n] ∧ -(2 ^ 62) ≤ n ∧ n < 2 ^ 62 ∧ K (ups 0 n.toNat) m1, E, ?_, ?_⟩⟩
  · exact da_cons (h.imp fun r m1 ⟨n, e, z⟩ => da_nil ⟨n, by rw [e], z⟩) hs
  · intro rs m1 G1 H1 vs ⟨n, e, l1, l2, z⟩ x1 E1 rv
    subst e
    obtain ⟨v, rfl, r1⟩ := one_of rv
    cases int_of r1
    exact ⟨n, rfl, l1, l2, q _ m1 G1 H1 _ z x1 E1 walks_rng⟩
theorem it_rng2 (hg : Gl X "range") (hm : X.mg "range" = none) (h : DE X c σ m a (fun r m1 => ∃ i, r = rI i ∧ DE X c σ m1 b (fun r2 m2 => ∃ n, r2 = rI n ∧ (-(2 ^ 62) ≤ i ∧ i < 2 ^ 62 ∧ -(2 ^ 62) ≤ n ∧ n < 2 ^ 62) ∧ K (ups i (n - i).toNat) m2)))
    (hs : starEach [a, b] X.env = [(false, eval a X.env), (false, eval b X.env)] := by rfl) (hs0 : starEach [a, b] X.env = (false, eval a X.env) :: starEach [b] X.env := by rfl) (hs2 : starEach [b] X.env = (false, eval b X.env) :: starEach [] X.env := by rfl) (hpl : (backTo pos (starEach [b] X.env)).any (·.1) = false := by rfl) : DIt X c σ m tg (.Call (.Name "range" p) [a, b] [] pos) K := by
  refine ⟨_, pi_range2 hg hm (pa_t (c := c)) hs hs2, fun τ H G R' E q => ⟨σ, m, G, fun rs m1 => ∃ i n, rs = [rI i, rI n] ∧ (-(2 ^ 62) ≤ i ∧ i < 2 ^ 62 ∧ -(2 ^ 62) ≤ n ∧ n < 2 ^ 62) ∧ K (ups i (n - i).toNat) m1, E, ?_, ?_⟩⟩
  · exact da_cons (h.imp fun r m1 ⟨i, e, z⟩ => da_cons (z.imp fun r2 m2 ⟨n, e2, z2⟩ => da_nil ⟨i, n, by rw [e, e2], z2⟩) hs2) hs0
  · intro rs m1 G1 H1 vs ⟨i, n, e, l1, z⟩ x1 E1 rv
    subst e
    obtain ⟨v, u, rfl, r1, r2⟩ := two_of rv
    cases int_of r1
    cases int_of r2
    exact ⟨i, n, rfl, l1, q _ m1 G1 H1 _ z x1 E1 walks_rng⟩
def dns (lo c : Int) (n : Nat) : List D := (List.range n).map fun (i : Nat) => D.int (lo + (i : Int) * c)
theorem it_rng3 {l u cc : Expr} (hg : Gl X "range") (hm : X.mg "range" = none) (h : DA X c σ m [l, u, cc] (fun rs m1 => ∃ (i j s : Int) (n : Nat), rs = [rI i, rI j, rI s] ∧ RgC i j s n ∧ K (dns i s n) m1))
    (hs : starEach [l, u, cc] X.env = (false, eval l X.env) :: starEach [u, cc] X.env := by rfl) (hpl : (backTo pos (starEach [u, cc] X.env)).any (·.1) = false := by rfl) : DIt X c σ m tg (.Call (.Name "range" p) [l, u, cc] [] pos) K := by
  refine ⟨_, pi_range3 hg hm (pa_t (c := c)) hs hpl, fun τ H G R' E q => ⟨σ, m, G, _, E, h, ?_⟩⟩
  intro rs m1 G1 H1 vs ⟨i, j, s, n, e, l1, z⟩ x1 E1 rv
  subst e
  cases rv with | cons r1 rv => cases rv with | cons r2 rv => cases rv with | cons r3 rv =>
  cases rv
  cases int_of r1
  cases int_of r2
  cases int_of r3
  refine ⟨i, j, s, n, rfl, l1, q _ m1 G1 H1 _ z x1 E1 fun t H2 ex => ⟨fun d hd => ?_, fun hl => ?_⟩⟩
  · unfold dns at hd
    rw [List.getElem?_map] at hd
    by_cases ht : t < n
    · rw [List.getElem?_range ht] at hd
      cases hd
      exact ⟨ht, fun x H' ⟨e, y⟩ => .inl ⟨e, by rw [y]; exact .int⟩⟩
    · rw [List.getElem?_eq_none (by simpa using Nat.le_of_not_lt ht)] at hd
      cases hd
  · show n ≤ t
    simpa [dns] using hl

end

/-! ### targets -/
section
variable {X : Cx} {c : Ct} {σ : Sl} {m m' : Mem} {x : Str} {px pos : Pos} {r : R} {rs : List R} {K : Sl → Mem → Prop} {t : Expr} {ts : List Expr}
/-- what follows a store -/
def CG (X : Cx) (c : Ct) (G : Hp) (K : Sl → Mem → Prop) (Q : L2.St → Hp → Prop) : Prop := ∀ σ' m' G' τ' H', K σ' m' → Ex G G' → EnvOk X c σ' m' G' τ' H' → Q τ' H'
def gT (X : Cx) (t : Expr) : TG := fun v τ H Q => ∀ (pins : List (Addr × Obj)) (s : Shared) (u : Value), Inv X pins τ H s → RelV v u → wpAny (model X.prog X.w) X.A (assign t X.env u) (fun _ s' => ∃ τ' H', Inv X pins τ' H' s' ∧ Q τ' H') X.xe s
theorem pg_t : PG X t (gT X t) := ⟨fun pins s τ H v u Q I r h => h pins s u I r⟩
def gTs (X : Cx) (ts : List Expr) : TGs := fun vs τ H Q => ∀ (pins : List (Addr × Obj)) (s : Shared) (us : List Value), Inv X pins τ H s → Vals vs us → wpAny (model X.prog X.w) X.A (assignInOrder ((assignEach ts X.env).map (·.2)) us) (fun _ s' => ∃ τ' H', Inv X pins τ' H' s' ∧ Q τ' H') X.xe s
theorem pgs_t : PGs X ts (gTs X ts) := ⟨fun pins s τ H v u Q I r h => h pins s u I r⟩
def DG (X : Cx) (c : Ct) (σ : Sl) (m : Mem) (t : Expr) (r : R) (K : Sl → Mem → Prop) : Prop := ∀ (v : V) (τ : L2.St) (H G : Hp) (Q : L2.St → Hp → Prop), EnvOk X c σ m G τ H → RelR X.K G r v → CG X c G K Q → gT X t v τ H Q
def DGs (X : Cx) (c : Ct) (σ : Sl) (m : Mem) (ts : List Expr) (rs : List R) (K : Sl → Mem → Prop) : Prop := ∀ (vs : List V) (τ : L2.St) (H G : Hp) (Q : L2.St → Hp → Prop), EnvOk X c σ m G τ H → RelRs X.K G rs vs → CG X c G K Q → gTs X ts vs τ H Q
theorem dg_name {f : R → Sl} (hx : Own X x) (hp : PutF σ x f) (k : K (f r) m) : DG X c σ m (.Name x px) r K := fun v τ H G Q E rv q pins s u I r' => by
  have hm : x ∈ X.N := by rw [E.names]; exact hp.at
  obtain ⟨i, hi⟩ := List.mem_iff_getElem?.mp hm
  obtain ⟨j, hj, E2⟩ := E.put (hp.put r) (hx.1.elim .inl fun z => .inr (.inl z)) rv
  have ij : i = j := nodup_ix E.nm.nd hi hj
  subst ij
  exact (pg_name (i := i) E.nm.nd hi hx.1 hx.2).run pins s τ H v u Q I r' (q _ m G _ H k (Ex.refl G) E2)
theorem dgs_nil (k : K σ m) : DGs X c σ m [] [] K := fun vs τ H G Q E rv q pins s us I r' => by
  cases rv
  exact pgs_nil.run pins s τ H [] us Q I r' ⟨rfl, q σ m G τ H k (Ex.refl G) E⟩
theorem dgs_cons (h : DG X c σ m t r (fun σ1 m1 => DGs X c σ1 m1 ts rs K)) (hs : (assignEach (t :: ts) X.env).map (·.2) = assign t X.env :: (assignEach ts X.env).map (·.2) := by rfl) : DGs X c σ m (t :: ts) (r :: rs) K := fun vs τ H G Q E rv q pins s us I r' => by
  cases rv with | cons rv rvs =>
  refine (pgs_cons (X := X) (e := t) (es := ts) pg_t pgs_t hs).run pins s τ H _ us Q I r' ⟨_, _, rfl, ?_⟩
  exact h _ τ H G _ E rv fun σ1 m1 G1 τ1 H1 z x1 E1 => z _ τ1 H1 G1 Q E1 (rvs.mono x1) fun σ2 m2 G2 τ2 H2 z2 x2 E2 => q σ2 m2 G2 τ2 H2 z2 (x1.trans x2) E2
theorem dg_tup {ds : List D} {kk n : Nat} (hc : X.calm = true) (hl : ds.length = n) (h : DGs X c σ m ts (ds.map .dat) K) (hn : (assignEach ts X.env).length = n := by rfl) (hst : (assignEach ts X.env).findIdx? (·.1) = none := by rfl) : DG X c σ m (.Tuple ts kk pos) (.dat (.tup ds)) K := fun v τ H G Q E rv q pins s u I r' => by
  cases rv with | dat rv =>
  cases rv with | tup hs rr =>
  exact (pg_tup (X := X) (es := ts) hc pgs_t hn hst).run pins s τ H _ u Q I r' ⟨_, _, rfl, ex_t E.sub hs, by rw [← rr.length]; exact hl, h _ τ H G Q E rr.rel q⟩
end

/-! ### loops -/
section
variable {X : Cx} {c : Ct} {σ : Sl} {m : Mem} {k : Nat} {tg iter : Expr} {body : List Stmt} {pos : Pos} {en : En} {e : Expr}
theorem ds_for {ds : List D} (I : Nat → Sl → Mem → Prop) (L : Live X c k) (hit : DIt X c σ m tg iter (fun ds' m1 => ds' = ds ∧ I 0 σ m1))
    (hturn : ∀ i d σ' m', ds[i]? = some d → I i σ' m' → DG X c σ' m' tg (.dat d) (fun σ2 m2 => DSs X c σ2 m2 body { nx := I (i + 1), ct := I (i + 1), bk := en.nx, rt := en.rt }))
    (hend : ∀ σ' m', I ds.length σ' m' → en.nx σ' m') (hs : ∀ x, foldedSetIterable iter X.env x = pure x := by intro _; rfl) : DS X c σ m (.For tg iter body [] pos) en := fun F pins s τ H G D Iv E fx ft => by
  obtain ⟨wi, hpi, hw⟩ := hit
  refine (ps_for L.own L.calm hpi pg_t (pss_t (c := c)) hs).run pins s τ H D Iv (hw τ H G _ E fun ds' m1 G1 H1 J ⟨ed, z⟩ x1 E1 wk => ?_)
  subst ed
  refine ⟨fun i n τ' H' => n = ds'.length - i ∧ i ≤ ds'.length ∧ ∃ σ' m' G', I i σ' m' ∧ EnvOk X c σ' m' G' τ' H' ∧ Ex G1 G', ⟨_, rfl, Nat.zero_le _, σ, m1, G1, z, E1, Ex.refl G1⟩, ?_⟩
  rintro i n τ' H' ⟨rfl, hi, σ', m', G', hI, E', x'⟩
  obtain ⟨w1, w2⟩ := wk i H' (x'.trans E'.sub)
  by_cases hlt : i < ds'.length
  · obtain ⟨go, yl⟩ := w1 ds'[i] (List.getElem?_eq_getElem hlt)
    refine .inr ⟨go, fun τ2 H2 => ∃ σ2 m2 G2, I (i + 1) σ2 m2 ∧ EnvOk X c σ2 m2 G2 τ2 H2 ∧ Ex G1 G2, fun τ2 H2 ⟨σ2, m2, G2, h1, h2, h3⟩ => ⟨ds'.length - (i + 1), by omega, rfl, hlt, σ2, m2, G2, h1, h2, h3⟩, fun x H2 hy => ?_⟩
    have T := hturn i ds'[i] σ' m' (List.getElem?_eq_getElem hlt) hI
    have go2 : ∀ G3 H3, Ex G' G3 → EnvOk X c σ' m' G3 τ' H3 → RelR X.K G3 (.dat ds'[i]) x → gT X tg x τ' H3 fun τ4 H4 => tSs X c body { D with nx := fun τ2 H2 => ∃ σ2 m2 G2, I (i + 1) σ2 m2 ∧ EnvOk X c σ2 m2 G2 τ2 H2 ∧ Ex G1 G2, ct := fun τ2 H2 => ∃ σ2 m2 G2, I (i + 1) σ2 m2 ∧ EnvOk X c σ2 m2 G2 τ2 H2 ∧ Ex G1 G2, bk := D.nx } τ4 H4 := fun G3 H3 x3 E3 r3 =>
      T x τ' H3 G3 _ E3 r3 fun σ4 m4 G4 τ4 H4 z4 x4 E4 => by
        have up : Ex G1 G4 := (x'.trans x3).trans x4
        refine ⟨G4, σ4, m4, G4, _, E4, z4, Ex.refl G4, ?_⟩
        exact ⟨fun σ5 m5 G5 τ5 H5 q y E5 => ⟨σ5, m5, G5, q, E5, up.trans y⟩, fun r σ5 m5 G5 τ5 H5 v q y E5 rv => ft.rt r σ5 m5 G5 τ5 H5 v q (((fx.trans x1).trans up).trans y) E5 rv,
          fun σ5 m5 G5 τ5 H5 q y E5 => ft.nx σ5 m5 G5 τ5 H5 q (((fx.trans x1).trans up).trans y) E5, fun σ5 m5 G5 τ5 H5 q y E5 => ⟨σ5, m5, G5, q, E5, up.trans y⟩⟩
    rcases yl x H2 hy with ⟨eH, rx⟩ | ⟨p, ho, hp, eH, rx⟩
    · subst eH
      exact go2 G' _ (Ex.refl G') E' (.dat (rx.mono x'))
    · subst eH
      have g1 : G' p = none := E'.sub.back hp
      refine go2 (L2.upd G' p ho) _ (Ex.new g1) (E'.newG hp) (.dat (rx.mono ?_))
      exact Ex.both x'
  · have e : i = ds'.length := by omega
    subst e
    exact .inl ⟨w2 (Nat.le_refl _), ft.nx σ' m' G' τ' H' (hend σ' m' hI) ((fx.trans x1).trans x') E'⟩
/-- while: a word with a number that falls -/
theorem ds_while (I : Nat → Sl → Mem → Prop) {n0 : Nat} (L : Live X c k) (h0 : I n0 σ m)
    (hs : ∀ n σ' m', I n σ' m' → DT X c σ' m' e (fun b m2 => (b = true → DSs X c σ' m2 body { nx := fun σ2 m3 => ∃ n', n' < n ∧ I n' σ2 m3, ct := fun σ2 m3 => ∃ n', n' < n ∧ I n' σ2 m3, bk := en.nx, rt := en.rt }) ∧ (b = false → en.nx σ' m2))) :
    DS X c σ m (.While e body [] pos) en := fun F pins s τ H G D Iv E fx ft => by
  refine (ps_while L.own (pt_t (c := c)) (pss_t (c := c))).run pins s τ H D Iv ?_
  refine ⟨fun n τ' H' => ∃ σ' m' G', I n σ' m' ∧ EnvOk X c σ' m' G' τ' H' ∧ Ex G G', ⟨n0, σ, m, G, h0, E, Ex.refl G⟩, ?_⟩
  rintro n τ' H' ⟨σ', m', G', hI, E', x'⟩
  refine ⟨σ', m', G', _, E', hs n σ' m' hI, fun b m2 G2 H2 ⟨z1, z2⟩ x2 E2 => ?_⟩
  cases b with
  | true =>
    rw [if_pos rfl]
    refine ⟨fun τ3 H3 => ∃ n', n' < n ∧ ∃ σ3 m3 G3, I n' σ3 m3 ∧ EnvOk X c σ3 m3 G3 τ3 H3 ∧ Ex G G3, fun τ3 H3 ⟨n', hn, w⟩ => ⟨n', hn, w⟩, G2, σ', m2, G2, _, E2, z1 rfl, Ex.refl G2, ?_⟩
    have up : Ex G G2 := x'.trans x2
    exact ⟨fun σ5 m5 G5 τ5 H5 ⟨n', hn, q⟩ y E5 => ⟨n', hn, σ5, m5, G5, q, E5, up.trans y⟩, fun r σ5 m5 G5 τ5 H5 v q y E5 rv => ft.rt r σ5 m5 G5 τ5 H5 v q ((fx.trans up).trans y) E5 rv,
      fun σ5 m5 G5 τ5 H5 q y E5 => ft.nx σ5 m5 G5 τ5 H5 q ((fx.trans up).trans y) E5, fun σ5 m5 G5 τ5 H5 ⟨n', hn, q⟩ y E5 => ⟨n', hn, σ5, m5, G5, q, E5, up.trans y⟩⟩
  | false =>
    rw [if_neg Bool.false_ne_true]
    exact ft.nx σ' m2 G2 τ' H2 (z2 rfl) ((fx.trans x').trans x2) E2
/-- an assignment to any target -/
theorem ds_asgT {e : Expr} {tg : Expr} (h : DE X c σ m e (fun r m1 => DG X c σ m1 tg r (fun σ' m2 => en.nx σ' m2))) (hs : swapsWithSole [tg] e pos.line X.env = pure false := by rfl) (hw : swappedStores [tg] e X.env = pure none := by rfl)
    (h1 : (assignEach [tg] X.env).map (·.2) = [assign tg X.env] := by rfl) : DS X c σ m (.Assign [tg] e pos) en := fun F pins s τ H G D Iv E fx ft => by
  refine (ps_asg (pe_t (c := c)) (pg_t (t := tg)) hs hw h1).run pins s τ H D Iv ⟨σ, m, G, _, E, h, fun r m1 G1 H1 v z x1 E1 rv => ?_⟩
  exact z v τ H1 G1 _ E1 rv fun σ2 m2 G2 τ2 H2 q x2 E2 => ft.nx σ2 m2 G2 τ2 H2 q ((fx.trans x1).trans x2) E2
end
end D2
/-! ## D2Comp -/
namespace D2
open PySem PySem.Spec PyProof.Rows L2

/-! ### slots of a comprehension's block -/
/-- the block sees the names that it captures -/
inductive Blk (scope : Scope) : Sl → Sl → Prop
  | nil : Blk scope [] []
  | keep {x o σ σb} (h : scope.names.lookup x = some .free) : Blk scope σ σb → Blk scope ((x, o) :: σ) ((x, o) :: σb)
  | drop {x o σ σb} : Blk scope σ σb → Blk scope ((x, o) :: σ) ((x, none) :: σb)
theorem Blk.names {scope : Scope} {σ σb : Sl} (h : Blk scope σ σb) : σb.map (·.1) = σ.map (·.1) := by
  induction h with
  | nil => rfl
  | keep _ _ ih => simp [ih]
  | drop _ ih => simp [ih]
theorem Blk.at {scope : Scope} {σ σb : Sl} (h : Blk scope σ σb) : ∀ {i : Nat} {x : Str} {r : R}, σb[i]? = some (x, some r) → σ[i]? = some (x, some r) ∧ scope.names.lookup x = some .free := by
  induction h with
  | nil => intro i x r e; simp at e
  | @keep y o σ σb hy _ ih =>
    intro i x r e
    cases i with
    | zero => simp at e ⊢; obtain ⟨rfl, rfl⟩ := e; exact ⟨⟨rfl, rfl⟩, hy⟩
    | succ i => simp at e ⊢; exact ih e
  | @drop y o σ σb _ ih =>
    intro i x r e
    cases i with
    | zero => simp at e
    | succ i => simp at e ⊢; exact ih e
theorem wipe_at (τ : L2.St) : ∀ (vs : List Nat) (i : Nat), i ∉ vs → (wipe τ vs)[i]? = τ[i]?
  | [], _, _ => rfl
  | v :: vs, i, h => by
    unfold wipe
    rw [List.getElem?_set_ne (fun e => h (by rw [e]; exact List.mem_cons_self))]
    exact wipe_at τ vs i fun z => h (List.mem_cons_of_mem _ z)
theorem wipe_in (τ : L2.St) : ∀ (vs : List Nat) (i : Nat), i ∈ vs → i < τ.length → (wipe τ vs)[i]? = some none
  | v :: vs, i, h, hl => by
    unfold wipe
    by_cases e : v = i
    · subst e
      exact List.getElem?_set_self (by rw [wipe_length]; exact hl)
    · rw [List.getElem?_set_ne e]
      rcases List.mem_cons.mp h with z | z
      · exact absurd z.symm e
      · exact wipe_in τ vs i z hl
theorem wipe_set {τ : L2.St} {vs : List Nat} {i : Nat} {o : Option V} (h : i ∈ vs) : wipe (τ.set i o) vs = wipe τ vs := by
  refine List.ext_getElem? fun j => ?_
  by_cases hj : j ∈ vs
  · by_cases hl : j < τ.length
    · rw [wipe_in _ _ _ hj (by rw [List.length_set]; exact hl), wipe_in _ _ _ hj hl]
    · rw [List.getElem?_eq_none (by rw [wipe_length, List.length_set]; omega), List.getElem?_eq_none (by rw [wipe_length]; omega)]
  · rw [wipe_at _ _ _ hj, wipe_at _ _ _ hj, List.getElem?_set_ne (fun e => hj (by rw [← e]; exact h))]
theorem wipe_wipe {τ : L2.St} {vs : List Nat} : wipe (wipe τ vs) vs = wipe τ vs := by
  refine List.ext_getElem? fun j => ?_
  by_cases hj : j ∈ vs
  · by_cases hl : j < τ.length
    · rw [wipe_in _ _ _ hj (by rw [wipe_length]; exact hl), wipe_in _ _ _ hj hl]
    · rw [List.getElem?_eq_none (by rw [wipe_length, wipe_length]; omega), List.getElem?_eq_none (by rw [wipe_length]; omega)]
  · rw [wipe_at _ _ _ hj]

/-! ### the block's context -/
abbrev bx (X : Cx) (scope : Scope) (s : Shared) (H : Hp) (C : Addr) (cl : List (Str × Addr)) (fp : List Addr) : Cx := X.blk s H scope (compEnvC scope cl C X.env) fp
def IsBlk (X : Cx) (scope : Scope) (Xb : Cx) : Prop := ∃ s H C cl fp, Xb = bx X scope s H C cl fp
section
variable {X Xb : Cx} {scope : Scope} {x : Str} {c : Ct} {k j : Nat} {S : Sp2}
theorem blk_keep {kd : NameKind} (hk : kd ≠ .free) (h : scope.names.lookup x = some kd) : (relabel scope X.env).names.lookup x = some kd := lookup_relS_keep hk h
theorem blk_free (h : scope.names.lookup x = some .free) : (relabel scope X.env).names.lookup x = some .free ∨ (relabel scope X.env).names.lookup x = some .cell := by
  have key : ∀ {sc : Scope} {names : List (Str × NameKind)}, names.lookup x = some NameKind.free →
      (names.map fun (n, k) => if (k == NameKind.free && sc.kind == .function && sc.names.lookup n == some .cell) then (n, NameKind.cell) else (n, k)).lookup x = some .free ∨
      (names.map fun (n, k) => if (k == NameKind.free && sc.kind == .function && sc.names.lookup n == some .cell) then (n, NameKind.cell) else (n, k)).lookup x = some .cell := by
    intro sc names
    induction names with
    | nil => intro h; simp at h
    | cons p r ih =>
      obtain ⟨n, kd⟩ := p
      intro h
      rw [List.lookup_cons] at h
      by_cases hx : (x == n) = true
      · rw [hx] at h
        cases h
        simp only [List.map_cons]
        split
        · right; rw [List.lookup_cons, hx]
        · left; rw [List.lookup_cons, hx]
      · have hx' : (x == n) = false := by simpa using hx
        rw [hx'] at h
        simp only [List.map_cons]
        split
        · rw [List.lookup_cons, hx']; exact ih h
        · rw [List.lookup_cons, hx']; exact ih h
  exact key h
theorem IsBlk.gl (h : IsBlk X scope Xb) (hx : scope.names.lookup x = some .globalImplicit) : Gl Xb x := by
  obtain ⟨s, H, C, cl, fp, rfl⟩ := h
  exact blk_keep (by decide) hx
theorem IsBlk.callee (h : IsBlk X scope Xb) (cl : Callee X x k S) : Callee Xb x k S := by
  obtain ⟨s, H, C, cl', fp, rfl⟩ := h
  exact cl
theorem IsBlk.mg (h : IsBlk X scope Xb) {o : Option Value} (e : X.mg x = o) : Xb.mg x = o := by
  obtain ⟨s, H, C, cl', fp, rfl⟩ := h
  exact e
theorem IsBlk.live (h : IsBlk X scope Xb) (L : Live X c k) {c' : Ct} (hx : ∀ σ m C fs, ¬ c'.ex σ m C fs) : Live Xb c' k := by
  obtain ⟨s, H, C, cl', fp, rfl⟩ := h
  exact ⟨PassesOwn.never, tk_none hx, L.calm, L.room⟩
end

/-! ### tests of a clause -/
def DTs (X : Cx) (c : Ct) (σ : Sl) (m : Mem) (ifs : List Expr) (K : Bool → Mem → Prop) : Prop :=
  match ifs with
  | [] => K true m
  | [e] => DT X c σ m e K
  | _ => False
/-! ### targets of a clause -/
inductive CTgt (X : Cx) (scope : Scope) (own : List (Str × Nat)) (σb : Sl) : Expr → TG → (R → (Sl → Prop) → Prop) → Prop
  | name {x : Str} {px : Pos} {j : Nat} {f : R → Sl} (hf : PutF σb x f) (hj : (x, j) ∈ own) : CTgt X scope own σb (.Name x px) (gName j) (fun r k => k (f r))
  | pair {x y : Str} {px py pt : Pos} {kk i j : Nat} {f : R → Sl} {f2 : R → R → Sl} (hf : PutF σb x f) (hi : (x, i) ∈ own) (hf2 : ∀ r, PutF (f r) y (f2 r)) (hj : (y, j) ∈ own) :
      CTgt X scope own σb (.Tuple [.Name x px, .Name y py] kk pt) (gTup X.K 2 (gCons (gName i) (gCons (gName j) gNil))) (fun r k => ∃ d e, r = .dat (.tup [d, e]) ∧ k (f2 (.dat d) (.dat e)))
section
variable {X : Cx} {c c1 : Ct} {σ σb σ2 : Sl} {m m' : Mem} {scope : Scope} {own : List (Str × Nat)} {tg iter elt : Expr} {ifs : List Expr} {g : TG} {A : R → (Sl → Prop) → Prop} {K : R → Mem → Prop} {k : Nat} {pos : Pos}
theorem own_z (hown : ∀ p ∈ own, scope.names.lookup p.1 = some .local) {x : Str} {j : Nat} (h : (x, j) ∈ own) : (relabel scope X.env).names.lookup x = some .local := blk_keep (by decide) (hown _ h)
theorem own_at (hown : ∀ p ∈ own, scope.names.lookup p.1 = some .local) {x : Str} {j : Nat} (h : (x, j) ∈ own) (s : Shared) (H : Hp) (C : Addr) (cl : List (Str × Addr)) (fp : List Addr) : Own (bx X scope s H C cl fp) x :=
  have z : (relabel scope X.env).names.lookup x = some .local := blk_keep (by decide) (hown _ h)
  ⟨.inl z, .inr z⟩
theorem CTgt.pg (t : CTgt X scope own σb tg g A) (ok : BlkOk X.N X.env.scope scope own) (hown : ∀ p ∈ own, scope.names.lookup p.1 = some .local) (nd : X.N.Nodup) (hc : X.calm = true) (s : Shared) (H : Hp) (C : Addr) (cl : List (Str × Addr)) (fp : List Addr) : PG (bx X scope s H C cl fp) tg g := by
  cases t with
  | name hf hj => exact pg_name nd (ok.ix _ hj) (own_at hown hj s H C cl fp).1 (own_at hown hj s H C cl fp).2
  | pair hf hi hf2 hj =>
    exact pg_tup hc (pgs_cons (pg_name nd (ok.ix _ hi) (own_at hown hi s H C cl fp).1 (own_at hown hi s H C cl fp).2) (pgs_cons (pg_name nd (ok.ix _ hj) (own_at hown hj s H C cl fp).1 (own_at hown hj s H C cl fp).2) pgs_nil))
/-- the same owned objects, heaps; the slots and the context of a block -/
abbrev zx (X : Cx) (scope : Scope) : Cx := { X with env := compEnvC scope [] 0 X.env }
abbrev EB (X : Cx) (scope : Scope) (c : Ct) (σ : Sl) (m : Mem) (G : Hp) (τ : L2.St) (H : Hp) : Prop := EnvOk (zx X scope) c σ m G τ H
theorem EB.of {s : Shared} {H0 : Hp} {C : Addr} {cl : List (Str × Addr)} {fp : List Addr} {G : Hp} {τ : L2.St} {H : Hp} (e : EnvOk (bx X scope s H0 C cl fp) c σ m G τ H) : EB X scope c σ m G τ H :=
  ⟨⟨e.nm.nd, e.nm.dbg⟩, e.names, e.len, e.sub, e.nd, e.mem, e.fr, e.th, e.ok, e.gn, e.g0, e.vis, e.sl⟩
theorem EB.to {s : Shared} {H0 : Hp} {C : Addr} {cl : List (Str × Addr)} {fp : List Addr} {G : Hp} {τ : L2.St} {H : Hp} (e : EB X scope c σ m G τ H) : EnvOk (bx X scope s H0 C cl fp) c σ m G τ H :=
  ⟨⟨e.nm.nd, e.nm.dbg⟩, e.names, e.len, e.sub, e.nd, e.mem, e.fr, e.th, e.ok, e.gn, e.g0, e.vis, e.sl⟩
theorem EnvOk.blk {G : Hp} {τ : L2.St} {H : Hp} (e : EnvOk X c σ m G τ H) (hb : Blk scope σ σb) (ok : BlkOk X.N X.env.scope scope own) (hown : ∀ p ∈ own, scope.names.lookup p.1 = some .local) : EB X scope c σb m G (wipe τ (own.map (·.2))) H := by
  refine ⟨⟨e.nm.nd, e.nm.dbg⟩, by rw [hb.names]; exact e.names, ?_, e.sub, e.nd, e.mem, e.fr, e.th, e.ok, e.gn, e.g0, fun p hp hs => ?_, fun i x r hi => ?_⟩
  · rw [wipe_length, e.len]
    have z := congrArg List.length hb.names
    rw [List.length_map, List.length_map] at z
    exact z.symm
  · obtain ⟨i, hi⟩ := List.mem_iff_getElem?.mp hp
    obtain ⟨x, o⟩ := p
    cases o with
    | none => cases hs
    | some r =>
      obtain ⟨_, h2⟩ := hb.at hi
      rcases blk_free (X := X) h2 with z | z
      · exact .inr (.inr z)
      · exact .inr (.inl z)
  · obtain ⟨h1, h2⟩ := hb.at hi
    obtain ⟨v, hv, rv⟩ := e.sl i x r h1
    refine ⟨v, ?_, rv⟩
    rw [wipe_at]
    · exact hv
    · intro hm
      obtain ⟨p, hp, ep⟩ := List.mem_map.mp hm
      have e1 := ok.ix p hp
      rw [ep, e.names, List.getElem?_map, h1] at e1
      have e2 : x = p.1 := by simpa using e1
      have e3 := hown p hp
      rw [← e2, h2] at e3
      cases e3
theorem CTgt.run (t : CTgt X scope own σb tg g A) (ok : BlkOk X.N X.env.scope scope own) (hown : ∀ p ∈ own, scope.names.lookup p.1 = some .local) (nd : X.N.Nodup) {r : R} {P : Sl → Prop} (a : A r P) {G : Hp} {τ : L2.St} {H : Hp} {v : V} {Q : L2.St → Hp → Prop}
    (E : EB X scope c σb m G τ H) (rv : RelR X.K G r v) (q : ∀ σ2 τ2, P σ2 → EB X scope c σ2 m G τ2 H → wipe τ2 (own.map (·.2)) = wipe τ (own.map (·.2)) → Q τ2 H) : g v τ H Q := by
  cases t with
  | @name x px j f hf hj =>
    have hm : j ∈ own.map (·.2) := List.mem_map_of_mem (f := (·.2)) hj
    refine q (f r) _ a ?_ (wipe_set hm)
    obtain ⟨i, hi, E2⟩ := E.put (hf.put r) (.inl (own_z hown hj)) rv
    have ij : j = i := nodup_ix nd (ok.ix _ hj) hi
    subst ij
    exact E2
  | @pair x y px py pt kk i j f f2 hf hi hf2 hj =>
    obtain ⟨d, e, er, a⟩ := a
    subst er
    cases rv with | dat rv =>
    cases rv with | @tup ad xs vs hs rr =>
    have hs' : SqT X.K H ad vs := by
      rcases hs with h | h
      · rcases h with h | ⟨o, h⟩
        · exact .inl (.inl (E.sub _ _ h))
        · exact .inl (.inr ⟨o, E.sub _ _ h⟩)
      · exact .inr h
    cases rr with | @cons _ v1 _ _ r1 rr => cases rr with | @cons _ v2 _ _ r2 rr =>
    cases rr
    have hmi : i ∈ own.map (·.2) := List.mem_map_of_mem (f := (·.2)) hi
    have hmj : j ∈ own.map (·.2) := List.mem_map_of_mem (f := (·.2)) hj
    refine ⟨ad, _, rfl, hs', rfl, v1, [v2], rfl, v2, [], rfl, rfl, ?_⟩
    refine q _ _ a ?_ (by rw [wipe_set hmj, wipe_set hmi])
    obtain ⟨i', hi', E2⟩ := E.put (hf.put (.dat d)) (.inl (own_z hown hi)) (.dat r1)
    have ij : i = i' := nodup_ix nd (ok.ix _ hi) hi'
    subst ij
    obtain ⟨j', hj', E3⟩ := E2.put ((hf2 (.dat d)).put (.dat e)) (.inl (own_z hown hj)) (.dat r2)
    have ij : j = j' := nodup_ix nd (ok.ix _ hj) hj'
    subst ij
    exact E3
theorem split_back (p : Addr × O) : ∀ m : Mem, Split (p :: m) m [p]
  | [] => .nil
  | q :: m => .cons (a := q.1) (o := q.2) (.there .here) (split_back p m)
/-- the readings of a block's parts: they hold whatever the block's own frame -/
def teU (X : Cx) (scope : Scope) (e : Expr) : TE := fun τ H Q => ∀ (s : Shared) (H0 : Hp) (C : Addr) (cl : List (Str × Addr)) (fp : List Addr) (pins : List (Addr × Obj)) (s1 : Shared), Inv (bx X scope s H0 C cl fp) pins τ H s1 →
  wpAny (model X.prog X.w) X.A (eval e (bx X scope s H0 C cl fp).env) (EP (bx X scope s H0 C cl fp) pins τ Q) (fun _ _ => False) s1
theorem pe_U {e : Expr} (s : Shared) (H0 : Hp) (C : Addr) (cl : List (Str × Addr)) (fp : List Addr) : PE (bx X scope s H0 C cl fp) e (teU X scope e) := ⟨fun pins s1 τ H Q I h => h s H0 C cl fp pins s1 I⟩
def ttU (X : Cx) (scope : Scope) (ifs : List Expr) : TT := fun τ H Q => ∀ (s : Shared) (H0 : Hp) (C : Addr) (cl : List (Str × Addr)) (fp : List Addr) (pins : List (Addr × Obj)) (s1 : Shared), Inv (bx X scope s H0 C cl fp) pins τ H s1 →
  wpAny (model X.prog X.w) X.A (forIn ifs true fun c r => if r = true then do let ok ← isTrue c (bx X scope s H0 C cl fp).env (eval c (bx X scope s H0 C cl fp).env); pure (ForInStep.yield ok) else pure (ForInStep.yield r)) (TP (bx X scope s H0 C cl fp) pins τ Q) (fun _ _ => False) s1
theorem pts_U (s : Shared) (H0 : Hp) (C : Addr) (cl : List (Str × Addr)) (fp : List Addr) : PTs (bx X scope s H0 C cl fp) ifs (ttU X scope ifs) := ⟨fun pins s1 τ H Q I h => h s H0 C cl fp pins s1 I⟩
/-- one turn of a clause whose item is at hand: tests, element -/
def Turn1 (X : Cx) (scope : Scope) (k : Nat) (σ2 : Sl) (m : Mem) (ifs : List Expr) (elt : Expr) (yes : R → Mem → Prop) (no : Mem → Prop) : Prop :=
  ∀ Xb c', IsBlk X scope Xb → Live Xb c' k → DTs Xb c' σ2 m ifs (fun b m2 => (b = true → ∀ Xe, IsBlk X scope Xe → Live Xe c' k → DE Xe c' σ2 m2 elt yes) ∧ (b = false → no m2))
theorem dts_run {Kb : Bool → Mem → Prop} {τ : L2.St} {G H : Hp} {Q : Bool → Hp → Prop} (h : ∀ Xb, IsBlk X scope Xb → DTs Xb c σ m ifs Kb) (E : EB X scope c σ m G τ H) (q : ∀ b m' G' H', Kb b m' → Ex G G' → EB X scope c σ m' G' τ H' → Q b H') : ttU X scope ifs τ H Q := by
  intro s H0 C cl fp pins s1 I
  have h1 := h _ ⟨s, H0, C, cl, fp, rfl⟩
  match ifs, h1 with
  | [], h1 => exact wpAny_tests_nil ⟨H, I, q true m G H h1 (Ex.refl G) E⟩
  | [e], h1 => exact wpAny_tests_one (h1 _ pins s1 τ H G Q rfl I E.to fun b m' G' H' z x E' => q b m' G' H' z x (EB.of E'))
theorem de_run {Ke : R → Mem → Prop} {τ : L2.St} {G H : Hp} {Q : VK} (h : ∀ Xb, IsBlk X scope Xb → DE Xb c σ m elt Ke) (E : EB X scope c σ m G τ H) (q : ∀ r m' G' H' v, Ke r m' → Ex G G' → EB X scope c σ m' G' τ H' → RelR X.K G' r v → Q v H') : teU X scope elt τ H Q := by
  intro s H0 C cl fp pins s1 I
  exact h _ ⟨s, H0, C, cl, fp, rfl⟩ pins s1 τ H G Q I E.to fun r m' G' H' v z x E' rv => q r m' G' H' v z x (EB.of E') rv
/-- objects that nothing of the walk touches -/
def KeepK (ks : List (Addr × HO)) (m : Mem) (G H : Hp) : Prop := ∀ p ∈ ks, H p.1 = some p.2 ∧ p.1 ∉ m.map (·.1) ∧ G p.1 = none
def WalksA (K : PySem.W.Frag) (J : It) (ds : List D) (G : Hp) (ks : List (Addr × HO)) : Prop := ∀ i H, Ex G H → (∀ p ∈ ks, H p.1 = some p.2) →
  (∀ d, ds[i]? = some d → J.go i H ∧ ∀ x H', J.yld i H x H' → (H' = H ∧ Rep K G d x) ∨ ∃ p ho, H p = none ∧ H' = L2.upd H p ho ∧ Rep K (L2.upd G p ho) d x) ∧ (ds.length ≤ i → J.stop i H)
theorem Walks.a {Kf : PySem.W.Frag} {J : It} {ds : List D} {G : Hp} (h : Walks Kf J ds G) : WalksA Kf J ds G [] := fun i H e _ => h i H e
theorem KeepK.nil {m : Mem} {G H : Hp} : KeepK [] m G H := fun p hp => by cases hp
theorem KeepK.new {ks : List (Addr × HO)} {m : Mem} {G H : Hp} {D : Addr} {o : O} {ho : HO} (h : KeepK ks m G H) (hD : H D = none) : KeepK ks ((D, o) :: m) G (L2.upd H D ho) := fun p hp => by
  obtain ⟨a1, a2, a3⟩ := h p hp
  have ne : p.1 ≠ D := ne_of_none a1 hD
  refine ⟨by rw [upd_ne ne]; exact a1, fun z => ?_, a3⟩
  rcases List.mem_cons.mp z with z | z
  · exact ne z
  · exact a2 z
theorem KeepK.newG {ks : List (Addr × HO)} {m : Mem} {G H : Hp} {D : Addr} {ho : HO} (h : KeepK ks m G H) (hD : H D = none) : KeepK ks m (L2.upd G D ho) (L2.upd H D ho) := fun p hp => by
  obtain ⟨a1, a2, a3⟩ := h p hp
  have ne : p.1 ≠ D := ne_of_none a1 hD
  exact ⟨by rw [upd_ne ne]; exact a1, a2, by rw [upd_ne ne]; exact a3⟩
theorem KeepK.put {ks : List (Addr × HO)} {m : Mem} {G H : Hp} {D : Addr} {o o' : O} {ho : HO} (h : KeepK ks ((D, o) :: m) G H) : KeepK ks ((D, o') :: m) G (L2.upd H D ho) := fun p hp => by
  obtain ⟨a1, a2, a3⟩ := h p hp
  have ne : p.1 ≠ D := fun z => a2 (by rw [z]; exact List.mem_cons_self)
  exact ⟨by rw [upd_ne ne]; exact a1, a2, a3⟩
theorem lc_read {ds : List D} {wi : TI} (ks : List (Addr × HO)) (P : Nat → List R → Mem → Prop) (L : Live X c k) (ok : BlkOk X.N X.env.scope scope own) (hown : ∀ p ∈ own, scope.names.lookup p.1 = some .local) (hb : Blk scope σ σb) (t : CTgt X scope own σb tg g A)
    (turn : ∀ i d rs m', ds[i]? = some d → P i rs m' → A (.dat d) (fun σ2 => Turn1 X scope k σ2 m' ifs elt (fun r m3 => P (i + 1) (rs ++ [r]) m3) (fun m2 => P (i + 1) rs m2))) (hl : ds.length ≤ 1000000)
    (hend : ∀ rs m' p, P ds.length rs m' → K (.own p) ((p, .lst rs) :: m')) {τ : L2.St} {H G : Hp} {Q : VK} (E : EnvOk X c σ m G τ H)
    (hw : ∀ R' : It → Hp → Prop, (∀ ds' m' G' H' J, ds' = ds ∧ P 0 [] m' → Ex G G' → EnvOk X c σ m' G' τ H' → WalksA X.K J ds' G' ks → KeepK ks m' G' H' → R' J H') → wi τ H R') (q : ∀ r m' G' H' v, K r m' → Ex G G' → EnvOk X c σ m' G' τ H' → RelR X.K G' r v → KeepK ks m' G' H' → Q v H') :
    tLc wi g (ttU X scope ifs) (teU X scope elt) (own.map (·.2)) τ H Q := by
  refine hw _ fun ds' m1 G1 H1 J ⟨ed, z⟩ x1 E1 wk kk => ?_
  subst ed
  intro D hD
  refine ⟨fun i n H' => n = ds'.length - i ∧ i ≤ ds'.length ∧ ∃ rs m' G', P i rs m' ∧ rs.length ≤ i ∧ EnvOk X c σ ((D, .lst rs) :: m') G' τ H' ∧ Ex G1 G' ∧ KeepK ks ((D, .lst rs) :: m') G' H', ⟨_, rfl, Nat.zero_le _, [], m1, G1, z, Nat.le_refl _, E1.new hD (.lst .nil), Ex.refl G1, kk.new hD⟩, ?_⟩
  rintro i n H' ⟨rfl, hi, rs, m', G', hP, hrs, E', x', kk'⟩
  obtain ⟨w1, w2⟩ := wk i H' (x'.trans E'.sub) fun p hp => (kk' p hp).1
  by_cases hlt : i < ds'.length
  · obtain ⟨go, yl⟩ := w1 ds'[i] (List.getElem?_eq_getElem hlt)
    refine .inr ⟨go, fun H2 => ∃ rs2 m2 G2, P (i + 1) rs2 m2 ∧ rs2.length ≤ i + 1 ∧ EnvOk X c σ ((D, .lst rs2) :: m2) G2 τ H2 ∧ Ex G1 G2 ∧ KeepK ks ((D, .lst rs2) :: m2) G2 H2, fun H2 ⟨rs2, m2, G2, h1, h2, h3, h4, h5⟩ => ⟨ds'.length - (i + 1), by omega, rfl, hlt, rs2, m2, G2, h1, h2, h3, h4, h5⟩, fun x H2 hy => ?_⟩
    have T := turn i ds'[i] rs m' (List.getElem?_eq_getElem hlt) hP
    -- the item at hand
    have go2 : ∀ G3 H3, Ex G' G3 → EnvOk X c σ ((D, .lst rs) :: m') G3 τ H3 → KeepK ks ((D, .lst rs) :: m') G3 H3 → RelR X.K G3 (.dat ds'[i]) x →
        g x (wipe τ (own.map (·.2))) H3 fun τ2 H4 => wipe τ2 (own.map (·.2)) = wipe τ (own.map (·.2)) ∧ ttU X scope ifs τ2 H4 fun b H5 =>
          if b = true then teU X scope elt τ2 H5 fun y H6 => ∃ acc, H6 D = some (.lst acc) ∧ acc.length < sizeLine ∧ ∃ rs2 m2 G2, P (i + 1) rs2 m2 ∧ rs2.length ≤ i + 1 ∧ EnvOk X c σ ((D, .lst rs2) :: m2) G2 τ (L2.upd H6 D (.lst (acc ++ [y]))) ∧ Ex G1 G2 ∧ KeepK ks ((D, .lst rs2) :: m2) G2 (L2.upd H6 D (.lst (acc ++ [y])))
          else ∃ rs2 m2 G2, P (i + 1) rs2 m2 ∧ rs2.length ≤ i + 1 ∧ EnvOk X c σ ((D, .lst rs2) :: m2) G2 τ H5 ∧ Ex G1 G2 ∧ KeepK ks ((D, .lst rs2) :: m2) G2 H5 := fun G3 H3 x3 E3 k3 r3 => by
      have sp : Split ((D, .lst rs) :: m') m' [(D, .lst rs)] := split_back _ _
      have Ei : EnvOk X (ctSub c H3 G3 m' fun _ _ _ _ => False) σ m' G3 τ H3 := E3.into sp
      have Eb := Ei.blk hb ok hown
      have nl : ∀ {Xb : Cx}, IsBlk X scope Xb → Live Xb (ctSub c H3 G3 m' fun _ _ _ _ => False) k := fun h => h.live L fun _ _ _ _ z => z
      obtain ⟨_, hoD, hhD, roD⟩ := E3.mem (D, .lst rs) List.mem_cons_self
      -- the list as it stands behind the block's parts
      have hDm : D ∉ (ctSub c H3 G3 m' fun _ _ _ _ => False).mu := by
        have nd := E3.nd
        exact (List.nodup_cons.mp nd).1
      -- back to the def's context
      have bk : ∀ {σ2 : Sl} {τ2 : L2.St} {m2 : Mem} {G2 H2 : Hp}, EB X scope (ctSub c H3 G3 m' fun _ _ _ _ => False) σ2 m2 G2 τ2 H2 → EnvOk X c σ ((D, .lst rs) :: m2) G2 τ H2 := fun {σ2 τ2 m2 G2 H2} e => by
        have A := E3.after sp (show OutOk X.K _ _ _ _ _ _ from e.outK)
        refine A.drop (fun p hp => ?_) ?_
        · rcases List.mem_cons.mp hp with rfl | hp
          · exact List.mem_append_right _ List.mem_cons_self
          · exact List.mem_append_left _ hp
        · have nd := A.nd
          have pm : (m2 ++ [(D, O.lst rs)]).Perm ((D, .lst rs) :: m2) := List.perm_append_comm
          exact (pm.map _).nodup_iff.mp nd
      have kp : ∀ {σ2 : Sl} {τ2 : L2.St} {m2 : Mem} {G2 H2 : Hp} {rs2 : List R}, EB X scope (ctSub c H3 G3 m' fun _ _ _ _ => False) σ2 m2 G2 τ2 H2 → KeepK ks ((D, .lst rs2) :: m2) G2 H2 := fun {σ2 τ2 m2 G2 H2 rs2} e p hp => by
        obtain ⟨a1, a2, a3⟩ := k3 p hp
        have nm' : p.1 ∉ m'.map (·.1) := fun z => a2 (List.mem_cons_of_mem _ z)
        refine ⟨e.fr p.1 p.2 a1 nm', fun z => ?_, ?_⟩
        · rcases List.mem_cons.mp z with z | z
          · exact a2 (by rw [z]; exact List.mem_cons_self)
          · obtain ⟨q, hq, eq⟩ := List.mem_map.mp z
            rcases e.ok q hq with y | y
            · rw [eq] at y; exact nm' y
            · rw [eq] at y; exact absurd (show H3 p.1 = none from y) (by rw [a1]; exact fun w => by cases w)
        · cases ge : G2 p.1 with
          | none => rfl
          | some o =>
            rcases e.gn p.1 o ge with y | y | y
            · exact absurd (show G3 p.1 = some o from y) (by rw [a3]; exact fun w => by cases w)
            · exact absurd y nm'
            · exact absurd (show H3 p.1 = none from y) (by rw [a1]; exact fun w => by cases w)
      refine t.run ok hown E.nm.nd T Eb r3 fun σ2 τ2 T2 E2 hw2 => ⟨by rw [hw2, wipe_wipe], ?_⟩
      refine dts_run (fun Xb hX => T2 Xb _ hX (nl hX)) E2 fun b m5 G5 H5 ⟨y1, y2⟩ x5 E5 => ?_
      cases b with
      | false =>
        rw [if_neg Bool.false_ne_true]
        exact ⟨rs, m5, G5, y2 rfl, by omega, bk E5, (x'.trans x3).trans x5, kp E5⟩
      | true =>
        rw [if_pos rfl]
        -- the element, under every block
        have d6 : ∀ Xb, IsBlk X scope Xb → DE Xb (ctSub c H3 G3 m' fun _ _ _ _ => False) σ2 m5 elt (fun r m3 => P (i + 1) (rs ++ [r]) m3) := fun Xb hX => by
          exact y1 rfl Xb hX (nl hX)
        refine de_run d6 E5 fun r m6 G6 H6 v y x6 E6 rv => ?_
        have E7 := bk E6
        obtain ⟨_, ho7, hh7, ro7⟩ := E7.mem (D, .lst rs) List.mem_cons_self
        cases ro7 with | @lst _ acc ro7 =>
        refine ⟨acc, hh7, ?_, rs ++ [r], m6, G6, y, by rw [List.length_append]; simp; omega, E7.chg .here (.lst (ro7.append (.cons rv .nil))), ((x'.trans x3).trans x5).trans x6, (kp (rs2 := rs) E6).put⟩
        rw [← ro7.length]
        exact Nat.lt_of_le_of_lt (by omega : rs.length ≤ 1000000) (by decide)
    rcases yl x H2 hy with ⟨eH, rx⟩ | ⟨p, ho, hp, eH, rx⟩
    · subst eH
      exact go2 G' _ (Ex.refl G') E' kk' (.dat (rx.mono x'))
    · subst eH
      have g1 : G' p = none := E'.sub.back hp
      exact go2 (L2.upd G' p ho) _ (Ex.new g1) (E'.newG hp) (kk'.newG hp) (.dat (rx.mono (Ex.both x')))
  · have e : i = ds'.length := by omega
    subst e
    exact .inl ⟨w2 (Nat.le_refl _), q _ _ G' _ _ (hend rs m' D hP) (x1.trans x') E' .own kk'⟩
theorem de_lc {ds : List D} (P : Nat → List R → Mem → Prop) (L : Live X c k) (nd : X.N.Nodup) (ok : BlkOk X.N X.env.scope scope own) (hown : ∀ p ∈ own, scope.names.lookup p.1 = some .local) (hb : Blk scope σ σb) (t : CTgt X scope own σb tg g A)
    (hit : DIt X c σ m tg iter (fun ds' m1 => ds' = ds ∧ P 0 [] m1))
    (turn : ∀ i d rs m', ds[i]? = some d → P i rs m' → A (.dat d) (fun σ2 => Turn1 X scope k σ2 m' ifs elt (fun r m3 => P (i + 1) (rs ++ [r]) m3) (fun m2 => P (i + 1) rs m2))) (hl : ds.length ≤ 1000000)
    (hend : ∀ rs m' p, P ds.length rs m' → K (.own p) ((p, .lst rs) :: m')) (hs : ∀ x, foldedSetIterable iter X.env x = pure x := by intro _; rfl) : DE X c σ m (.ListComp elt [⟨tg, iter, ifs, 0⟩] scope pos) K := by
  obtain ⟨wi, hpi, hw⟩ := hit
  exact de_of (pe_lc L.calm nd hpi ok (fun s H C cl fp => t.pg ok hown nd L.calm s H C cl fp) (fun s H C cl fp => pts_U s H C cl fp) (fun s H C cl fp => pe_U s H C cl fp) hs) fun τ H G Q E q =>
    lc_read [] P L ok hown hb t turn hl hend E (fun R' h => hw τ H G R' E fun ds m' G' H' J z x E' w => h ds m' G' H' J z x E' w.a .nil) fun r m' G' H' v z x E' rv _ => q r m' G' H' v z x E' rv
theorem ds_lc {ds : List D} {en : En} {y : Str} {py spos : Pos} {f : R → Sl} (P : Nat → List R → Mem → Prop) (L : Live X c k) (nd : X.N.Nodup) (hy : X.env.scope.names.lookup y = some .local) (hp : PutF σ y f) (ok : BlkOk X.N X.env.scope scope own) (hown : ∀ p ∈ own, scope.names.lookup p.1 = some .local) (hb : Blk scope σ σb) (t : CTgt X scope own σb tg g A)
    (hit : DIt X c σ m tg iter (fun ds' m1 => ds' = ds ∧ P 0 [] m1))
    (turn : ∀ i d rs m', ds[i]? = some d → P i rs m' → A (.dat d) (fun σ2 => Turn1 X scope k σ2 m' ifs elt (fun r m3 => P (i + 1) (rs ++ [r]) m3) (fun m2 => P (i + 1) rs m2))) (hl : ds.length ≤ 1000000)
    (hend : ∀ rs m' p, P ds.length rs m' → en.nx (f (.own p)) ((p, .lst rs) :: m'))
    (hsw : swapsWith (.ListComp elt [⟨tg, iter, ifs, 0⟩] scope pos) (some (.Name y py)) spos.line X.env = pure true) (hs : ∀ x, foldedSetIterable iter X.env x = pure x := by intro _; rfl) :
    DS X c σ m (.Assign [.Name y py] (.ListComp elt [⟨tg, iter, ifs, 0⟩] scope pos) spos) en := fun F pins s τ H G D I E fx ft => by
  obtain ⟨wi, hpi, hw⟩ := hit
  have hm : y ∈ X.N := by rw [E.names]; exact hp.at
  obtain ⟨i, hi⟩ := List.mem_iff_getElem?.mp hm
  refine (ps_setLc L.calm nd hi hy hsw hpi ok (fun s H C cl fp => t.pg ok hown nd L.calm s H C cl fp) (fun s H C cl fp => pts_U s H C cl fp) (fun s H C cl fp => pe_U s H C cl fp) hs).run pins s τ H D I ?_
  refine lc_read (K := fun r m' => en.nx (f r) m') [] P L ok hown hb t turn hl hend E (fun R' h => hw τ H G R' E fun ds m' G' H' J z x E' w => h ds m' G' H' J z x E' w.a .nil) fun r m' G' H' v z x1 E' rv _ => ?_
  obtain ⟨j, hj, E2⟩ := E'.put (hp.put r) (.inl hy) rv
  have ij : i = j := nodup_ix nd hi hj
  subst ij
  exact ft.nx _ m' G' _ H' z (fx.trans x1) E2
end
end D2
namespace D2
open PySem L2
theorem ati {α : Type} {xs : List α} {i : Int} {v : α} (j : Nat) (h : xs[j]? = some v) (e : i = (j : Int)) : atI xs i = some v := by
  subst e; exact atI_nat h
end D2
/-! ## D2Eq -/
namespace D2
open PySem PySem.Spec PyProof.Rows L2

/-! ### == of data -/
mutual
inductive PV (m : Mem) : R → PyData → Prop
  | non : PV m (.dat .non) .none
  | bl {b} : PV m (rB b) (.bool b)
  | int {i} : PV m (rI i) (.int i)
  | str {s} : PV m (rS s) (.str (sOf s))
  | lst {r rs ps} : VL m r rs → PVs m rs ps → PV m r (.list ps)
  | tup {ds ps} : PVs m (ds.map .dat) ps → PV m (.dat (.tup ds)) (.tuple ps)
inductive PVs (m : Mem) : List R → List PyData → Prop
  | nil : PVs m [] []
  | cons {r p rs ps} : PV m r p → PVs m rs ps → PVs m (r :: rs) (p :: ps)
end
section
variable {X : Cx} {c : Ct} {σ : Sl} {m : Mem} {τ : L2.St} {H G : Hp} {K : R → Mem → Prop}
mutual
theorem PV.dp (E : EnvOk X c σ m G τ H) : ∀ {p : PyData} {r : R} {v : V}, PV m r p → RelR X.K G r v → Dp X.K H v p
  | _, _, _, .non, rv => by cases rv with | dat rv => cases rv; exact .non
  | _, _, _, .bl, rv => by cases bl_of rv; exact .bl _
  | _, _, _, .int, rv => by cases int_of rv; exact .int _
  | _, _, _, .str, rv => by cases str_of rv; exact .str _
  | _, _, _, .lst h t, rv => by
    obtain ⟨a, vs, rfl, hs, rr⟩ := h.at E rv
    exact .lst hs (PVs.dp E t rr)
  | _, _, _, .tup t, rv => by
    cases rv with | dat rv =>
    cases rv with | tup hs rr => exact .tup (ex_t E.sub hs) (PVs.dp E t rr.rel)
theorem PVs.dp (E : EnvOk X c σ m G τ H) : ∀ {ps : List PyData} {rs : List R} {vs : List V}, PVs m rs ps → RelRs X.K G rs vs → DpAll X.K H vs ps
  | _, _, _, .nil, rv => by cases rv; exact .nil
  | _, _, _, .cons h t, rv => by cases rv with | cons r1 rv => exact .cons (PV.dp E h r1) (PVs.dp E t rv)
end
/-- what == takes: no dict within, few floors -/
def EqOk (p : PyData) : Prop := p.plain = true ∧ p.depth ≤ 60
theorem o_eqD {r1 r2 : R} {p1 p2 : PyData} {k : Nat} (L : Live X c k) (h1 : PV m r1 p1) (h2 : PV m r2 p2) (s1 : EqOk p1) (s2 : EqOk p2) (kk : K (rB (PyData.eqv p1 p2)) m) : OP X c σ m (compareOp .Eq) r1 r2 K :=
  fun pins s τ H G v1 v2 u1 u2 Q I E q1 q2 rx ry q => by
    obtain ⟨as, a1⟩ := Dp.reads I p1 v1 u1 (h1.dp E q1) rx
    obtain ⟨bs, a2⟩ := Dp.reads I p2 v2 u2 (h2.dp E q2) ry
    exact SeqAt.eq_plain a1 a2 s1.1 s2.1 (by have := L.room.units; have := s1.2; omega) ⟨.bl _, H, I, rfl, q.now kk E (.dat .bl)⟩
theorem o_neD {r1 r2 : R} {p1 p2 : PyData} {k : Nat} (L : Live X c k) (h1 : PV m r1 p1) (h2 : PV m r2 p2) (s1 : EqOk p1) (s2 : EqOk p2) (kk : K (rB (!PyData.eqv p1 p2)) m) : OP X c σ m (compareOp .NotEq) r1 r2 K :=
  fun pins s τ H G v1 v2 u1 u2 Q I E q1 q2 rx ry q => by
    obtain ⟨as, a1⟩ := Dp.reads I p1 v1 u1 (h1.dp E q1) rx
    obtain ⟨bs, a2⟩ := Dp.reads I p2 v2 u2 (h2.dp E q2) ry
    exact SeqAt.ne_plain a1 a2 s1.1 s2.1 (by have := L.room.units; have := s1.2; omega) ⟨.bl _, H, I, rfl, q.now kk E (.dat .bl)⟩
end
theorem pvs_int (m : Mem) : ∀ xs : List Int, PVs m (xs.map rI) (xs.map .int)
  | [] => .nil
  | _ :: xs => .cons .int (pvs_int m xs)
theorem pvs_str (m : Mem) : ∀ xs : List (List Nat), PVs m (xs.map rS) (xs.map fun s => .str (sOf s))
  | [] => .nil
  | _ :: xs => .cons .str (pvs_str m xs)
def dI (xs : List Int) : List D := xs.map .int
def dS (xs : List (List Nat)) : List D := xs.map .str
theorem vl_I {m : Mem} {xs : List Int} : VL m (.dat (.lst (dI xs))) (xs.map rI) := by
  have h : VL m (.dat (.lst (dI xs))) ((dI xs).map .dat) := .dat
  unfold dI at h
  rw [List.map_map] at h
  exact h
theorem vl_S {m : Mem} {xs : List (List Nat)} : VL m (.dat (.lst (dS xs))) (xs.map rS) := by
  have h : VL m (.dat (.lst (dS xs))) ((dS xs).map .dat) := .dat
  unfold dS at h
  rw [List.map_map] at h
  exact h
theorem eqv_strs : ∀ xs ys : List (List Nat), PyData.eqvAll (xs.map fun s => .str (sOf s)) (ys.map fun s => .str (sOf s)) = decide (xs = ys)
  | [], [] => rfl
  | [], _ :: _ => rfl
  | _ :: _, [] => rfl
  | x :: xs, y :: ys => by
    rw [List.map_cons, List.map_cons, PyData.eqvAll, eqv_strs xs ys, PyData.eqv]
    by_cases h : x = y
    · subst h; simp
    · have z : sOf x ≠ sOf y := fun e => h (by have := congrArg lit e; rwa [lit_sOf, lit_sOf] at this)
      simp [h, z]
theorem eqv_ints : ∀ xs ys : List Int, PyData.eqvAll (xs.map .int) (ys.map .int) = decide (xs = ys)
  | [], [] => rfl
  | [], _ :: _ => rfl
  | _ :: _, [] => rfl
  | x :: xs, y :: ys => by
    rw [List.map_cons, List.map_cons, PyData.eqvAll, eqv_ints xs ys, PyData.eqv]
    by_cases h : x = y
    · subst h; simp
    · simp [h]
theorem plain_ints : ∀ xs : List Int, PyData.plainAll (xs.map .int) = true
  | [] => rfl
  | _ :: xs => by rw [List.map_cons, PyData.plainAll, plain_ints xs]; rfl
theorem plain_strs : ∀ xs : List (List Nat), PyData.plainAll (xs.map fun s => .str (sOf s)) = true
  | [] => rfl
  | _ :: xs => by rw [List.map_cons, PyData.plainAll, plain_strs xs]; rfl
theorem depth_ints : ∀ xs : List Int, PyData.depthAll (xs.map .int) ≤ 1
  | [] => by simp [PyData.depthAll]
  | _ :: xs => by have := depth_ints xs; simp only [List.map_cons, PyData.depthAll, PyData.depth]; omega
theorem depth_strs : ∀ xs : List (List Nat), PyData.depthAll (xs.map fun s => .str (sOf s)) ≤ 1
  | [] => by simp [PyData.depthAll]
  | _ :: xs => by have := depth_strs xs; simp only [List.map_cons, PyData.depthAll, PyData.depth]; omega
theorem eqok_ints (xs : List Int) : EqOk (.list (xs.map .int)) := ⟨by rw [PyData.plain]; exact plain_ints xs, by have := depth_ints xs; rw [PyData.depth]; omega⟩
theorem eqok_strs (xs : List (List Nat)) : EqOk (.list (xs.map fun s => .str (sOf s))) := ⟨by rw [PyData.plain]; exact plain_strs xs, by have := depth_strs xs; rw [PyData.depth]; omega⟩
theorem pv_dI {m : Mem} {xs : List Int} : PV m (.dat (.lst (dI xs))) (.list (xs.map .int)) := .lst vl_I (pvs_int m xs)
theorem pv_dS {m : Mem} {xs : List (List Nat)} : PV m (.dat (.lst (dS xs))) (.list (xs.map fun s => .str (sOf s))) := .lst vl_S (pvs_str m xs)
end D2
/-! ## D2G -/
/-! defs that are called where no guard of repr stands: repr of lists and tuples there -/
namespace D2
open PySem PySem.Spec PyProof.Rows L2
/-- no list is being shown -/
abbrev NoG (A : Around) : Prop := A.guards = some []
structure FnG (P : Program) (w : World) (K : PySem.W.Frag) (mg : Str → Option Value) (base : Heap) (CX : CXT) (k : Nat) (f : Addr) (fd : FuncData) (ps : List Str) (sp : Sp) : Prop where
  len : ∀ vs H Q E, sp vs H Q E → vs.length = ps.length
  go : ∀ A outer s H args us vs Q E, Room k A → NoG A → Env0 P w K mg base A outer s H → BindsTo s fd args (ps.zip us) → Vals vs us → sp vs H Q E →
    codeAny (model P w) A (.call (.ref f) args) (CR CX outer P w H s Q E) s
theorem FnG.mono {P : Program} {w : World} {K : PySem.W.Frag} {mg : Str → Option Value} {base : Heap} {CX : CXT} {j k : Nat} {f : Addr} {fd : FuncData} {ps : List Str} {sp : Sp} (F : FnG P w K mg base CX j f fd ps sp) (h : j ≤ k) : FnG P w K mg base CX k f fd ps sp :=
  ⟨F.len, fun A o s H as us vs Q E r g e b v q => F.go A o s H as us vs Q E (r.mono h) g e b v q⟩
theorem FnG.imp {P : Program} {w : World} {K : PySem.W.Frag} {mg : Str → Option Value} {base : Heap} {CX : CXT} {k : Nat} {f : Addr} {fd : FuncData} {ps : List Str} {sp sp' : Sp} (F : FnG P w K mg base CX k f fd ps sp) (h : ∀ vs H Q E, sp' vs H Q E → sp vs H Q E) : FnG P w K mg base CX k f fd ps sp' :=
  ⟨fun vs H Q E q => F.len vs H Q E (h _ _ _ _ q), fun A o s H as us vs Q E r g e b v q => F.go A o s H as us vs Q E r g e b v (h _ _ _ _ q)⟩
/-- a body walked where no guard stands -/
theorem FnG.of_body {CX : CXT} {P : Program} {w : World} {K : PySem.W.Frag} {mg : Str → Option Value} {base : Heap} {k : Nat} {f : Addr} {fd : FuncData} {x qual : Str} {params : Arguments} {body : List Stmt} {scope : Scope} {dvs : List V} {kws : List (Str × V)} {N ps : List Str} {sp : Sp}
    (F : FunD K x qual params body scope dvs kws f fd) (S : FnScope N ps scope) (len : ∀ vs H Q E, sp vs H Q E → vs.length = ps.length)
    (hb : ∀ (cv : Value) (A : Around) (outer : List Env) (s : Shared) (H : Hp) (vs : List V) (Q : VK) (E : XK), Room k (A.deeper (envOfC qual scope s.heap.objs.size f cv)) → NoG A → sp vs H Q E →
      ∃ t, PSs (cxOf CX P w K mg base N qual scope f cv A outer s H E) body t ∧ t { nx := fun _ H' => Q .non H', rt := Q } (start N vs) H) : FnG P w K mg base CX (k + 1) f fd ps sp := by
  obtain ⟨_, _, _, _, _, _, _, cv, _, _, rfl, lk, hcd, _, _⟩ := F.ex
  refine ⟨len, fun A outer s H args us vs Q E room ng e0 bt rv hs => ?_⟩
  have inK : K.In s.heap := e0.mod.kin.keeps fun b o e => (e0.bs b o e).1
  have nolim : s.heap.NoLimit := e0.mod.nolimit.keeps fun b o e => (e0.bs b o e).1
  refine codeAny_call_function room.depth (inK _ _ lk) rfl S.co S.gen rfl (PySem.W.codeRec_of inK hcd) (bt _ _ _ _ ?_)
  refine wpAny_newFunctionEnv_cells S.kind (fun z hz => ?_) fun env he s1 ic => ?_
  · have hm := List.of_mem_zip (show (z.1, z.2) ∈ _ from hz)
    exact (S.par z.1 hm.1).imp id fun q => ⟨q, PySem.W.cellsFrom_some _ _ _ (.inl q)⟩
  subst he
  obtain ⟨t, pt, ht⟩ := hb cv A outer s H vs Q E (room.deeper _) ng hs
  refine ⟨nolim.keeps ic.toInCall.keep, codeAny_func (wpAny_mono (pt.run [] s1 _ H _ (inv_start S room.hd e0 (len _ _ _ _ hs) rv ic) ht) (fun fl s2 h2 => ?_) fun _ _ h2 => h2)⟩
  match fl, h2 with
  | .ret u, ⟨v, τ, H2, J, rv2, q⟩ => exact ⟨v, H2, J.os, J.bare, J.base, J.hok, rv2, q⟩
  | .next, ⟨τ, H2, J, q⟩ => exact ⟨V.non, H2, J.os, J.bare, J.base, J.hok, rfl, q⟩
  | .brk, ⟨_, _, _, q⟩ => exact q.elim
  | .cont, ⟨_, _, _, q⟩ => exact q.elim
section
variable {P : Program} {w : World} {K : PySem.W.Frag} {mg : Str → Option Value} {base : Heap} {x qual : Str} {params : Arguments} {body : List Stmt} {scope : Scope} {dvs : List V} {kws : List (Str × V)} {f : Addr} {fd : FuncData} {N ps : List Str} {k : Nat} {S : Sp2}
theorem fn2G (F : FunD K x qual params body scope dvs kws f fd) (Sc : FnScope N ps scope) (dbg : ∀ x ∈ N, (x == ("__debug__" : Str)) = false ∧ (x == ("__classdict__" : Str)) = false) (len : ∀ rs m Kr Ke, S rs m Kr Ke → rs.length = ps.length)
    (hb : ∀ (X : Cx) (c : Ct) (rs : List R) (m : Mem) (Kr : R → Mem → Prop) (Ke : Addr → List (Str × D) → Mem → Prop), NoG X.A → Def X P w K mg base N scope → Live X c k → (∀ σ m' C fs, Ke C fs m' → c.ex σ m' C fs) → S rs m Kr Ke →
      DSs X c (slots N rs) m body { nx := fun _ m' => Kr (.dat .non) m', rt := Kr }) : FnG P w K mg base (L2N.CX P w) (k + 1) f fd ps (spOf K S) := by
  refine FnG.of_body F Sc (fun vs H Q E ⟨rs, m, G, Kr, Ke, h, _, _, _, rv, _⟩ => by rw [← rv.length]; exact len _ _ _ _ h) fun cdv A outer s H vs Q E hr ng ⟨rs, m, G, Kr, Ke, h, sub, nd, mem, rv, hQ, hE⟩ => ?_
  have hrl : rs.length = ps.length := len _ _ _ _ h
  have hpl : ps.length ≤ N.length := by have := congrArg List.length Sc.pre; rw [List.length_take] at this; omega
  let X : Cx := cxOf (L2N.CX P w) P w K mg base N qual scope f cdv A outer s H E
  let c : Ct := ⟨H, G, m.map (·.1), fun _ m' C fs => Ke C fs m'⟩
  have out : ∀ {σ : Sl} {m' : Mem} {G' : Hp} {τ : L2.St} {H' : Hp}, Ex G G' → EnvOk X c σ m' G' τ H' → OutOk K m m' G H G' H' := fun {σ m' G' τ H'} up E' => by
    refine ⟨up, E'.sub, E'.nd, E'.mem, fun a o ha hn => E'.fr a o ha fun hm => ?_, fun p hp => E'.th p.1 (List.mem_map_of_mem (f := (·.1)) hp), fun p hp => ?_, fun a o ha => ?_⟩
    · obtain ⟨p, hp, e⟩ := List.mem_map.mp hm
      exact hn p hp e
    · rcases E'.ok p hp with z | z
      · obtain ⟨q, hq, e⟩ := List.mem_map.mp z
        exact .inl ⟨q, hq, e⟩
      · exact .inr z
    · rcases E'.gn a o ha with z | z | z
      · exact .inl z
      · obtain ⟨q, hq, e⟩ := List.mem_map.mp z
        exact .inr (.inl ⟨q, hq, e⟩)
      · exact .inr (.inr z)
  have D : Def X P w K mg base N scope := ⟨rfl, rfl, rfl, rfl, rfl, rfl, rfl, fun _ => rfl, rfl, rfl⟩
  have tk : L2N.Takes X (fun cls d _ H' => E cls d H') := L2N.takes_of rfl rfl rfl rfl
  refine ⟨tSs X c body, pss_t, G, slots N rs, m, G, _, ?_, hb X c rs m Kr (fun C fs m' => Ke C fs m') ng D ⟨passes_of rfl, ?_, rfl, hr⟩ (fun _ _ _ _ z => z) h, Ex.refl G, ?_⟩
  · refine ⟨⟨Sc.nd, dbg⟩, (slots_names (by rw [hrl]; exact hpl)).symm, ?_, sub, nd, mem, fun a o ha _ => ha, fun a ha => ?_, fun p hp => .inl (List.mem_map_of_mem (f := (·.1)) hp), fun a o ha => .inl ha, Ex.refl G, fun p hp hs => ?_, fun i y r hi => ?_⟩
    · rw [start_len (by rw [← rv.length, hrl]; exact hpl)]
      have e := congrArg List.length (slots_names (N := N) (rs := rs) (by rw [hrl]; exact hpl))
      rw [List.length_map] at e
      exact e.symm
    · obtain ⟨p, hp, rfl⟩ := List.mem_map.mp ha
      obtain ⟨_, ho, hh, _⟩ := mem p hp
      rw [hh]; exact fun z => by cases z
    · -- a slot with a value is a parameter
      obtain ⟨i, hi⟩ := List.mem_iff_getElem?.mp hp
      unfold slots at hi
      rw [List.getElem?_zip_eq_some] at hi
      obtain ⟨h1, h2⟩ := hi
      have lt : i < rs.length := by
        by_cases lt : i < rs.length
        · exact lt
        · rw [List.getElem?_append_right (by simpa using Nat.le_of_not_lt lt), List.getElem?_replicate] at h2
          split at h2
          · cases h2' : p.2 with
            | none => rw [h2'] at hs; cases hs
            | some z => rw [h2'] at h2; cases h2
          · cases h2
      have hp1 : p.1 ∈ ps := by
        rw [← Sc.pre]
        exact List.mem_of_getElem? (by rw [List.getElem?_take_of_lt (by rw [← hrl]; exact lt)]; exact h1)
      rcases Sc.par _ hp1 with k | k
      · exact .inl k
      · exact .inr (.inl k)
    · unfold slots at hi
      rw [List.getElem?_zip_eq_some] at hi
      obtain ⟨h1, h2⟩ := hi
      have lt : i < rs.length := by
        by_cases lt : i < rs.length
        · exact lt
        · rw [List.getElem?_append_right (by simpa using Nat.le_of_not_lt lt), List.getElem?_replicate] at h2
          split at h2 <;> cases h2
      rw [List.getElem?_append_left (by simpa using lt), List.getElem?_map] at h2
      have hr' : rs[i]? = some r := by
        cases e : rs[i]? with
        | none => rw [e] at h2; cases h2
        | some z => rw [e] at h2; cases h2; rfl
      obtain ⟨v, hv, rv'⟩ := rv.get hr'
      refine ⟨v, ?_, rv'⟩
      unfold L2.start
      rw [List.getElem?_append_left (by rw [List.length_map, ← rv.length]; exact lt), List.getElem?_map, hv] <;> rfl
  · refine L2N.Takes.imp tk fun cls d τ H' ⟨σ, m', G', C, fs, e, z, E', hd⟩ => ?_
    subst e
    exact hE C fs m' G' H' d z (out E'.g0 E') hd
  · refine ⟨fun σ m' G' τ H' z up E' => hQ _ m' G' H' .non z (out up E') (.dat .non), fun r σ m' G' τ H' v z up E' rv' => hQ r m' G' H' v z (out up E') rv', fun _ _ _ _ _ z => z.elim, fun _ _ _ _ _ z => z.elim⟩
end
/-- the def behind a module's name keeps a promise where no guard stands -/
def CalleeR (P : Program) (w : World) (K : PySem.W.Frag) (mg : Str → Option Value) (base : Heap) (x : Str) (k : Nat) (S : Sp2) : Prop :=
  ∃ f fd ps, mg x = some (.ref f) ∧ PySem.W.keepIn K (.ref f) = true ∧ Binds K fd ps [] ∧ FnG P w K mg base (L2N.CX P w) k f fd ps (spOf K S)
section
variable {X : Cx} {c : Ct} {σ : Sl} {m : Mem} {x : Str} {S : Sp2} {k j : Nat} {e : Expr} {es : List Expr} {K : R → Mem → Prop} {p pos : Pos}
theorem de_callR (cl : CalleeR X.prog X.w X.K X.mg X.base x j S) (ng : NoG X.A) (L : Live X c k) (hg : Gl X x) (h : DA X c σ m (e :: es) (fun rs m1 => ∃ mf rest, Split m1 mf rest ∧ S rs mf (fun r m' => K r (m' ++ rest)) (fun C fs m' => c.ex σ (m' ++ rest) C fs))) (hjk : j ≤ k := by decide)
    (hdb : (x == ("__debug__" : Str)) = false := by decide) (he : starEach (e :: es) X.env = (false, eval e X.env) :: starEach es X.env := by rfl) (hpl : (backTo pos (starEach es X.env)).any (·.1) = false := by rfl) : DE X c σ m (.Call (.Name x p) (e :: es) [] pos) K := fun pins s τ H G Q I E q => by
  obtain ⟨f, fd, ps, hm, hk, hb, F⟩ := cl
  have F := F.mono hjk
  refine wpAny_Call_Name_kw (ld_glob I hg hm ?_ hdb)
  refine PySem.W.callWith_K (h₀ := X.base) I.ok.mod.kin hk (thn ((pa_t (c := c)).run pos pins s τ H _ I ⟨σ, m, G, _, E, h, fun rs m1 G1 H1 vs (hz : ∃ mf rest, Split m1 mf rest ∧ S rs mf (fun r m' => K r (m' ++ rest)) (fun C fs m' => c.ex σ (m' ++ rest) C fs)) x1 E1 rv => (show spOf X.K S vs H1 Q (WE (Wx X c) τ) from ?_)⟩) fun us s1 ⟨vs, H1, I1, r, z⟩ => ⟨I1.kIn, ?_⟩) he hpl
  · obtain ⟨mf, rest, hs, z⟩ := hz
    exact callee_sp E1 hs rv z (q.mono x1)
  · have hl : us.length = ps.length := by rw [← r.length]; exact F.len _ _ _ _ z
    have bt := hb s1 us I1.kIn (by rw [List.append_nil]; exact hl)
    rw [List.append_nil] at bt
    refine wpAny_call (codeAny_mono (F.go X.A X.stack s1 H1 ⟨us, []⟩ us vs Q _ L.room ng I1.env0 bt r z) fun rr s2 hq => ?_)
    match rr, hq with
    | .error e, hq => exact L2N.passAt L.tk τ pins H1 s1 e s2 I1 hq
    | .ok (.ret u), hq => exact I1.after hq
    | .ok .next, hq => exact hq.elim
    | .ok .brk, hq => exact hq.elim
    | .ok .cont, hq => exact hq.elim
end
/-! ### repr -/
def ShOk (pd : PyData) : Prop := pd.showable = true ∧ pd.hasDict = false ∧ pd.depth ≤ 60 ∧ pd.shown.length ≤ 1000000
section
variable {X : Cx} {c : Ct} {σ : Sl} {m : Mem} {K : R → Mem → Prop} {p pos : Pos} {e : Expr} {k : Nat}
abbrev rRepr (X : Cx) : List V → Hp → VK → Prop := fun xs H Q => ∃ a pd, xs = [.ref a] ∧ Dp X.K H (.ref a) pd ∧ ShOk pd ∧ Q (.str pd.shown) H
theorem call_reprD (ng : NoG X.A) (L : Live X c k) : CallR X (.builtin "repr") (rRepr X) := fun pins s σ H xs us Q I rv ⟨a, pd, ex, hd, ⟨h1, h2, h3, h4⟩, q⟩ => by
  subst ex
  match us, rv with
  | [u], .cons r1 .nil =>
    obtain ⟨as, rd⟩ := Dp.reads I pd _ u hd r1
    obtain rfl : u = Value.ref a := r1
    refine repr_of_reads' rd h1 (PyData.noDict_hsm h2) ng (by have := L.room.units; omega) (fun _ _ z => z) (fun h' u tk hk => ⟨.str pd.shown, H, I.kept hk, ?_, q⟩) (Nat.le_trans h4 (by decide))
    first | exact rfl | exact ⟨_, rfl⟩ | simp [RelV]
theorem boot_repr : bootBuiltins "repr" = some (.builtin "repr") := by decide +kernel
theorem d_repr (ng : NoG X.A) (L : Live X c k) (hg : Gl X "repr") (hm : X.mg "repr" = none) (h : DE X c σ m e (fun r m1 => ∃ pd, PV m1 r pd ∧ (∃ ps, pd = .list ps) ∧ ShOk pd ∧ K (rS (lit pd.shown)) m1)) (hst : starEach [e] X.env = (false, eval e X.env) :: starEach [] X.env := by rfl) : DE X c σ m (.Call (.Name "repr" p) [e] [] pos) K :=
  de_callB (call_reprD ng L) hg hm boot_repr (da_cons (h.imp fun r m1 ⟨pd, hp, ⟨ps, ep⟩, hs, z⟩ => da_nil fun τ H G vs Q E rv q => by
    subst ep
    obtain ⟨v, rfl, r1⟩ := one_of rv
    have hd := hp.dp E r1
    cases hp with | lst hv hvs =>
    obtain ⟨a, ws, rfl, hq, _⟩ := hv.at E r1
    exact ⟨a, _, rfl, hd, hs, q.now z E (.dat rep_str)⟩) hst) (he := hst)
end
end D2
/-! ## D2More -/
namespace D2
open PySem PySem.Spec PyProof.Rows L2

/-! ### fog: slots that are told no more -/
inductive Fog : Sl → Sl → Prop
  | nil : Fog [] []
  | keep {p σ σ'} : Fog σ σ' → Fog (p :: σ) (p :: σ')
  | drop {x o σ σ'} : Fog σ σ' → Fog ((x, o) :: σ) ((x, none) :: σ')
theorem Fog.refl : ∀ σ : Sl, Fog σ σ
  | [] => .nil
  | _ :: σ => .keep (Fog.refl σ)
theorem Fog.names {σ σ' : Sl} (h : Fog σ σ') : σ'.map (·.1) = σ.map (·.1) := by
  induction h with
  | nil => rfl
  | keep _ ih => simp [ih]
  | drop _ ih => simp [ih]
theorem Fog.at {σ σ' : Sl} (h : Fog σ σ') : ∀ {i : Nat} {x : Str} {r : R}, σ'[i]? = some (x, some r) → σ[i]? = some (x, some r) := by
  induction h with
  | nil => intro i x r e; simp at e
  | keep _ ih =>
    intro i x r e
    cases i with
    | zero => exact e
    | succ i => simp at e ⊢; exact ih e
  | drop _ ih =>
    intro i x r e
    cases i with
    | zero => simp at e
    | succ i => simp at e ⊢; exact ih e
section
variable {X : Cx} {c : Ct} {σ σ' : Sl} {m m' : Mem} {G : Hp} {τ : L2.St} {H : Hp} {st : Stmt} {sts : List Stmt} {en : En} {e : Expr} {K : R → Mem → Prop}
theorem EnvOk.fog (E : EnvOk X c σ m G τ H) (h : Fog σ σ') : EnvOk X c σ' m G τ H := by
  refine ⟨E.nm, by rw [h.names]; exact E.names, ?_, E.sub, E.nd, E.mem, E.fr, E.th, E.ok, E.gn, E.g0, fun p hp hs => ?_, fun i x r hi => E.sl i x r (h.at hi)⟩
  · have z := congrArg List.length h.names
    rw [List.length_map, List.length_map] at z
    rw [E.len, z]
  · obtain ⟨i, hi⟩ := List.mem_iff_getElem?.mp hp
    obtain ⟨x, o⟩ := p
    cases o with
    | none => cases hs
    | some r => exact E.vis (x, some r) (List.mem_of_getElem? (h.at hi)) rfl
theorem EnvOk.less (E : EnvOk X c σ m G τ H) (h : m'.Sublist m) : EnvOk X c σ m' G τ H := E.drop (fun p hp => h.subset hp) ((h.map _).nodup E.nd)
/-- told less: slots in fog, owned objects let go -/
abbrev Lo (P : Sl → Mem → Prop) : Sl → Mem → Prop := fun σ m => ∃ σ2 m2, Fog σ σ2 ∧ m2.Sublist m ∧ P σ2 m2
abbrev LoR (P : R → Mem → Prop) : R → Mem → Prop := fun r m => ∃ m2, m2.Sublist m ∧ P r m2
abbrev lo (en : En) : En := { nx := Lo en.nx, rt := LoR en.rt, bk := Lo en.bk, ct := Lo en.ct }
theorem Fit.lo {F : Hp} {D : Ends} (f : Fit X c F D en) : Fit X c F D (lo en) := by
  refine ⟨fun σ m G τ H ⟨σ2, m2, a, b, h⟩ x E => f.nx σ2 m2 G τ H h x ((E.fog a).less b), fun r σ m G τ H v ⟨m2, b, h⟩ x E rv => f.rt r σ m2 G τ H v h x (E.less b) rv,
    fun σ m G τ H ⟨σ2, m2, a, b, h⟩ x E => f.bk σ2 m2 G τ H h x ((E.fog a).less b), fun σ m G τ H ⟨σ2, m2, a, b, h⟩ x E => f.ct σ2 m2 G τ H h x ((E.fog a).less b)⟩
theorem dss_lo (h : DSs X c σ m sts (lo en)) : DSs X c σ m sts en := fun F pins s τ H G D I E x f => h F pins s τ H G D I E x f.lo
theorem ds_lo (h : DS X c σ m st (lo en)) : DS X c σ m st en := fun F pins s τ H G D I E x f => h F pins s τ H G D I E x f.lo
theorem lo_i {P : Sl → Mem → Prop} (h : P σ m) : Lo P σ m := ⟨σ, m, Fog.refl σ, List.Sublist.refl m, h⟩
theorem lor_i {P : R → Mem → Prop} {r : R} (h : P r m) : LoR P r m := ⟨m, List.Sublist.refl m, h⟩
theorem de_lo (h : DE X c σ m e (LoR K)) : DE X c σ m e K := de_sub h
/-- begin with less -/
theorem dss_in (h : DSs X c σ' m' sts en) (a : Fog σ σ') (b : m'.Sublist m) : DSs X c σ m sts en := fun F pins s τ H G D I E x f => h F pins s τ H G D I ((E.fog a).less b) x f
theorem ds_in (h : DS X c σ' m' st en) (a : Fog σ σ') (b : m'.Sublist m) : DS X c σ m st en := fun F pins s τ H G D I E x f => h F pins s τ H G D I ((E.fog a).less b) x f
/-- one statement, then the others from a told place -/
theorem dss_cut {σ1 : Sl} {m1 : Mem} (h : DS X c σ m st (nxTo en fun σ' m' => σ' = σ1 ∧ m' = m1)) (h2 : DSs X c σ1 m1 sts en) : DSs X c σ m (st :: sts) en := dss_cons (fun F pins s τ H G D I E x f => h F pins s τ H G D I E x ⟨fun σ m G τ H ⟨a, b⟩ y E' => f.nx σ m G τ H (by subst a b; exact h2) y E', f.rt, f.bk, f.ct⟩)
end
theorem ati_l {α : Type} {xs : List α} {n : Nat} {v : α} (h : xs[n]? = some v) : atI xs (Int.ofNat n) = some v := ati n h rfl
theorem nil_len {α : Type} (xs : List α) : (xs = []) = (xs.length = 0) := propext List.length_eq_zero_iff.symm
theorem sub_nil {m : Mem} : ([] : Mem).Sublist m := List.nil_sublist m

/-! ### ints -/
theorem cm_l {i j : Int} (h1 : -18446744073709551616 < i) (h2 : i < 18446744073709551616) : CMul i j := .inl ⟨h1, h2⟩
theorem cm_r {i j : Int} (h1 : -18446744073709551616 < j) (h2 : j < 18446744073709551616) : CMul i j := .inr ⟨h1, h2⟩
theorem cd_s {i j : Int} (h1 : 0 < j) (h2 : j < 18446744073709551616) : CDivW i j := ⟨h1, by
  have e : j.natAbs < 2 ^ 64 := by
    have : (2 : Nat) ^ 64 = 18446744073709551616 := by decide
    omega
  exact Nat.lt_trans (PySem.Flt.log2_lt_of (by decide) e) (by decide)⟩

section
variable {X : Cx} {c : Ct} {σ σ' : Sl} {m m' : Mem} {K : R → Mem → Prop} {a b : Expr} {k : Nat}
/-! ### lists of ints, of texts -/
theorem ati_map {α : Type} {f : α → R} {xs : List α} {i : Int} {d : α} (h : 0 ≤ i ∧ i < xs.length) : atI (xs.map f) i = some (f (xs.getD i.toNat d)) := by
  refine ati i.toNat ?_ (by omega)
  have hl : i.toNat < xs.length := by omega
  rw [List.getElem?_map, List.getElem?_eq_getElem hl, List.getD_eq_getElem?_getD, List.getElem?_eq_getElem hl]
  rfl
/-- seen as a list of ints -/
def VI (m : Mem) (r : R) (xs : List Int) : Prop := VL m r (xs.map rI)
def VS (m : Mem) (r : R) (xs : List (List Nat)) : Prop := VL m r (xs.map rS)
theorem vi_dat {xs : List Int} : VI m (.dat (.lst (dI xs))) xs := vl_I
theorem vs_dat {xs : List (List Nat)} : VS m (.dat (.lst (dS xs))) xs := vl_S
theorem vi_own {p : Addr} {xs : List Int} (h : Has m p (.lst (xs.map rI)) m') : VI m (.own p) xs := .own h
theorem vs_own {p : Addr} {xs : List (List Nat)} (h : Has m p (.lst (xs.map rS)) m') : VS m (.own p) xs := .own h
theorem vi_nil {r : R} (h : VL m r []) : VI m r [] := h
theorem vs_nil {r : R} (h : VL m r []) : VS m r [] := h
theorem ln_I {r : R} {xs : List Int} (h : VI m r xs) : Ln m r xs.length := by
  have z : Ln m r (xs.map rI).length := .lst h
  rw [List.length_map] at z; exact z
theorem ln_S {r : R} {xs : List (List Nat)} (h : VS m r xs) : Ln m r xs.length := by
  have z : Ln m r (xs.map rS).length := .lst h
  rw [List.length_map] at z; exact z
theorem x_I {r : R} {xs : List Int} {i : Int} (h : VI m r xs) (hi : 0 ≤ i ∧ i < xs.length) (k : K (rI (xs.getD i.toNat 0)) m) : IX X c σ m a b r (rI i) K := x_lst h (ati_map hi) k
theorem x_S {r : R} {xs : List (List Nat)} {i : Int} (h : VS m r xs) (hi : 0 ≤ i ∧ i < xs.length) (k : K (rS (xs.getD i.toNat [])) m) : IX X c σ m a b r (rI i) K := x_lst h (ati_map hi) k
theorem x_ch {s : List Nat} {i : Int} (hl : s.length ≤ 1000000) (hi : 0 ≤ i ∧ i < s.length) (k : K (rS [s.getD i.toNat 0]) m) : IX X c σ m a b (rS s) (rI i) K := by
  refine x_str hl ?_ k
  refine ati i.toNat ?_ (by omega)
  have hl : i.toNat < s.length := by omega
  rw [List.getElem?_eq_getElem hl, List.getD_eq_getElem?_getD, List.getElem?_eq_getElem hl]
  rfl
theorem o_eqLI {r1 r2 : R} {xs ys : List Int} (L : Live X c k) (h1 : VI m r1 xs) (h2 : VI m r2 ys) (kk : K (rB (decide (xs = ys))) m) : OP X c σ m (compareOp .Eq) r1 r2 K :=
  o_eqD L (.lst h1 (pvs_int m xs)) (.lst h2 (pvs_int m ys)) (eqok_ints xs) (eqok_ints ys) (by rw [PyData.eqv, eqv_ints]; exact kk)
theorem o_neLI {r1 r2 : R} {xs ys : List Int} (L : Live X c k) (h1 : VI m r1 xs) (h2 : VI m r2 ys) (kk : K (rB (!decide (xs = ys))) m) : OP X c σ m (compareOp .NotEq) r1 r2 K :=
  o_neD L (.lst h1 (pvs_int m xs)) (.lst h2 (pvs_int m ys)) (eqok_ints xs) (eqok_ints ys) (by rw [PyData.eqv, eqv_ints]; exact kk)
theorem o_eqLS {r1 r2 : R} {xs ys : List (List Nat)} (L : Live X c k) (h1 : VS m r1 xs) (h2 : VS m r2 ys) (kk : K (rB (decide (xs = ys))) m) : OP X c σ m (compareOp .Eq) r1 r2 K :=
  o_eqD L (.lst h1 (pvs_str m xs)) (.lst h2 (pvs_str m ys)) (eqok_strs xs) (eqok_strs ys) (by rw [PyData.eqv, eqv_strs]; exact kk)
theorem o_neLS {r1 r2 : R} {xs ys : List (List Nat)} (L : Live X c k) (h1 : VS m r1 xs) (h2 : VS m r2 ys) (kk : K (rB (!decide (xs = ys))) m) : OP X c σ m (compareOp .NotEq) r1 r2 K :=
  o_neD L (.lst h1 (pvs_str m xs)) (.lst h2 (pvs_str m ys)) (eqok_strs xs) (eqok_strs ys) (by rw [PyData.eqv, eqv_strs]; exact kk)
end
/-- the place is this -/
abbrev Iv (sl : Sl) (me : Mem) : Sl → Mem → Prop := fun σ m => σ = sl ∧ m = me
theorem lo_iv {sl σ : Sl} {me m : Mem} (a : Fog σ sl) (b : me.Sublist m) : Lo (Iv sl me) σ m := ⟨sl, me, a, b, rfl, rfl⟩
/-! ### a body by its places -/
section
variable {X : Cx} {c : Ct} {σ : Sl} {m : Mem} {en : En} {B : List Stmt} {j : Nat} {st : Stmt}
theorem dss_at (hB : B[j]? = some st) (h : DS X c σ m st (nxTo en fun σ' m' => DSs X c σ' m' (B.drop (j + 1)) en)) : DSs X c σ m (B.drop j) en := by
  obtain ⟨hj, e⟩ := List.getElem?_eq_some_iff.mp hB
  rw [List.drop_eq_getElem_cons hj, e]
  exact dss_cons h
theorem dss_end (hB : B[j]? = none) (h : en.nx σ m) : DSs X c σ m (B.drop j) en := by
  rw [List.drop_of_length_le (List.getElem?_eq_none_iff.mp hB)]
  exact dss_nil h
theorem dss_go (h : DSs X c σ m (B.drop 0) en) : DSs X c σ m B en := h
end
/-! ### a def's facts -/
section
variable {X : Cx} {P : Program} {w : World} {K : PySem.W.Frag} {mg : Str → Option Value} {base : Heap} {N : List Str} {sc : Scope} {x : Str} {k : Nat} {S : Sp2}
theorem Def.own (D : Def X P w K mg base N sc) (h : sc.names.lookup x = some .local ∨ sc.names.lookup x = some .cell) : Own X x := by
  refine ⟨?_, .inl (D.fn x)⟩
  show X.env.scope.names.lookup x = some .local ∨ X.env.scope.names.lookup x = some .cell
  rw [D.sc]; exact h
theorem Def.gl (D : Def X P w K mg base N sc) (h : sc.names.lookup x = some .globalImplicit) : Gl X x := by
  show X.env.scope.names.lookup x = _
  rw [D.sc]; exact h
theorem Def.mg_ (D : Def X P w K mg base N sc) {o : Option Value} (h : mg x = o) : X.mg x = o := by rw [D.mg]; exact h
theorem Def.callee (D : Def X P w K mg base N sc) (h : CalleeG P w K mg base x k S) : Callee X x k S := by
  show CalleeG X.prog X.w X.K X.mg X.base x k S
  rw [D.prog, D.w, D.K, D.mg, D.base]; exact h
theorem Def.nd (D : Def X P w K mg base N sc) (h : N.Nodup) : X.N.Nodup := by rw [D.N]; exact h
end
/-! ### comprehensions' facts, by their scopes -/
section
variable {X : Cx} {P : Program} {w : World} {K : PySem.W.Frag} {mg : Str → Option Value} {base : Heap} {N : List Str} {sc scope : Scope} {own : List (Str × Nat)}
def BlkB (N : List Str) (sc scope : Scope) (own : List (Str × Nat)) : Bool :=
  decide (scope.kind = .function) && scope.names.all (fun y => decide (scope.names.lookup y.1 = some y.2)) && own.all (fun p => decide (N[p.2]? = some p.1)) &&
    scope.names.all (fun y => !decide (y.2 = .free) || decide (sc.names.lookup y.1 = some .cell ∨ sc.names.lookup y.1 = some .free)) &&
    scope.names.all (fun y => !decide (y.2 = .local ∨ y.2 = .cell) || decide (y.1 ∈ own.map (·.1)) || decide (y.1 ∉ N))
theorem blk_ok (D : Def X P w K mg base N sc) (h : BlkB N sc scope own = true) : BlkOk X.N X.env.scope scope own := by
  rw [D.N, D.sc]
  unfold BlkB at h
  simp only [Bool.and_eq_true, List.all_eq_true, decide_eq_true_eq, Bool.or_eq_true, Bool.not_eq_true', decide_eq_false_iff_not] at h
  obtain ⟨⟨⟨⟨h1, h2⟩, h3⟩, h4⟩, h5⟩ := h
  refine ⟨h1, h2, h3, fun y hy e => (h4 y hy).elim (fun z => absurd e z) id, fun y hy e => ?_⟩
  rcases h5 y hy with (z | z) | z
  · exact absurd e z
  · exact .inl z
  · exact .inr z
end
theorem cutL_map {α β : Type} (f : α → β) (xs : List α) (lo hi : Option Int) : cutL (xs.map f) lo hi = (cutL xs lo hi).map f := by
  unfold cutL
  rw [List.length_map, List.map_take, List.map_drop]
theorem cut_dI (xs : List Int) (lo hi : Option Int) : cutL ((dI xs).map R.dat) lo hi = (dI (cutL xs lo hi)).map R.dat := by
  unfold dI
  rw [cutL_map, cutL_map]
theorem cut_len {α : Type} (xs : List α) (lo hi : Option Int) : (cutL xs lo hi).length ≤ xs.length := by
  unfold cutL
  rw [List.length_take, List.length_drop]
  omega
theorem dI_at {xs : List Int} {i : Nat} {d : D} (h : (dI xs)[i]? = some d) : ∃ hi : i < xs.length, d = .int xs[i] := by
  unfold dI at h
  rw [List.getElem?_map] at h
  cases e : xs[i]? with
  | none => rw [e] at h; cases h
  | some v => rw [e] at h; cases h; obtain ⟨hi, e2⟩ := List.getElem?_eq_some_iff.mp e; exact ⟨hi, by rw [e2]⟩
theorem dS_at {xs : List (List Nat)} {i : Nat} {d : D} (h : (dS xs)[i]? = some d) : ∃ hi : i < xs.length, d = .str xs[i] := by
  unfold dS at h
  rw [List.getElem?_map] at h
  cases e : xs[i]? with
  | none => rw [e] at h; cases h
  | some v => rw [e] at h; cases h; obtain ⟨hi, e2⟩ := List.getElem?_eq_some_iff.mp e; exact ⟨hi, by rw [e2]⟩
theorem dI_len (xs : List Int) : (dI xs).length = xs.length := by simp [dI]
theorem dS_len (xs : List (List Nat)) : (dS xs).length = xs.length := by simp [dS]
theorem str_item {s : List Nat} {i : Nat} {d : D} (h : (s.map fun ch => D.str [ch])[i]? = some d) : ∃ hi : i < s.length, d = .str [s[i]] := by
  rw [List.getElem?_map] at h
  cases e : s[i]? with
  | none => rw [e] at h; cases h
  | some ch => rw [e] at h; cases h; obtain ⟨hi, e2⟩ := List.getElem?_eq_some_iff.mp e; exact ⟨hi, by rw [e2]⟩
theorem take_snoc {α : Type} {s : List α} {i : Nat} (hi : i < s.length) : s.take (i + 1) = s.take i ++ [s[i]] := by
  rw [List.take_succ, List.getElem?_eq_getElem hi]; rfl
/-- a turn without tests -/
theorem turn0 {X : Cx} {scope : Scope} {k : Nat} {σ2 : Sl} {m : Mem} {elt : Expr} {yes : R → Mem → Prop} {no : Mem → Prop} (h : ∀ Xe c', IsBlk X scope Xe → Live Xe c' k → DE Xe c' σ2 m elt yes) : Turn1 X scope k σ2 m [] elt yes no :=
  fun _ c' _ _ => ⟨fun _ Xe hX hL => h Xe c' hX hL, fun z => by cases z⟩
/-- a turn with one -/
theorem turn1 {X : Cx} {scope : Scope} {k : Nat} {σ2 : Sl} {m : Mem} {elt t : Expr} {yes : R → Mem → Prop} {no : Mem → Prop} (h : ∀ Xb c', IsBlk X scope Xb → Live Xb c' k → DT Xb c' σ2 m t (fun b m2 => (b = true → ∀ Xe, IsBlk X scope Xe → Live Xe c' k → DE Xe c' σ2 m2 elt yes) ∧ (b = false → no m2))) : Turn1 X scope k σ2 m [t] elt yes no :=
  fun Xb c' hX hL => h Xb c' hX hL
theorem do_none {X : Cx} {c : Ct} {σ : Sl} {m : Mem} {K : Option Int → Mem → Prop} (h : K none m) : DO X c σ m none K := h
theorem do_some {X : Cx} {c : Ct} {σ : Sl} {m : Mem} {e : Expr} {K : Option Int → Mem → Prop} (h : DE X c σ m e (fun r m1 => ∃ i, r = rI i ∧ K (some i) m1)) : DO X c σ m (some e) K := h
section
variable {X : Cx} {c : Ct} {σ : Sl} {m : Mem} {K : R → Mem → Prop} {a b : Expr}
def VB (m : Mem) (r : R) (xs : List Bool) : Prop := VL m r (xs.map rB)
theorem vb_own {p : Addr} {m' : Mem} {xs : List Bool} (h : Has m p (.lst (xs.map rB)) m') : VB m (.own p) xs := .own h
theorem x_B {r : R} {xs : List Bool} {i : Int} (h : VB m r xs) (hi : 0 ≤ i ∧ i < xs.length) (k : K (rB (xs.getD i.toNat false)) m) : IX X c σ m a b r (rI i) K := x_lst h (ati_map hi) k
end
theorem ixN_ok {n : Nat} {i : Int} (h0 : 0 ≤ i) (h1 : i < n) : ixN n i = some i.toNat := by
  unfold ixN
  rw [if_pos h0, if_pos h1]
theorem dns_at {lo cc : Int} {n i : Nat} {d : D} (h : (dns lo cc n)[i]? = some d) : i < n ∧ d = .int (lo + (i : Int) * cc) := by
  unfold dns at h
  rw [List.getElem?_map] at h
  by_cases hi : i < n
  · rw [List.getElem?_range hi] at h; cases h; exact ⟨hi, rfl⟩
  · rw [List.getElem?_eq_none (by simpa using Nat.le_of_not_lt hi)] at h; cases h
theorem dns_len (lo cc : Int) (n : Nat) : (dns lo cc n).length = n := by simp [dns]
end D2
/-! ## D2Sup -/
/-! super().__init__(..) as the first row of an __init__ of a class over ValueError -/
namespace D2
open PySem PySem.Spec PyProof.Rows L2 NdefX

/-- what the written part tells of such an __init__ of the class at C -/
structure SupD (P : Program) (K : PySem.W.Frag) (x qual : Str) (params : Arguments) (body : List Stmt) (scope : Scope) (C f : Addr) (F : NF) (fd : FuncData) : Prop where
  nf : F.name = x ∧ F.qual = qual ∧ F.params = params ∧ F.body = body ∧ F.scope = scope
  at_ : ∃ oc od osl, K.lookup f = some ⟨oc, od, .func fd, osl⟩
  fd : ∃ doc pm ctv, fd = F.fd doc pm ctv
  cl : ∃ cc cl cld csl, F.cl = [(("__class__" : Str), cc)] ∧ K.lookup cc = some ⟨cl, cld, .cell (some (.ref C)), csl⟩
  code : PySem.W.codeIn K (.ref F.c) qual = true
  file : ∃ ccl cdd vs ccs file tf, K.lookup F.c = some ⟨ccl, cdd, .fields vs, ccs⟩ ∧ vs[2]? = some (.str file tf) ∧ ((P.main.file : Str) == file) = true
  oex : OexC K C
  ini : PySem.W.ks_superIn K C C "__init__" = some (some (.builtin "ValueError.__init__"))
  isV : PySem.W.subIn K (.ref C) (.type "ValueError") = some true
  opq : PySem.W.nsIn K cStatics "thirdparty.any" = some none
  self : PySem.W.mroIn K C (.ref C) = some true
  cls : ∃ cd, PySem.W.clsIn K C = some cd
  kp : PySem.W.keepIn K (.ref f) = true
  top : (P.main.scope.names.lookup ("super" : Str)).isSome = false

section
variable {CX : CXT} {P : Program} {w : World} {K : PySem.W.Frag} {mg : Str → Option Value} {base : Heap} {x qual : Str} {params : Arguments} {body : List Stmt} {scope : Scope} {C f : Addr} {F : NF} {fd : FuncData} {k : Nat} {sp : Sp} {N ps : List Str}
/-- the bound __init__ is called: the object stands as it stood -/
theorem call_mw {X : Cx} {pins : List (Addr × Obj)} {σ : L2.St} {H : Hp} {s : Shared} {A : Around} {E : Value → Shared → Prop} {u a : Addr} {us : List Value} {Q : Value → Shared → Prop} (T : OexC X.K C) (I : Inv X pins σ H s) (e : H a = some (exo a C none)) (hu : s.heap.get? u = some (PySem.W.kxs_mw "ValueError.__init__" a)) (hl : us.length ≤ sizeLine)
    (h : ∀ s', Inv X pins σ H s' → Q .none s') : wpAny (model X.prog X.w) A (call (.ref u) us) Q E s := by
  obtain ⟨nm, q, N, bs, bm, sn, sub, ab, col, dd, k0, k1, k2, k3, k5, hC, hbm⟩ := T.cls
  obtain ⟨t1, ho⟩ := exo_at I.hok e
  have hCh := I.kIn _ _ hC
  obtain ⟨hp, g, d, t, os⟩ := s
  have FB := PySem.F.excBase_ValueError
  refine wpAny_call (codeAny_of_tree ?_)
  show wpAny _ A.in1 (callAny (.ref u) ⟨us, []⟩) _ _ _
  simp only [callAny]
  refine wpAny_bind (wpAny_load hu ?_)
  have e1 : (Value.type "method-wrapper" == Value.type "method" || Value.type "method-wrapper" == Value.type "builtin_function_or_method" || Value.type "method-wrapper" == Value.type "method-wrapper") = true := by decide
  simp only [PySem.W.kxs_mw, e1, if_true]
  refine PySem.W.KFB.if_so (by decide) ?_
  refine wpAny_bind (PySem.W.check_bound_init FB.toExcCallFacts hCh ho rfl ?_)
  refine wpAny_bind (wpAny_pure (wpAny_pure ?_))
  refine ⟨plainId_quiet FB.init.plain _, codeAny_builtin FB.initEntry ?_⟩
  refine PySem.W.exc_init_tree (cls := .ref C) (t0 := t1) (dv := none) (c2 := .none) (c3 := .none) (b4 := .bool false) ho hl fun h' k hx _ => ?_
  have J := I.write (t' := t) (x := a) (e := a) (o := exo a C none) (by rw [e]; exact True.intro) (.inl rfl) k ⟨_, hx⟩ (exo_ok hx)
  have eu : upd H a (exo a C none) = H := funext fun b => by
    by_cases hb : b = a
    · rw [hb, upd_same, e]
    · exact upd_ne hb
  rw [eu] at J
  exact h _ J
abbrev s0F (N : List Str) (vs : List V) (C : Addr) : L2.St := startF N vs [some (.ref C)]
theorem fn_sup {pl : Env → Sem Bool} {e : Expr} {es : List Expr} {rest : List Stmt} {y : Str} {ps' : List Str} {ar : Arg} {p0 p1 p2 p3 p4 : Pos} (D : SupD P K x qual params body scope C f F fd) (S : NScope N (y :: ps') ["__class__"] scope) (hy : (params.posonlyargs ++ params.args).head? = some ar) (hy2 : ar.arg = y)
    (hsu : scope.names.lookup ("super" : Str) = some .globalImplicit) (hm : mg "super" = none) (hbd : body = .Expr (.Call (.Attribute (.Call (.Name "super" p0) [] [] p1) "__init__" p2) (e :: es) [] p3) p4 :: rest)
    (hev : ∀ env : Env, eval (.Call (.Attribute (.Call (.Name "super" p0) [] [] p1) "__init__" p2) (e :: es) [] p3) env = (do
      let ov ← attributeBase (.Call (.Name "super" p0) [] [] p1) "__init__" env (eval (.Call (.Name "super" p0) [] [] p1) env)
      standAt p2.atName
      let (f, first) ← holding [ov] (getMethod ov "__init__" (pl env))
      callWith p3 f first (backTo p3 (starEach (e :: es) env)) []))
    (len : ∀ vs H Q E, sp vs H Q E → vs.length = (y :: ps').length)
    (hst : ∀ env : Env, starEach (e :: es) env = (false, eval e env) :: starEach es env) (hpl : ∀ (env : Env) (p : Pos), (backTo p (starEach es env)).any (·.1) = false)
    (hbody : ∀ (A : Around) (outer : List Env) (s : Shared) (H : Hp) (vs : List V) (Q : VK) (E : XK), Room k (A.deeper (envF F f s.heap.objs.size)) → sp vs H Q E →
      ∃ a vs' ta tr, vs = .ref a :: vs' ∧ H a = some (exo a C none) ∧ PA (ncx CX P w K mg base N F f A outer s H E) (e :: es) ta ∧ PSs (ncx CX P w K mg base N F f A outer s H E) rest tr ∧
        ta (s0F N vs C) H fun ws H1 => ws.length ≤ 1000 ∧ H1 a = some (exo a C none) ∧ tr { nx := fun _ H' => Q .non H', rt := Q } (s0F N vs C) H1) :
    FnOk P w K mg base CX (k + 1) f fd (y :: ps') sp := by
  refine ⟨len, fun A outer s H args us vs Q E hr e0 hb r hsp => ?_⟩
  have hl := len _ _ _ _ hsp
  obtain ⟨doc, pm, ctv, rfl⟩ := D.fd
  obtain ⟨oc, od, osl, lk⟩ := D.at_
  obtain ⟨n1, n2, n3, n4, n5⟩ := D.nf
  obtain ⟨cc, cl, cld, csl, hcl, hcell⟩ := D.cl
  have KX : K.In s.heap := e0.mod.kin.keeps fun b o z => (e0.bs b o z).1
  have lim : s.heap.NoLimit := e0.mod.nolimit.keeps fun b o z => (e0.bs b o z).1
  have hcd := D.code
  rw [← n2] at hcd
  have S' : NScope N (y :: ps') ["__class__"] F.scope := by rw [n5]; exact S
  refine codeAny_call_function hr.depth (KX _ _ lk) rfl S'.co S'.gen rfl (PySem.W.codeRec_of KX hcd) (hb _ _ _ _ ?_)
  refine wpAny_newFunctionEnv S'.nocell (fun ⟨n, _⟩ hn => S'.par n (List.of_mem_zip hn).1) (fun h₁ hns hsb => ⟨lim.fresh _ hsb, ?_⟩) S'.kind
  show codeAny _ _ (.func F.body (envF F f s.heap.objs.size)) _ _
  refine ks_codeAny_funcAt ?_
  have kp : ∀ b o, s.heap.get? b = some o → h₁.get? b = some o := fun b o z => hsb.extBut b o (Nat.ne_of_lt (Heap.lt_size z)) (Heap.get?_push_of_some _ z)
  have cellS : s.heap.IsCell cc (some (.ref C)) := ⟨_, KX _ _ hcell, rfl⟩
  have bcc := (e0.bs cc _ (e0.mod.kin _ _ hcell)).2
  have CA : CellsAt F.cl ["__class__"] [some (.ref C)] s.heap H := by
    rw [hcl]
    have one : ∀ {z : Str} {c : Addr}, List.lookup z [(("__class__" : Str), cc)] = some c → z = "__class__" ∧ c = cc := fun {z c} q => by
      rw [List.lookup_cons] at q
      cases hz : (z == ("__class__" : Str)) with
      | true => rw [hz] at q; exact ⟨beq_iff_eq.mp hz, (Option.some.inj q).symm⟩
      | false => rw [hz] at q; cases q
    refine ⟨rfl, fun z c q => ?_, fun a b c qa qb => ?_, fun i z hi => ?_⟩
    · obtain ⟨_, rfl⟩ := one q
      exact ⟨bcc, _, cellS⟩
    · rw [(one qa).1, (one qb).1]
    · match i, hi with
      | 0, hi =>
        cases hi
        refine ⟨cc, rfl, fun v hv => ?_⟩
        cases hv
        exact ⟨_, rfl, cellS⟩
  obtain ⟨a, vs', ta, tr, rfl, ea, hta, htr, q⟩ := hbody A outer s H vs Q E (hr.deeper _) hsp
  have I : Inv (ncx CX P w K mg base N F f A outer s H E) [] (s0F N (.ref a :: vs') C) H { s with heap := h₁, toks := s.toks + ((y :: ps').zip us).length } := inv_startN S' hr.hd e0 hl r CA hns kp
  have ndP : (y :: ps').Nodup := by
    have q := S'.nd.sublist (List.take_sublist ((y :: ps').length + [("__class__" : Str)].length) N)
    rw [S'.pre] at q
    exact (List.nodup_append.mp q).1
  obtain ⟨mb, hmb, hbt⟩ := e0.mod.blt
  have bs1 : ∀ b o, base.get? b = some o → h₁.get? b = some o := fun b o z => kp b o (e0.bs b o z).1
  have K1 : K.In h₁ := fun b o z => kp b o (KX b o z)
  cases r with
  | @cons _ u0 _ us' r0 rr =>
  obtain rfl : u0 = Value.ref a := r0
  have hself : ((y :: ps').zip (Value.ref a :: us')).reverse.lookup y = some (Value.ref a) := zip_look (i := 0) ndP rfl rfl
  obtain ⟨t1, ho⟩ := exo_at I.hok ea
  obtain ⟨cd, hcls⟩ := D.cls
  have IA : PySem.W.InstAt h₁ a _ C none := ⟨ho, rfl, rfl, trivial⟩
  obtain ⟨oD, hD1, hD2⟩ : ∃ oD, h₁.get? C = some oD ∧ oD.data = .cls cd := by
    have z := hcls
    unfold PySem.W.clsIn at z
    split at z
    · rename_i c0 d0 cd0 sl0 hk0
      cases z
      exact ⟨_, K1 _ _ hk0, rfl⟩
    · cases z
  obtain ⟨ccl, cdd, vs2, ccs, file, tf, hk2, hv2, hfile⟩ := D.file
  have hks : (envF F f s.heap.objs.size).kindOf ("super" : Str) = some .globalImplicit := by show F.scope.names.lookup _ = _; rw [n5]; exact hsu
  have hkc : (envF F f s.heap.objs.size).kindOf ("__class__" : Str) = some .free := S'.frk _ (List.mem_singleton.mpr rfl)
  have hka : (envF F f s.heap.objs.size).kindOf ar.arg = some .local := by rw [hy2]; exact S'.par y List.mem_cons_self
  rw [n4, hbd]
  refine ks_wpAt_execs_cons (ks_wpAt_Expr_any (ks_wpAt_MethodCall (ks_wpAt_super_base hks hkc (by decide) rfl (K1 _ _ lk) rfl (by rw [← n3] at hy; exact hy) rfl (K1 _ _ hk2) rfl hv2 hfile D.top ?_) (he := hev _)) (hi := I.quiet))
  refine PySem.W.ks_loadName_global S'.kind hks (PySem.Calls.loadGlobal_builtin (env := envF F f s.heap.objs.size) (e0.mod.glob.keeps bs1) hm (hmb.keeps bs1) ((hbt _ (by decide)).trans (by decide +kernel : bootBuiltins ("super" : Str) = some (.type "super"))) ⟨rfl, ?_⟩)
  refine wpAny_loadName_free S'.kind hkc (c := cc) (v := .ref C) (by show F.cl.lookup _ = _; rw [hcl]; rfl) ⟨_, K1 _ _ hcell, rfl⟩ ?_
  refine wpAny_loadName_local S'.kind hka (m := fun z => ((y :: ps').zip (Value.ref a :: us')).reverse.lookup z) (v := .ref a) hns (by rw [hy2]; exact hself) ?_
  refine ks_wpAny_isType_cls hD1 hD2 ⟨rfl, ?_⟩
  refine ks_wpAny_call_super hD1 hD2 ho rfl (fun c z => by cases z) (PySem.W.looks_mroIn K1 D.self) fun h2 e2 k2 => ?_
  have K2 : K.In h2 := fun b o z => k2 b o (K1 b o z)
  have hini := D.ini
  unfold PySem.W.ks_superIn at hini
  rw [hcls, Option.bind_some] at hini
  have IA2 : PySem.W.InstAt h2 a _ C none := ⟨k2 _ _ ho, rfl, rfl, trivial⟩
  have I2 := I.kept (t' := s.toks + ((y :: ps').zip (Value.ref a :: us')).length) k2
  refine PySem.W.kxs_getMethod PySem.W.kxs_ValueError e2 (PySem.W.looks_opaque K2 D.opq) (l₀ := cd.mro) (fun A Q E s k q => wpAny_bind ((PySem.W.looks_clsIn K2 hcls) A _ E s k (wpAny_pure q))) rfl K2 hini (IA2.type.andThen (PySem.W.looks_subIn K2 D.isV)) (PySem.W.ks_ne K2 IA2 hcls) (by decide) ?_
  -- the wrapper stands, pinned
  have k3 : ∀ b o, h2.get? b = some o → (h2.push (PySem.W.kxs_mw "ValueError.__init__" a)).get? b = some o := fun b o z => Heap.get?_push_of_some _ z
  have I3 := I2.kept (t' := s.toks + ((y :: ps').zip (Value.ref a :: us')).length + 1) k3
  have hu : (h2.push (PySem.W.kxs_mw "ValueError.__init__" a)).get? h2.objs.size = some (PySem.W.kxs_mw "ValueError.__init__" a) := Heap.get?_push_size _ rfl
  have hn : H h2.objs.size = none := I2.hok.fresh (Nat.le_refl _)
  have fp := I2.fpOk (H' := H) (b := h2.objs.size) (Nat.le_refl _) hn
  have I4 : Inv (ncx CX P w K mg base N F f A outer s H E) [(h2.objs.size, PySem.W.kxs_mw "ValueError.__init__" a)] (s0F N (.ref a :: vs') C) H _ := I3.pins_of fun p hp => by
    rw [List.mem_singleton.mp hp]
    exact ⟨hu, hn, fp.2.1, fp.2.2.1, fun v z => by cases z⟩
  show wpAny _ _ (callWith _ (.ref h2.objs.size) [] (backTo p3 (starEach (e :: es) (envF F f s.heap.objs.size))) []) _ _ _
  rw [hst]
  refine PySem.W.kxs_callWith (i := "ValueError.__init__") (x := a) (by show (false || (backTo p3 (starEach es (envF F f s.heap.objs.size))).any (·.1)) = false; rw [hpl]; rfl) ?_
  have hta2 := hta.run p3 _ _ _ _ _ I4 q
  rw [show (ncx CX P w K mg base N F f A outer s H E).env = envF F f s.heap.objs.size from rfl, hst] at hta2
  refine PySem.Calls.evalArgs_plain (thn hta2 fun us1 s4 hs4 => ?_)
  obtain ⟨ws, H4, I5, rw', hwl, ea4, q4⟩ := hs4
  refine ⟨(I5.pin _ (List.mem_append_right _ (List.mem_singleton.mpr rfl))).1, ?_⟩
  refine call_mw D.oex I5 ea4 (I5.pin _ (List.mem_append_right _ (List.mem_singleton.mpr rfl))).1 (by have z := Paired.length rw'; rw [sizeLine_eq]; show us1.length ≤ _; omega) fun s5 J => ?_
  refine wpAt_of_wpAny ?_
  have J0 : Inv (ncx CX P w K mg base N F f A outer s H E) [] (s0F N (.ref a :: vs') C) H4 s5 := J.pins_of fun p hp => by cases hp
  refine wpAny_mono (htr.run [] s5 _ H4 _ J0 q4) (fun fl s' hs => ?_) fun e s' hs => hs
  have fin : ∀ {σ' : L2.St} {H' : Hp} {v : V} {u : Value}, Inv (ncx CX P w K mg base N F f A outer s H E) [] σ' H' s' → L2.RelV v u → Q v H' → CE outer P w H s Q u s' :=
    fun {σ' H' v u} J rv q => ⟨v, H', J.os, J.bare, J.base, J.hok, rv, q⟩
  cases fl with
  | ret u =>
    obtain ⟨v, σ', H', J, rv, q⟩ := hs
    exact fin J rv q
  | next =>
    obtain ⟨σ', H', J, q⟩ := hs
    exact fin (v := V.non) (u := Value.none) J rfl q
  | brk =>
    obtain ⟨_, _, _, q⟩ := hs
    exact False.elim q
  | cont =>
    obtain ⟨_, _, _, q⟩ := hs
    exact False.elim q
end
end D2
/-! ## D2Exc -/
/-! own exceptions made and raised, over data -/
namespace D2
open PySem PySem.Spec PyProof.Rows L2

/-- the fields by the arguments' places -/
def flV (fl : List (Str × Nat)) (vs : List V) : List (Str × V) := fl.map fun p => (p.1, vs.getD p.2 .non)
def flD (fl : List (Str × Nat)) (ds : List D) : List (Str × D) := fl.map fun p => (p.1, ds.getD p.2 .non)
theorem reps_getD {K : PySem.W.Frag} {G : Hp} : ∀ {ds : List D} {vs : List V} (i : Nat), Reps K G ds vs → Rep K G (ds.getD i .non) (vs.getD i .non)
  | _, _, _, .nil => by simp only [List.getD_nil]; exact .non
  | _, _, 0, .cons h _ => h
  | _, _, i + 1, .cons _ t => by simpa using reps_getD i t
theorem repf_fl {K : PySem.W.Frag} {G : Hp} {ds : List D} {vs : List V} (h : Reps K G ds vs) : ∀ fl : List (Str × Nat), RepF K G (flD fl ds) (flV fl vs)
  | [] => .nil
  | p :: fl => .cons (reps_getD p.2 h) (repf_fl h fl)
/-- what an own class's __init__ promises: n arguments, the fields fl -/
def IniSp (C : Addr) (n : Nat) (fl : List (Str × Nat)) (A : List V → Prop) : Sp := fun vs H Q _ => ∃ a ws, vs = .ref a :: ws ∧ ws.length = n ∧ A ws ∧ H a = some (exo a C none) ∧
  ∀ dx, H dx = none → dx ≠ a → Q .non (upd (upd H dx (exd dx (flV fl ws))) a (exo a C (some dx)))
/-- an own class over ValueError, called x, with its own __init__ -/
structure MkC (P : Program) (w : World) (K : PySem.W.Frag) (mg : Str → Option Value) (base : Heap) (x : Str) (C : Addr) (k n : Nat) (fl : List (Str × Nat)) (A : List V → Prop) : Prop where
  gl : mg x = some (.ref C)
  oex : OexC K C
  ini : ∃ fI fd ps, PySem.W.findIn K (.ref C) "__init__" = some (some (.ref fI)) ∧ PySem.W.typeIn K (.ref fI) = some (.type "function") ∧ FnOk P w K mg base (L2N.CX P w) k fI fd ps (IniSp C n fl A) ∧ Binds K fd ps []
section
variable {X : Cx} {c : Ct} {σ : Sl} {m : Mem} {x : Str} {C : Addr} {k j n : Nat} {fl : List (Str × Nat)} {A : List V → Prop} {e : Expr} {es : List Expr} {p pos pos2 : Pos} {en : En}
/-- x(..) makes the exception; its context is None -/
theorem mk_n (M : MkC X.prog X.w X.K X.mg X.base x C j n fl A) (hr : Room (j + 1) X.A) (hx : Passes (L2N.CX X.prog X.w) X (fun _ _ _ => False)) (hg : Gl X x) (ta : TA) (ha : PA X (e :: es) ta) (hn : n ≤ 1000)
    (hdb : (x == ("__debug__" : Str)) = false) (he : starEach (e :: es) X.env = (false, eval e X.env) :: starEach es X.env) (hpl : (backTo pos (starEach es X.env)).any (·.1) = false) :
    L2N.PMk X (.Call (.Name x p) (e :: es) [] pos) (fun τ H Q => ta τ H fun vs H1 => vs.length = n ∧ A vs ∧ ∀ dx, H1 dx = none → Q (.ref C) (some dx) (upd H1 dx (.xd (flV fl vs)))) := by
  intro pins s τ H Q I h
  obtain ⟨fI, fd, ps, iC, tI, F1, hb⟩ := M.ini
  have T := M.oex
  obtain ⟨nm, q, N, bs, bm, sn, sub, ab, col, dd, k0, k1, k2, k3, k5, hC, hbm⟩ := T.cls
  refine wpAny_Call_Name_kw (ld_glob I hg M.gl ?_ hdb)
  refine PySem.W.callWith_K (h₀ := X.base) I.ok.mod.kin T.kC (thn (ha.run pos pins s τ H _ I h) fun us s1 h1 => ?_) he hpl
  obtain ⟨vs, H1, I1, r1, hl, hA, q1⟩ := h1
  refine ⟨I1.kIn, ?_⟩
  show wpAny _ _ (call (.ref C) us) _ _ _
  obtain ⟨hp, g, dr, tk, os⟩ := s1
  have up1 : hp.objs.size ≤ hp.objs.size + 1 := Nat.le_succ _
  have na : H1 (hp.objs.size + 1) = none := I1.hok.fresh up1
  have grow : ∀ b o, hp.get? b = some o → ((hp.push (PySem.W.kdv_tup us)).push (PySem.HandSPX.excO C hp.objs.size)).get? b = some o := fun b o z => Heap.get?_push_of_some _ (Heap.get?_push_of_some _ z)
  have there : ((hp.push (PySem.W.kdv_tup us)).push (PySem.HandSPX.excO C hp.objs.size)).get? (hp.objs.size + 1) = some (PySem.HandSPX.excO C hp.objs.size) := by heap_get
  have I2 := I1.laid (t' := tk) (a := hp.objs.size + 1) (o := exo (hp.objs.size + 1) C none) grow up1 (exo_ok there)
  have rr : Vals (V.ref (hp.objs.size + 1) :: vs) (Value.ref (hp.objs.size + 1) :: us) := .cons rfl r1
  have usl : us.length = n := by rw [← Paired.length r1]; exact hl
  -- the promise at work
  have sp1 : IniSp C n fl A (.ref (hp.objs.size + 1) :: vs) (upd H1 (hp.objs.size + 1) (exo (hp.objs.size + 1) C none))
      (fun v H2 => v = .non ∧ ∃ d, H1 d = none ∧ d ≠ hp.objs.size + 1 ∧ H2 = upd (upd (upd H1 (hp.objs.size + 1) (exo (hp.objs.size + 1) C none)) d (exd d (flV fl vs))) (hp.objs.size + 1) (exo (hp.objs.size + 1) C (some d))) (fun _ _ _ => False) :=
    ⟨_, vs, rfl, hl, hA, upd_same, fun dx hd hne => ⟨rfl, dx, by rwa [upd_ne hne] at hd, hne, rfl⟩⟩
  have lens : (Value.ref (hp.objs.size + 1) :: us).length = ps.length := by
    rw [← F1.len _ _ _ _ sp1]
    show us.length + 1 = vs.length + 1
    rw [usl, hl]
  have b1 := hb ⟨(hp.push (PySem.W.kdv_tup us)).push (PySem.HandSPX.excO C hp.objs.size), g, dr, tk, os⟩ (Value.ref (hp.objs.size + 1) :: us) I2.kIn (by rw [List.append_nil]; exact lens)
  rw [List.append_nil] at b1
  refine wpAny_call (PySem.HandSPX.call_own PySem.F.excBase_ValueError (fun Y => PySem.HandSPX.refsVE_contains Y bm hbm) (I1.kIn _ _ hC) (PySem.W.looks_findIn I1.kIn iC) (fun self => PySem.W.bind_fn I1.kIn self tI) (by rw [sizeLine_eq]; omega)
    (codeAny_mono (F1.run _ X.stack _ _ _ _ _ _ _ (hr.make C us []) (I2.env0.make C us []) b1 rr sp1) fun r s' hq => ?_))
  cases r with
  | error er => exact hx pins τ _ _ er s' I2 hq
  | ok fw =>
    cases fw with
    | ret u =>
      obtain ⟨v, H2, os2, bare2, un2, hok2, rv, ev, d, hd, hda, eH⟩ := hq
      subst ev
      obtain ⟨h2, g2, d2, t2, os'⟩ := s'
      have ea : H2 (hp.objs.size + 1) = some (exo (hp.objs.size + 1) C (some d)) := by rw [eH]; exact upd_same
      have ed : H2 d = some (exd d (flV fl vs)) := by rw [eH, upd_ne hda]; exact upd_same
      obtain ⟨t0, G, J, kG, ge, hoe, nn⟩ := mk_end0 (d2 := d2) (t2 := t2) I1 up1 grow un2 hok2 os2 bare2 ea ed hd
      have eq : upd (L2.del H2 (hp.objs.size + 1)) d (.xd (flV fl vs)) = upd H1 d (.xd (flV fl vs)) := by
        funext b
        by_cases hbd : b = d
        · rw [hbd, upd_same, upd_same]
        · rw [upd_ne hbd, upd_ne hbd]
          by_cases hba : b = hp.objs.size + 1
          · rw [hba, del_same, na]
          · rw [del_ne hba, eH, upd_ne hba, upd_ne hbd, upd_ne hba]
      refine ⟨rv, ?_⟩
      rw [eq] at J nn
      exact ⟨hp.objs.size + 1, _, _, ⟨G, g2, d2, t2, os'⟩, _, .ref C, some d, rfl, J, kG, ge, hoe, ⟨rfl, rfl, fun vs z => by cases z; rfl⟩, rfl, rfl, nn, rfl, bare2, raises_own T.exC T.tyC, q1 d hd⟩
    | next => exact False.elim hq
    | brk => exact False.elim hq
    | cont => exact False.elim hq
/-- raise x(..) -/
theorem ds_raise (M : MkC X.prog X.w X.K X.mg X.base x C j n fl A) (L : Live X c k) (hg : Gl X x) (h : DA X c σ m (e :: es) (fun rs m1 => ∃ ds m2, Frzs m1 rs ds m2 ∧ ds.length = n ∧ (∀ K G vs, Reps K G ds vs → A vs) ∧ c.ex σ m2 C (flD fl ds))) (hjk : j + 1 ≤ k := by decide) (hn : n ≤ 1000 := by decide)
    (hdb : (x == ("__debug__" : Str)) = false := by decide) (he : starEach (e :: es) X.env = (false, eval e X.env) :: starEach es X.env := by rfl) (hpl : (backTo pos (starEach es X.env)).any (·.1) = false := by rfl) :
    DS X c σ m (.Raise (some (.Call (.Name x p) (e :: es) [] pos)) none pos2) en := fun F pins s τ H G D I E fx ft => by
  refine (L2N.ps_raise L.calm L.tk (mk_n M (L.room.mono hjk) (L2N.passes_call L.tk fun _ _ _ _ z => z.elim) hg (tA X c (e :: es)) pa_t hn hdb he hpl)).run pins s τ H D I ?_
  refine ⟨σ, m, G, _, E, h, fun rs m1 G1 H1 vs ⟨ds, m2, f, hl, hA, z⟩ x1 E1 rv => ?_⟩
  obtain ⟨G2, x2, E2, r2⟩ := f.env E1 rv
  refine ⟨by rw [← r2.length]; exact hl, hA _ _ _ r2, fun dx hdx => ?_⟩
  have g2 : G2 dx = none := E2.sub.back hdx
  exact ⟨σ, m2, upd G2 dx (.xd (flV fl vs)), C, flD fl ds, rfl, z, E2.newG hdx, .inr ⟨dx, _, rfl, upd_same, repf_fl (Reps.mono (Ex.new g2) r2) fl⟩⟩
end

/-! ### such a promise, by the __init__ of one field -/
section
open NdefX
variable {P : Program} {w : World} {K : PySem.W.Frag} {mg : Str → Option Value} {base : Heap} {x qual : Str} {params : Arguments} {body : List Stmt} {scope : Scope} {C f : Addr} {F : NF} {fd : FuncData} {y fn : Str} {A : List V → Prop}
theorem ini1 {pl : Env → Sem Bool} {e : Expr} {ar : Arg} {p0 p1 p2 p3 p4 q1 q2 q3 q4 : Pos} (D : SupD P K x qual params body scope C f F fd) (S : NScope ["self", y, "__class__"] ["self", y] ["__class__"] scope) (hy : (params.posonlyargs ++ params.args).head? = some ar) (hy2 : ar.arg = "self")
    (hsu : scope.names.lookup ("super" : Str) = some .globalImplicit) (hm : mg "super" = none)
    (hbd : body = [.Expr (.Call (.Attribute (.Call (.Name "super" p0) [] [] p1) "__init__" p2) [e] [] p3) p4, .Assign [.Attribute (.Name "self" q1) fn q2] (.Name y q3) q4])
    (hno : PySem.W.findIn K (.ref C) fn = some none)
    (hev : ∀ env : Env, eval (.Call (.Attribute (.Call (.Name "super" p0) [] [] p1) "__init__" p2) [e] [] p3) env = (do
      let ov ← attributeBase (.Call (.Name "super" p0) [] [] p1) "__init__" env (eval (.Call (.Name "super" p0) [] [] p1) env)
      standAt p2.atName
      let (f, first) ← holding [ov] (getMethod ov "__init__" (pl env))
      callWith p3 f first (backTo p3 (starEach [e] env)) []))
    (hst : ∀ env : Env, starEach [e] env = (false, eval e env) :: starEach [] env) (hsw : ∀ env : Env, swapsWith (.Name y q3) (some (.Attribute (.Name "self" q1) fn q2)) q4.line env = pure false)
    (hyd : (y == ("__debug__" : Str)) = false ∧ (y == ("__classdict__" : Str)) = false)
    (harg : ∀ (A0 : Around) (outer : List Env) (s : Shared) (H : Hp) (Q : VK) (E : XK) (a : Addr) (v : V), Room 0 (A0.deeper (envF F f s.heap.objs.size)) → A [v] → ∃ te, PE (ncx (L2N.CX P w) P w K mg base ["self", y, "__class__"] F f A0 outer s H E) e te ∧ ∀ Q' : VK, (∀ u, Q' u H) → te (s0F ["self", y, "__class__"] [.ref a, v] C) H Q') :
    FnOk P w K mg base (L2N.CX P w) 1 f fd ["self", y] (IniSp C 1 [(fn, 0)] A) := by
  refine fn_sup (k := 0) D S hy hy2 hsu hm hbd hev (fun vs H Q E ⟨a, ws, ev, hl, _⟩ => by rw [ev]; show ws.length + 1 = 2; rw [hl]) hst (fun env p => rfl) fun A0 outer s H vs Q E hr ⟨a, ws, ev, hl, hA, ea, q⟩ => ?_
  match ws, hl with
  | [v], _ =>
  subst ev
  obtain ⟨te, hte, ht⟩ := harg A0 outer s H Q E a v hr hA
  have hk : (envF F f s.heap.objs.size).scope = scope := D.nf.2.2.2.2
  have v0 : Vis (ncx (L2N.CX P w) P w K mg base ["self", y, "__class__"] F f A0 outer s H E).env.scope "self" := .inl (by show F.scope.names.lookup _ = _; rw [D.nf.2.2.2.2]; exact S.par _ List.mem_cons_self)
  have v1 : Vis (ncx (L2N.CX P w) P w K mg base ["self", y, "__class__"] F f A0 outer s H E).env.scope y := .inl (by show F.scope.names.lookup _ = _; rw [D.nf.2.2.2.2]; exact S.par _ (List.mem_cons_of_mem _ List.mem_cons_self))
  refine ⟨a, [v], _, _, rfl, ea, pa_cons hte pa_nil (hst _), pss_one (ps_ost (pe_var (i := 0) rfl v0 (by decide) (by decide)) (pe_var (i := 1) rfl v1 hyd.1 hyd.2) (hsw _)), ?_⟩
  refine ht _ fun u => ?_
  refine ⟨by show 1 ≤ 1000; decide, ea, v, rfl, .ref a, rfl, a, C, rfl, D.oex, hno, .inl ⟨ea, fun dx hd hne => q dx hd hne⟩⟩
end
end D2
/-! ## D2Hot -/
/-! defs called within an except suite, over data; the promise may speak of the exception that is handled -/
namespace D2
open PySem PySem.Spec PyProof.Rows L2

/-- a promise that hangs on the handled exception -/
structure FnX (P : Program) (w : World) (K : PySem.W.Frag) (mg : Str → Option Value) (base : Heap) (CX : CXT) (k : Nat) (f : Addr) (fd : FuncData) (ps : List Str) (sp : Addr × Obj → Sp) : Prop where
  len : ∀ p vs H Q E, sp p vs H Q E → vs.length = ps.length
  run : ∀ (p : Addr × Obj) (A : Around) (outer : List Env) (s : Shared) (H : Hp) (args : Args) (us : List Value) (vs : List V) (Q : VK) (E : XK), L2H.RoomH k A → L2H.Hot1 A p → L2H.PinOk outer H s p → Env0 P w K mg base A outer s H → BindsTo s fd args (ps.zip us) → Vals vs us → sp p vs H Q E →
    codeAny (model P w) A (.call (.ref f) args) (CR CX outer P w H s Q E) s
section
variable {CX : CXT} {P : Program} {w : World} {K : PySem.W.Frag} {mg : Str → Option Value} {base : Heap} {k j : Nat} {f : Addr} {fd : FuncData} {x qual : Str} {params : Arguments} {body : List Stmt} {scope : Scope} {N ps : List Str} {sp : Addr × Obj → Sp} {dvs : List V} {kws : List (Str × V)}
theorem FnX.mono (F : FnX P w K mg base CX j f fd ps sp) (h : j ≤ k) : FnX P w K mg base CX k f fd ps sp := ⟨F.len, fun p A outer s H args us vs Q E hr => F.run p A outer s H args us vs Q E (hr.mono h)⟩
theorem fnx_of (F : FunD K x qual params body scope dvs kws f fd) (S : FnScope N ps scope) (len : ∀ p vs H Q E, sp p vs H Q E → vs.length = ps.length)
    (hbody : ∀ (p : Addr × Obj) (cdv : Value) (A : Around) (outer : List Env) (s : Shared) (H : Hp) (vs : List V) (Q : VK) (E : XK), L2H.Hot1 A p → L2H.RoomH k (A.deeper (envOfC qual scope s.heap.objs.size f cdv)) → sp p vs H Q E →
      ∃ t, PSs (L2H.cxH CX P w K mg base N qual scope f cdv A outer s H E p) body t ∧ t { nx := fun _ H' => Q .non H', rt := Q } (L2.start N vs) H) : FnX P w K mg base CX (k + 1) f fd ps sp := by
  obtain ⟨oc, od, dV, kV, doc, pm, an, cdv, ct, osl, rfl, lk, hcd, _, _⟩ := F.ex
  refine ⟨len, fun p A outer s H args us vs Q E hr hot hpin e0 hb r hsp => ?_⟩
  have hl := len _ _ _ _ _ hsp
  have KX : K.In s.heap := e0.mod.kin.keeps fun b o z => (e0.bs b o z).1
  have lim : s.heap.NoLimit := e0.mod.nolimit.keeps fun b o z => (e0.bs b o z).1
  have kinds : ∀ z ∈ ps.zip us, scope.names.lookup z.1 = some .local ∨ (scope.names.lookup z.1 = some .cell ∧ ((cellsFrom (s.heap.objs.size + 1) scope.names []).lookup z.1).isSome = true) := by
    intro z hz
    rcases S.par z.1 (List.of_mem_zip hz).1 with q | q
    · exact .inl q
    · exact .inr ⟨q, PySem.W.cellsFrom_some _ _ _ (.inl q)⟩
  refine codeAny_call_function hr.depth (KX _ _ lk) rfl S.co S.gen rfl (PySem.W.codeRec_of KX hcd) (hb _ _ _ _ ?_)
  refine wpAny_newFunctionEnv_cells S.kind kinds fun env he s1 z => ?_
  subst he
  refine ⟨lim.keeps z.toInCall.keep, codeAny_func ?_⟩
  obtain ⟨t, ht, hq⟩ := hbody p cdv A outer s H vs Q E hot (hr.deeper _) hsp
  refine wpAny_mono (ht.run [] s1 (L2.start N vs) H _ (L2H.inv_startH S hpin e0 hl r z) hq) (fun fl s' hs => ?_) fun e s' hs => hs
  have fin : ∀ {σ' : L2.St} {H' : Hp} {v : V} {u : Value}, Inv (L2H.cxH CX P w K mg base N qual scope f cdv A outer s H E p) [] σ' H' s' → L2.RelV v u → Q v H' → CE outer P w H s Q u s' :=
    fun {σ' H' v u} J rv q => ⟨v, H', J.os, J.bare, J.base, J.hok, rv, q⟩
  match fl, hs with
  | .ret u, ⟨v, σ', H', J, rv, q⟩ => exact fin J rv q
  | .next, ⟨σ', H', J, q⟩ => exact fin (v := V.non) (u := Value.none) J rfl q
  | .brk, ⟨_, _, _, q⟩ => exact False.elim q
  | .cont, ⟨_, _, _, q⟩ => exact False.elim q
end

/-! ### over data -/
/-- the handled exception, the frozen part, then as Sp2 -/
abbrev SpX := (Addr × Obj) → Hp → Sp2
def spOfX (K : PySem.W.Frag) (S : SpX) (p : Addr × Obj) : Sp := fun vs H Q E => ∃ rs m G Kr Ke, S p G rs m Kr Ke ∧ Ex G H ∧ (m.map (·.1)).Nodup ∧ MemOk K m G H ∧ RelRs K G rs vs ∧
  (∀ r m' G' H' v, Kr r m' → OutOk K m m' G H G' H' → RelR K G' r v → Q v H') ∧
  (∀ C fs m' G' H' d, Ke C fs m' → OutOk K m m' G H G' H' → ExcD K G' fs d → E (.ref C) d H')
def CalleeX (P : Program) (w : World) (K : PySem.W.Frag) (mg : Str → Option Value) (base : Heap) (x : Str) (k : Nat) (S : SpX) : Prop :=
  ∃ f fd ps, mg x = some (.ref f) ∧ PySem.W.keepIn K (.ref f) = true ∧ Binds K fd ps [] ∧ FnX P w K mg base (L2N.CX P w) k f fd ps (spOfX K S)
/-- a context within a suite -/
structure LiveH (X : Cx) (c : Ct) (k : Nat) (p : Addr × Obj) : Prop where
  own : PassesOwn (model X.prog X.w) X.A X.env X.xe
  tk : Tk X c
  hot : L2H.Hot1 X.A p
  pin : p ∈ X.pn
  room : L2H.RoomH k X.A
section
variable {X : Cx} {c : Ct} {σ : Sl} {m : Mem} {x : Str} {S : SpX} {k j : Nat} {e : Expr} {es : List Expr} {K : R → Mem → Prop} {q pos : Pos} {p : Addr × Obj}
theorem run_x {CX : CXT} {f : Addr} {fd : FuncData} {ps : List Str} {sp : Addr × Obj → Sp} {E : L2.St → XK} {pins : List (Addr × Obj)} {τ : L2.St} {H : Hp} {s : Shared} {Q : VK} {us : List Value} {vs : List V} (F : FnX X.prog X.w X.K X.mg X.base CX k f fd ps sp) (L : LiveH X c k p) (hb : Binds X.K fd ps []) (hx : PassesAt CX X τ (E τ))
    (I : Inv X pins τ H s) (r : Vals vs us) (h : sp p vs H Q (E τ)) : wpAny (model X.prog X.w) X.A (call (.ref f) us) (EP X pins τ Q) X.xe s := by
  have hl : us.length = ps.length := by rw [← r.length]; exact F.len _ _ _ _ _ h
  have b := hb s us I.kIn (by rw [List.append_nil]; exact hl)
  rw [List.append_nil] at b
  have P1 := I.pin p (List.mem_append_left _ L.pin)
  have hpin : L2H.PinOk X.stack H s p := ⟨P1.1, P1.2.1, fun z => (List.mem_cons.mp (I.stkSub p.1 z)).elim P1.2.2.1 P1.2.2.2.1, P1.2.2.2.2⟩
  refine wpAny_call (codeAny_mono (F.run p X.A X.stack s H ⟨us, []⟩ us vs Q (E τ) L.room L.hot hpin I.env0 b r h) fun a s' hq => ?_)
  match a, hq with
  | .error e, hq => exact hx pins H s e s' I hq
  | .ok (.ret u), hq => exact I.after hq
theorem de_callX (cl : CalleeX X.prog X.w X.K X.mg X.base x j S) (L : LiveH X c k p) (hg : Gl X x) (h : DA X c σ m (e :: es) (fun rs m1 => ∃ mf rest, Split m1 mf rest ∧ ∀ G, Ex c.G0 G → S p G rs mf (fun r m' => K r (m' ++ rest)) (fun C fs m' => c.ex σ (m' ++ rest) C fs))) (hjk : j ≤ k := by decide)
    (hdb : (x == ("__debug__" : Str)) = false := by decide) (he : starEach (e :: es) X.env = (false, eval e X.env) :: starEach es X.env := by rfl) (hpl : (backTo pos (starEach es X.env)).any (·.1) = false := by rfl) : DE X c σ m (.Call (.Name x q) (e :: es) [] pos) K := fun pins s τ H G Q I E qq => by
  obtain ⟨f, fd, ps, hm, hk, hb, F⟩ := cl
  refine wpAny_Call_Name_kw (ld_glob I hg hm ?_ hdb)
  refine PySem.W.callWith_K (h₀ := X.base) I.ok.mod.kin hk (thn (h pos pins s τ H G (fun vs H1 => spOfX X.K S p vs H1 Q (WE (Wx X c) τ)) I E ?_) fun us s1 ⟨vs, H1, I1, r, z⟩ => ⟨I1.kIn, ?_⟩) he hpl
  · intro rs m1 G1 H1 vs ⟨mf, rest, hs, z⟩ x1 E1 rv
    obtain ⟨h1, h2⟩ := E1.part hs
    refine ⟨rs, mf, G1, _, _, z G1 E1.g0, E1.sub, h1, h2, rv, fun r m' G' H' v z o rv' => ?_, fun C fs m' G' H' d z o hd => ?_⟩
    · exact qq r (m' ++ rest) G' H' v z (x1.trans o.up) (E1.after hs o) rv'
    · exact ⟨σ, m' ++ rest, G', C, fs, rfl, z, E1.after hs o, hd⟩
  · exact run_x (c := c) (F.mono hjk) L hb (L2N.passAt L.tk τ) I1 r z
end
section
variable {P : Program} {w : World} {K : PySem.W.Frag} {mg : Str → Option Value} {base : Heap} {x qual : Str} {params : Arguments} {body : List Stmt} {scope : Scope} {dvs : List V} {kws : List (Str × V)} {f : Addr} {fd : FuncData} {N ps : List Str} {k : Nat}
theorem fn2X {S : SpX} (F : FunD K x qual params body scope dvs kws f fd) (Sc : FnScope N ps scope) (dbg : ∀ x ∈ N, (x == ("__debug__" : Str)) = false ∧ (x == ("__classdict__" : Str)) = false) (len : ∀ p G rs m Kr Ke, S p G rs m Kr Ke → rs.length = ps.length)
    (hb : ∀ (X : Cx) (c : Ct) (p : Addr × Obj) (rs : List R) (m : Mem) (Kr : R → Mem → Prop) (Ke : Addr → List (Str × D) → Mem → Prop), Def X P w K mg base N scope → LiveH X c k p → (∀ σ m' C fs, Ke C fs m' → c.ex σ m' C fs) → S p c.G0 rs m Kr Ke →
      DSs X c (slots N rs) m body { nx := fun _ m' => Kr (.dat .non) m', rt := Kr }) : FnX P w K mg base (L2N.CX P w) (k + 1) f fd ps (spOfX K S) := by
  refine fnx_of F Sc (fun p vs H Q E ⟨rs, m, G, Kr, Ke, h, _, _, _, rv, _⟩ => by rw [← rv.length]; exact len _ _ _ _ _ _ h) fun p cdv A outer s H vs Q E hot hr ⟨rs, m, G, Kr, Ke, h, sub, nd, mem, rv, hQ, hE⟩ => ?_
  have hrl : rs.length = ps.length := len _ _ _ _ _ _ h
  have hpl : ps.length ≤ N.length := by have := congrArg List.length Sc.pre; rw [List.length_take] at this; omega
  let X : Cx := L2H.cxH (L2N.CX P w) P w K mg base N qual scope f cdv A outer s H E p
  let c : Ct := ⟨H, G, m.map (·.1), fun _ m' C fs => Ke C fs m'⟩
  have out : ∀ {σ : Sl} {m' : Mem} {G' : Hp} {τ : L2.St} {H' : Hp}, Ex G G' → EnvOk X c σ m' G' τ H' → OutOk K m m' G H G' H' := fun {σ m' G' τ H'} up E' => by
    refine ⟨up, E'.sub, E'.nd, E'.mem, fun a o ha hn => E'.fr a o ha fun hm => ?_, fun p hp => E'.th p.1 (List.mem_map_of_mem (f := (·.1)) hp), fun p hp => ?_, fun a o ha => ?_⟩
    · obtain ⟨p, hp, e⟩ := List.mem_map.mp hm
      exact hn p hp e
    · rcases E'.ok p hp with z | z
      · obtain ⟨q, hq, e⟩ := List.mem_map.mp z
        exact .inl ⟨q, hq, e⟩
      · exact .inr z
    · rcases E'.gn a o ha with z | z | z
      · exact .inl z
      · obtain ⟨q, hq, e⟩ := List.mem_map.mp z
        exact .inr (.inl ⟨q, hq, e⟩)
      · exact .inr (.inr z)
  have D : Def X P w K mg base N scope := ⟨rfl, rfl, rfl, rfl, rfl, rfl, rfl, fun _ => rfl, rfl, rfl⟩
  have G0 : ∀ {σ : Sl} {m' : Mem} {G' : Hp} {τ : L2.St} {H' : Hp}, EnvOk X c σ m' G' τ H' → True := fun _ => trivial
  have tk : L2N.Takes X (fun cls d _ H' => E cls d H') := L2N.takes_of rfl rfl rfl rfl
  refine ⟨tSs X c body, pss_t, G, slots N rs, m, G, _, ?_, hb X c p rs m Kr (fun C fs m' => Ke C fs m') D ⟨passes_of rfl, ?_, hot, List.mem_singleton.mpr rfl, hr⟩ (fun _ _ _ _ z => z) h, Ex.refl G, ?_⟩
  · refine ⟨⟨Sc.nd, dbg⟩, (slots_names (by rw [hrl]; exact hpl)).symm, ?_, sub, nd, mem, fun a o ha _ => ha, fun a ha => ?_, fun p hp => .inl (List.mem_map_of_mem (f := (·.1)) hp), fun a o ha => .inl ha, Ex.refl G, fun p hp hs => ?_, fun i y r hi => ?_⟩
    · rw [start_len (by rw [← rv.length, hrl]; exact hpl)]
      have e := congrArg List.length (slots_names (N := N) (rs := rs) (by rw [hrl]; exact hpl))
      rw [List.length_map] at e
      exact e.symm
    · obtain ⟨p, hp, rfl⟩ := List.mem_map.mp ha
      obtain ⟨_, ho, hh, _⟩ := mem p hp
      rw [hh]; exact fun z => by cases z
    · -- a slot with a value is a parameter
      obtain ⟨i, hi⟩ := List.mem_iff_getElem?.mp hp
      unfold slots at hi
      rw [List.getElem?_zip_eq_some] at hi
      obtain ⟨h1, h2⟩ := hi
      have lt : i < rs.length := by
        by_cases lt : i < rs.length
        · exact lt
        · rw [List.getElem?_append_right (by simpa using Nat.le_of_not_lt lt), List.getElem?_replicate] at h2
          split at h2
          · cases h2' : p.2 with
            | none => rw [h2'] at hs; cases hs
            | some z => rw [h2'] at h2; cases h2
          · cases h2
      have hp1 : p.1 ∈ ps := by
        rw [← Sc.pre]
        exact List.mem_of_getElem? (by rw [List.getElem?_take_of_lt (by rw [← hrl]; exact lt)]; exact h1)
      rcases Sc.par _ hp1 with k | k
      · exact .inl k
      · exact .inr (.inl k)
    · unfold slots at hi
      rw [List.getElem?_zip_eq_some] at hi
      obtain ⟨h1, h2⟩ := hi
      have lt : i < rs.length := by
        by_cases lt : i < rs.length
        · exact lt
        · rw [List.getElem?_append_right (by simpa using Nat.le_of_not_lt lt), List.getElem?_replicate] at h2
          split at h2 <;> cases h2
      rw [List.getElem?_append_left (by simpa using lt), List.getElem?_map] at h2
      have hr' : rs[i]? = some r := by
        cases e : rs[i]? with
        | none => rw [e] at h2; cases h2
        | some z => rw [e] at h2; cases h2; rfl
      obtain ⟨v, hv, rv'⟩ := rv.get hr'
      refine ⟨v, ?_, rv'⟩
      unfold L2.start
      rw [List.getElem?_append_left (by rw [List.length_map, ← rv.length]; exact lt), List.getElem?_map, hv] <;> rfl
  · refine L2N.Takes.imp tk fun cls d τ H' ⟨σ, m', G', C, fs, e, z, E', hd⟩ => ?_
    subst e
    exact hE C fs m' G' H' d z (out E'.g0 E') hd
  · refine ⟨fun σ m' G' τ H' z up E' => hQ _ m' G' H' .non z (out up E') (.dat .non), fun r σ m' G' τ H' v z up E' rv' => hQ r m' G' H' v z (out up E') rv', fun _ _ _ _ _ z => z.elim, fun _ _ _ _ _ z => z.elim⟩
end
end D2
/-! ## D2Is -/
/-! classes by name, isinstance, fields of a caught exception -/
namespace D2
open PySem PySem.Spec PyProof.Rows L2
abbrev rCls (C : Addr) : R := .dat (.raw (.ref C))
abbrev rTy (T : String) : R := .dat (.raw (.ty T))
abbrev rExc (p : Addr × Obj) : R := .dat (.raw (.ref p.1))
section
variable {X : Cx} {c : Ct} {σ : Sl} {m : Mem} {x : Str} {k : Nat} {e : Expr} {K : R → Mem → Prop} {pos px : Pos}
theorem de_cls {C : Addr} (hg : Gl X x) (hm : X.mg x = some (.ref C)) (kk : K (rCls C) m) (hd : (x == ("__debug__" : Str)) = false := by decide) : DE X c σ m (.Name x px) K :=
  de_of (pe_glob (v := .ref C) hg hm rfl hd) fun τ H G Q E q => q.now kk E (.dat .raw)
theorem de_ty {T : String} (hg : Gl X x) (hm : X.mg x = none) (hv : bootBuiltins x = some (.type T)) (kk : K (rTy T) m) (hn : x ≠ "__name__" := by decide) (hd : (x == ("__debug__" : Str)) = false := by decide) : DE X c σ m (.Name x px) K :=
  de_of (pe_bltn (v := .ty T) hg hm hv rfl hn hd) fun τ H G Q E q => q.now kk E (.dat .raw)
/-- the class of a value -/
inductive TyR (m : Mem) : R → String → Prop
  | non : TyR m (.dat .non) "NoneType"
  | bl {b} : TyR m (rB b) "bool"
  | int {i} : TyR m (rI i) "int"
  | str {s} : TyR m (rS s) "str"
  | lst {r rs} (h : VL m r rs) : TyR m r "list"
  | tup {ds} : TyR m (.dat (.tup ds)) "tuple"
theorem TyR.at {τ : L2.St} {H G : Hp} {r : R} {v : V} {T : String} (h : TyR m r T) (E : EnvOk X c σ m G τ H) (rv : RelR X.K G r v) : TyX X.K H v (.type T) := by
  cases h with
  | non => cases rv with | dat rv => cases rv; exact .base .non
  | bl => cases bl_of rv; exact .base (.bl _)
  | int => cases int_of rv; exact .base (.int _)
  | str => cases str_of rv; exact .base (.str _)
  | lst h =>
    obtain ⟨a, vs, rfl, hs, _⟩ := h.at E rv
    rcases hs with (z | ⟨o, z⟩) | ⟨o, its, n, z, zc, _⟩
    · exact .base (.lst z)
    · exact .base (.frz z)
    · exact .kList z zc
  | tup =>
    cases rv with | dat rv =>
    cases rv with | tup hs rr =>
    rcases ex_t E.sub hs with (z | ⟨o, z⟩) | ⟨o, its, n, z, zc, _⟩
    · exact .base (.tup z)
    · exact .fTuple z
    · exact .kTuple z zc
theorem b_isi {r : R} {T U : String} {b : Bool} (h : TyR m r T) (hb : kitB T U = some b) (kk : K (rB b) m) : BK X c σ m (rIsi X.K) [r, rTy U] K := fun τ H G vs Q E rv q => by
  obtain ⟨v, u, rfl, r1, r2⟩ := two_of rv
  cases r2 with | dat r2 =>
  cases r2
  exact ⟨v, .ty U, .type T, .type U, b, rfl, .ty U, h.at E r1, kit_ty hb, q.now kk E (.dat .bl)⟩
/-- isinstance(v, T), T built-in -/
theorem d_isi {es : List Expr} (hg : Gl X "isinstance") (hm : X.mg "isinstance" = none) (h : DA X c σ m (e :: es) (fun rs m1 => ∃ r T U b, rs = [r, rTy U] ∧ TyR m1 r T ∧ kitB T U = some b ∧ K (rB b) m1))
    (he : starEach (e :: es) X.env = (false, eval e X.env) :: starEach es X.env := by rfl) (hpl : (backTo pos (starEach es X.env)).any (·.1) = false := by rfl) : DE X c σ m (.Call (.Name "isinstance" px) (e :: es) [] pos) K :=
  de_callB call_isi hg hm PyProof.Rows.boot_isinstance (fun ap pins s τ H G Q I E q => h ap pins s τ H G Q I E fun rs m1 G1 H1 vs ⟨r, T, U, b, er, ht, hb, z⟩ x1 E1 rv => q rs m1 G1 H1 vs (by subst er; exact b_isi ht hb z) x1 E1 rv) (he := he) (hpl := hpl)

/-! ### the caught exception -/
/-- p is an exception of the class C, with these fields -/
def Caught (K : PySem.W.Frag) (G : Hp) (p : Addr × Obj) (C : Addr) (fs : List (Str × D)) : Prop := ∃ d, Zc (.ref C) d p.2 ∧ (∃ vs, p.2.data = .fields vs) ∧ ExcD K G fs d
theorem Caught.up {Kf : PySem.W.Frag} {G G' : Hp} {p : Addr × Obj} {C : Addr} {fs : List (Str × D)} (h : Caught Kf G p C fs) (e : Ex G G') : Caught Kf G' p C fs := by
  obtain ⟨d, z, f, r⟩ := h
  refine ⟨d, z, f, ?_⟩
  rcases r with r | ⟨dd, vs, e1, e2, e3⟩
  · exact .inl r
  · exact .inr ⟨dd, vs, e1, e _ _ e2, e3.mono e⟩
def rIsP (K : PySem.W.Frag) (p : Addr × Obj) (C : Addr) (d : Option Addr) : List V → Hp → VK → Prop := fun xs H Q => ∃ (c : V) (cv : Value) (b : Bool), xs = [.ref p.1, c] ∧ (d = none ∨ ∃ dd fs, d = some dd ∧ H dd = some (.xd fs)) ∧ ClsV c cv ∧ PySem.W.kitOne K (.ref C) cv = some b ∧ Q (.bl b) H
theorem call_isP {p : Addr × Obj} {C : Addr} {d : Option Addr} (hp : p ∈ X.pn) (EC : ExcC X.K C) (hz : Zc (.ref C) d p.2) (hf : ∃ vs, p.2.data = .fields vs) : CallR X (.builtin "isinstance") (rIsP X.K p C d) := by
  intro pins s τ H xs us Q I r h
  obtain ⟨cc, cv, b, rfl, hd, hcv, eb, q⟩ := h
  obtain ⟨u1, u2, rfl, r1, r2⟩ := vals2 r
  cases (show u1 = Value.ref p.1 from r1)
  cases hcv.eq r2
  have at_ := (I.pin p (List.mem_append_left _ hp)).1
  obtain ⟨vs, hv⟩ := hf
  obtain ⟨cd, hcd, _⟩ := PySem.W.any_some EC.hd
  have done : ∀ {od : Option Obj}, PySem.W.InstAt s.heap p.1 p.2 C od → wpAny (model X.prog X.w) X.A (call (.builtin "isinstance") [.ref p.1, cv]) (EP X pins τ Q) X.xe s := fun {od} J =>
    PySem.W.kia_one (PySem.W.kitx_exc (by rw [hcd] <;> rfl) EC.hg EC.hk EC.hs EC.ha EC.hn EC.ht EC.hm) I.kIn J eb (fun z => nomatch z) fun tk => ⟨.bl b, H, I.kept (t' := tk) fun _ _ z => z, rfl, q⟩
  have nc : PySem.W.notCls p.2 = true := by unfold PySem.W.notCls; rw [hv] <;> rfl
  rcases hd with e | ⟨dd, fs, e, e2⟩
  · exact done (od := none) ⟨at_, hz.1, nc, by rw [hz.2, e]; trivial⟩
  · obtain ⟨mA, hns, _⟩ := (show ObjOk X.prog X.w H s.heap dd (.xd fs) from I.hok dd _ e2)
    obtain ⟨od, ho, _⟩ := lookIn_ns hns
    exact done (od := some od) ⟨at_, hz.1, nc, by rw [hz.2, e]; exact ho⟩
/-- isinstance(e, c), e the handled exception -/
theorem d_isE {es : List Expr} {p : Addr × Obj} {C : Addr} {fs : List (Str × D)} (hp : p ∈ X.pn) (EC : ExcC X.K C) (Cg : Caught X.K c.G0 p C fs) (hg : Gl X "isinstance") (hm : X.mg "isinstance" = none)
    (h : DA X c σ m (e :: es) (fun rs m1 => ∃ cv u b, rs = [rExc p, .dat (.raw cv)] ∧ ClsV cv u ∧ PySem.W.kitOne X.K (.ref C) u = some b ∧ K (rB b) m1))
    (he : starEach (e :: es) X.env = (false, eval e X.env) :: starEach es X.env := by rfl) (hpl : (backTo pos (starEach es X.env)).any (·.1) = false := by rfl) : DE X c σ m (.Call (.Name "isinstance" px) (e :: es) [] pos) K := by
  obtain ⟨d, hz, hf, hd⟩ := Cg
  refine de_callB (call_isP (d := d) hp EC hz hf) hg hm PyProof.Rows.boot_isinstance (fun ap pins s τ H G Q I E q => h ap pins s τ H G Q I E fun rs m1 G1 H1 vs ⟨cv, u, b, er, hc, hb, z⟩ x1 E1 rv => q rs m1 G1 H1 vs ?_ x1 E1 rv) (he := he) (hpl := hpl)
  subst er
  intro τ2 H2 G2 vs2 Q2 E2 rv2 q2
  obtain ⟨v1, v2, rfl, r1, r2⟩ := two_of rv2
  cases r1 with | dat r1 =>
  cases r1
  cases r2 with | dat r2 =>
  cases r2
  refine ⟨cv, u, b, rfl, ?_, hc, hb, q2.now z E2 (.dat .bl)⟩
  rcases hd with ⟨_, e0⟩ | ⟨dd, ws, e1, e2, _⟩
  · exact .inl e0
  · exact .inr ⟨dd, ws, e1, E2.sub _ _ (E2.g0 _ _ e2)⟩
theorem repf_at {Kf : PySem.W.Frag} {G : Hp} : ∀ {fs : List (Str × D)} {vs : List (Str × V)} {f : Str} {d : D}, RepF Kf G fs vs → fs.lookup f = some d → ∃ v, vs.lookup f = some v ∧ Rep Kf G d v
  | _, _, _, _, .nil, e => by simp at e
  | (g, y) :: fs, (_, u) :: vs, f, d, .cons h t, e => by
    rw [List.lookup_cons] at e ⊢
    cases hb : f == g with
    | true => rw [hb] at e; cases e; exact ⟨u, rfl, h⟩
    | false => rw [hb] at e; exact repf_at t e
/-- e.f in the suite -/
theorem d_fld {a C : Addr} {oe : Obj} {pn : List (Addr × Obj)} {fs : List (Str × D)} {f : Str} {d : D} {X : Cx} (T : XfC X.K C) (hno : PySem.W.findIn X.K (.ref C) f = some none) (Cg : Caught X.K c.G0 (a, oe) C fs) (hf : fs.lookup f = some d)
    (h : DE (X.suite a ((a, oe) :: pn)) c σ m e (fun r m1 => r = rExc (a, oe) ∧ K (.dat d) m1)) (hb : attributeBase e f X.env (eval e X.env) = eval e X.env := by rfl) : DE (X.suite a ((a, oe) :: pn)) c σ m (.Attribute e f pos) K := by
  obtain ⟨dd, hz, hv, hd⟩ := Cg
  rcases hd with ⟨e0, _⟩ | ⟨da, ws, e1, e2, e3⟩
  · subst e0; cases hf
  · obtain ⟨v, hv2, rv⟩ := repf_at e3 hf
    refine de_of (pe_xf (pn := pn) T hno hz hv (pe_t (X := X.suite a ((a, oe) :: pn)) (c := c)) hb) fun τ H G Q E q => ⟨σ, m, G, _, E, h, fun r m1 G1 H1 u ⟨er, z⟩ x1 E1 ru => ?_⟩
    subst er
    cases ru with | dat ru =>
    cases ru
    exact ⟨rfl, rfl, da, ws, v, e1, E1.sub _ _ (E1.g0 _ _ e2), hv2, q _ m1 G1 H1 v z x1 E1 (.dat (rv.mono E1.g0))⟩
end
end D2
/-! ## D2HotLc -/
/-! a list walked, a list comprehension, within an except suite -/
namespace D2
open PySem PySem.Spec PyProof.Rows L2
open HotX in
/-- the end of a list's iterator while an exception is handled -/
theorem end_hot {prog : Program} {w : World} {A : Around} {E : Value → Shared → Prop} {s : Shared} {it l x1 : Addr} {i : Nat} {items : Array Value} {Q : Option Value → Shared → Prop} (hot : HotAt A x1 s.heap) (hn : x1 ≠ it)
    (hit : s.heap.IsListIter it l i) (hl : s.heap.IsList l items) (hx : items[i]? = none) (hQ : ∀ h', Heap.ExtBut it s.heap h' → Q none { s with heap := h' }) : wpAny (model prog w) A (pyNext (.ref it)) Q E s := by
  obtain ⟨o, ho, hc, hd⟩ := id hit
  obtain ⟨ol, hol, _, nl, hdl⟩ := hl
  obtain ⟨hh, o1, vs1, h1, d1, c1⟩ := hot
  unfold pyNext
  refine wpAny_bind (wpAny_attempt (wpAny_callSpecial?_slot (name := Str.ofString "__next__") hit.typeIs slot_listiter_next (wpAny_call_entry slot_listiter_next hit.typeIs entry_listiter_next ?_ (args_listiter_next _))))
  refine wpAny_bind (m := field (.ref it) 0) (wpAny_field ho hd (x := .ref l) rfl ?_)
  show wpAny _ _ (if (Value.ref l == Value.none) = true then _ else _) _ _ _
  rw [if_neg (by exact Bool.false_ne_true)]
  refine wpAny_bind (m := field (.ref it) 1) (wpAny_field ho hd (x := .int i 0) rfl ?_)
  refine wpAny_bind (m := seqItems? (.ref l)) (wpAny_seqItems hol hdl ?_)
  simp only [Int.toNat_natCast, hx]
  refine wpAny_bind (wpAny_rule (wpAny_bind (wpAny_setField ho hd (by simp) ?_)))
  show wpAny _ _ (newExc (.type "StopIteration") [] >>= _) _ _ { s with heap := s.heap.update it _ }
  refine wpAny_bind ?_
  simp only [newExc, newTuple]
  refine wpAny_bind (wpAny_newObj_type ?_ (by size_fits))
  refine wpAny_bind (m := firstArgMember _ _) (wpAny_of_eq (a := Value.none) (by first | (simp only [firstArgMember]; rfl) | rfl) ?_)
  refine wpAny_newObj_type ?_ (by size_fits)
  have keepU : ∀ {h : Heap} {f : Obj → Obj} {b : Addr} {u : Obj}, b ≠ it → h.get? b = some u → (h.update it f).get? b = some u := fun hb z => by rw [Heap.get?_update_other _ _ (Ne.symm hb)]; exact z
  refine raiseNew_hot (x1 := x1) ⟨hh, o1, vs1, Heap.get?_push_of_some _ (Heap.get?_push_of_some _ (keepU hn h1)), d1, c1⟩ (Nat.ne_of_lt (Heap.lt_size (Heap.get?_push_of_some _ (keepU hn h1)))) (Heap.get?_push_size _ rfl) rfl (by first | (simp; done) | (simp; omega)) ?_
  refine wpAny_bind (wpAny_isInstance (T := "StopIteration") (b := true) ⟨_, (by exact Heap.get?_update_self _ (Heap.get?_push_size _ rfl) rfl), rfl⟩ isSubtype_stop ?_)
  refine wpAny_pure (hQ _ fun b u hb z => ?_)
  rw [Heap.get?_update_other _ _ (Nat.ne_of_gt (Heap.lt_size (Heap.get?_push_of_some _ (keepU hb z))))]
  exact Heap.get?_push_of_some _ (Heap.get?_push_of_some _ (keepU hb z))

/-! ### a comprehension's block there -/
abbrev bh (X : Cx) (scope : Scope) (s : Shared) (H : Hp) (C : Addr) (cl : List (Str × Addr)) (fp : List Addr) : Cx := { bx X scope s H C cl fp with pn := X.pn }
def IsBlkH (X : Cx) (scope : Scope) (Xb : Cx) : Prop := ∃ s H C cl fp, Xb = bh X scope s H C cl fp
section
variable {X Xb : Cx} {scope : Scope} {x : Str} {c : Ct} {k j : Nat} {p : Addr × Obj} {σ : Sl} {m : Mem} {G H H0 : Hp} {τ : L2.St} {s s' : Shared} {C : Addr} {cl : List (Str × Addr)} {fp : List Addr}
theorem IsBlkH.gl (h : IsBlkH X scope Xb) (hx : scope.names.lookup x = some .globalImplicit) : Gl Xb x := by
  obtain ⟨s, H, C, cl, fp, rfl⟩ := h
  exact blk_keep (by decide) hx
theorem IsBlkH.mg (h : IsBlkH X scope Xb) {o : Option Value} (e : X.mg x = o) : Xb.mg x = o := by
  obtain ⟨s, H, C, cl', fp, rfl⟩ := h
  exact e
theorem IsBlkH.live (h : IsBlkH X scope Xb) (L : LiveH X c k p) {c' : Ct} (hx : ∀ σ m C fs, ¬ c'.ex σ m C fs) : LiveH Xb c' k p := by
  obtain ⟨s, H, C, cl', fp, rfl⟩ := h
  exact ⟨PassesOwn.never, tk_none hx, L.hot, L.pin, L.room⟩
theorem EB.ofH (e : EnvOk (bh X scope s H0 C cl fp) c σ m G τ H) : EB X scope c σ m G τ H := ⟨⟨e.nm.nd, e.nm.dbg⟩, e.names, e.len, e.sub, e.nd, e.mem, e.fr, e.th, e.ok, e.gn, e.g0, e.vis, e.sl⟩
theorem EB.toH (e : EB X scope c σ m G τ H) : EnvOk (bh X scope s H0 C cl fp) c σ m G τ H := ⟨⟨e.nm.nd, e.nm.dbg⟩, e.names, e.len, e.sub, e.nd, e.mem, e.fr, e.th, e.ok, e.gn, e.g0, e.vis, e.sl⟩
theorem ok_bh (ok : (bx X scope s H0 C cl fp).Ok) : (bh X scope s H0 C cl fp).Ok :=
  ⟨ok.mod, ok.kind, ok.glob, ok.blt, ok.above, ok.inj, ok.has, ok.cab, ok.hd, ok.frames, ok.stk, ok.exf, ok.bs, ok.bsz, ok.noex, ok.exfs, ok.funs, ok.frf⟩
theorem inv_bh (I : Inv (bx X scope s H0 C cl fp) [] τ H s') (h : ∀ q ∈ X.pn, s'.heap.get? q.1 = some q.2 ∧ H q.1 = none ∧ q.1 ≠ C ∧ q.1 ∉ frs X.stack ∧ ∀ v, q.2.data ≠ .cell v) : Inv (bh X scope s H0 C cl fp) [] τ H s' :=
  ⟨ok_bh I.ok, I.os, I.bare, I.base, I.loc, I.cell, I.free, I.freeC, fun q hq => h q (by simpa using (show q ∈ X.pn ++ [] from hq)), I.hok, I.len⟩
end
section
variable {X : Cx} {c : Ct} {σ : Sl} {m : Mem} {ifs : List Expr}
theorem dts_at {Kb : Bool → Mem → Prop} {pins : List (Addr × Obj)} {s : Shared} {τ : L2.St} {G H : Hp} {Q : Bool → Hp → Prop} (h : DTs X c σ m ifs Kb) (I : Inv X pins τ H s) (E : EnvOk X c σ m G τ H) (q : ∀ b m' G' H', Kb b m' → Ex G G' → EnvOk X c σ m' G' τ H' → Q b H') :
    wpAny (model X.prog X.w) X.A (forIn ifs true fun c r => if r = true then do let ok ← isTrue c X.env (eval c X.env); pure (ForInStep.yield ok) else pure (ForInStep.yield r)) (TP X pins τ Q) X.xe s := by
  match ifs, h with
  | [], h => exact wpAny_tests_nil ⟨H, I, q true m G H h (Ex.refl G) E⟩
  | [e], h => exact wpAny_tests_one (h _ pins s τ H G Q rfl I E q)
end
section
variable {X : Cx} {c : Ct} {σ σb : Sl} {m : Mem} {scope : Scope} {own : List (Str × Nat)} {iter elt : Expr} {ifs : List Expr} {K : R → Mem → Prop} {k j : Nat} {pos py : Pos} {p : Addr × Obj} {y : Str} {f : R → Sl}
/-- a turn, the item at hand -/
def TurnH1 (X : Cx) (scope : Scope) (k : Nat) (p : Addr × Obj) (σ2 : Sl) (m : Mem) (ifs : List Expr) (elt : Expr) (yes : R → Mem → Prop) (no : Mem → Prop) : Prop :=
  ∀ Xb c', IsBlkH X scope Xb → LiveH Xb c' k p → DTs Xb c' σ2 m ifs (fun b m2 => (b = true → DE Xb c' σ2 m2 elt yes) ∧ (b = false → no m2))
theorem de_lcH {ds : List D} (P : Nat → List R → Mem → Prop) (L : LiveH X c k p) (nd : X.N.Nodup) (ok : BlkOk X.N X.env.scope scope own) (hown : ∀ p ∈ own, scope.names.lookup p.1 = some .local) (hb : Blk scope σ σb) (hf : PutF σb y f) (hj : (y, j) ∈ own)
    (hit : DE X c σ m iter (fun r m1 => ∃ m2, Frz m1 r (.lst ds) m2 ∧ P 0 [] m2))
    (turn : ∀ i d rs m', ds[i]? = some d → P i rs m' → TurnH1 X scope k p (f (.dat d)) m' ifs elt (fun r m3 => P (i + 1) (rs ++ [r]) m3) (fun m2 => P (i + 1) rs m2)) (hl : ds.length ≤ 1000000)
    (hend : ∀ rs m' p, P ds.length rs m' → K (.own p) ((p, .lst rs) :: m')) (hs : ∀ x, foldedSetIterable iter X.env x = pure x := by intro _; rfl) : DE X c σ m (.ListComp elt [⟨.Name y py, iter, ifs, 0⟩] scope pos) K := by
  intro pins s τ H G Q I E q
  have hfree : ∀ z ∈ scope.names, z.2 = .free → ∃ b, X.env.cells.lookup z.1 = some b := fun z hz e => (ok.free z hz e).elim (fun h => I.ok.has _ (.inl h)) fun h => I.ok.has _ (.inr h)
  rw [eval_ListComp]
  refine wpAny_comprehension_free (use := none) rfl hs (closure_ok hfree) ok.kind (fun z hz e => by rw [ok.uniq z hz, e]) ?_
  refine thn (hit pins s τ H G (fun v H1 => ∃ a vs m2 G2, v = .ref a ∧ SqL X.K H1 a vs ∧ Reps X.K G2 ds vs ∧ Ex G G2 ∧ SqL X.K G2 a vs ∧ EnvOk X c σ m2 G2 τ H1 ∧ P 0 [] m2) I E ?_) fun u s1 ⟨v, H1, I1, ru, a, vs, m2, G2, ev, hq, hr, x2, hq2, E2, hP⟩ => ?_
  · intro r m1 G1 H1 v ⟨m2, fz, hP⟩ x1 E1 rv
    obtain ⟨G2, x2, E2, r2⟩ := fz.env E1 rv
    cases r2 with | lst h1 h2 =>
    exact ⟨_, _, m2, G2, rfl, ex_l E2.sub h1, h2, x1.trans x2, h1, E2, hP⟩
  subst ev
  cases ru
  obtain ⟨its, rv, pl, hz⟩ := I1.list hq
  refine wpAny_pyIter_list pl.isList ?_
  have I2 := I1.kept (t' := s1.toks) (h' := s1.heap.push { cls := .type "list_iterator", data := .fields #[.ref a, .int 0 0] }) fun b o e => Heap.get?_push_of_some _ e
  have itf := I1.fpOk (H' := H1) (b := s1.heap.objs.size) (Nat.le_refl _) (I1.hok.fresh (Nat.le_refl _))
  have it0 : (s1.heap.push { cls := .type "list_iterator", data := .fields #[.ref a, .int 0 0] }).IsListIter s1.heap.objs.size a 0 := ⟨_, Heap.get?_push_size _ rfl, rfl, rfl⟩
  generalize hit' : s1.heap.objs.size = it at I2 itf it0 ⊢
  have itlt : it < (s1.heap.push { cls := .type "list_iterator", data := .fields #[.ref a, .int 0 0] }).objs.size := by rw [Heap.size_push, ← hit']; exact Nat.lt_succ_self _
  generalize hs2 : ({ s1 with heap := s1.heap.push { cls := .type "list_iterator", data := .fields #[.ref a, .int 0 0] } } : Shared) = s2 at I2 ⊢
  have hs2h : s2.heap = s1.heap.push { cls := .type "list_iterator", data := .fields #[.ref a, .int 0 0] } := by rw [← hs2]
  rw [← hs2h] at itlt it0
  refine wpAny_newObj_type (newEnv_comp ?_) (by show 0 ≤ sizeLine; decide)
  generalize hD : s2.heap.objs.size = Dl
  have hDn : H1 Dl = none := I2.hok.fresh (Nat.le_of_eq hD)
  have itD : it ≠ Dl := by rw [← hD]; exact Nat.ne_of_lt itlt
  generalize hs3 : ({ s2 with heap := s2.heap.push { cls := .type "list", data := .seq ([] : List Value).toArray } } : Shared) = s3
  have hs3h : s3.heap = s2.heap.push { cls := .type "list", data := .seq ([] : List Value).toArray } := by rw [← hs3]
  have I3 : Inv X pins τ (L2.upd H1 Dl (.lst [])) s3 := by
    rw [← hs3]
    refine I2.laid (t' := s2.toks) (fun b o e => Heap.get?_push_of_some _ e) (Nat.le_of_eq hD) ⟨Nat.zero_le _, [], 0, .nil, ?_⟩
    rw [← hD]
    exact Heap.get?_push_size _ rfl
  have E3 : EnvOk X c σ ((Dl, .lst []) :: m2) G2 τ (L2.upd H1 Dl (.lst [])) := E2.new hDn (.lst .nil)
  have fit : FpOk X pins (L2.upd H1 Dl (.lst [])) it := ⟨by rw [L2.upd_ne itD]; exact itf.1, itf.2⟩
  have itlt3 : it < s3.heap.objs.size := by rw [hs3h, Heap.size_push]; exact Nat.lt_succ_of_lt itlt
  have it3 : s3.heap.IsListIter it a 0 := it0.at fun o e => by rw [hs3h]; exact Heap.get?_push_of_some _ e
  -- the block begins
  have I4b := block_start I3 ok nd (fp := [it]) fun b hb => by rw [List.mem_singleton.mp hb]; exact ⟨fit, itlt3⟩
  generalize hcl : cellsFrom (s3.heap.objs.size + 1) scope.names (cloFrom X.env.cells scope.names []) = cl at I4b ⊢
  generalize hC : s3.heap.objs.size = C at I4b ⊢
  generalize hs4 : ({ s3 with heap := pushCells (s3.heap.push { cls := .type "dict", data := .dict #[] }) scope.names } : Shared) = s4 at I4b
  have up34 : ∀ b o, s3.heap.get? b = some o → s4.heap.get? b = some o := fun b o e => by rw [← hs4]; exact pushCells_keeps _ _ _ _ (Heap.get?_push_of_some _ e)
  generalize hH3 : L2.upd H1 Dl (.lst []) = H3 at I3 E3 fit I4b
  have I4 : Inv (bh X scope s3 H3 C cl [it]) [] (wipe τ (own.map (·.2))) H3 s4 := inv_bh I4b fun z hz => by
    obtain ⟨z1, z2, z3, z4, z5⟩ := I3.pin z (List.mem_append_left _ hz)
    refine ⟨up34 _ _ z1, z2, ?_, fun hm => (List.mem_cons.mp (I3.stkSub z.1 hm)).elim z3 z4, z5⟩
    rw [← hC]; exact Nat.ne_of_lt (Heap.lt_size z1)
  show codeAny _ _ (.compStart (.ListComp elt [⟨.Name y py, iter, ifs, 0⟩] scope pos) 0 (.ref it) (.ref Dl) (compEnvC scope cl C X.env)) (compPost (model X.prog X.w) X.A X.xe none (EP X pins τ Q) (.ref Dl) C) _
  have it4 : s4.heap.IsListIter it a 0 := it3.at fun o e => up34 _ _ e
  -- what holds of the iterator in the block
  have stat : ∀ {τ' : L2.St} {H' : Hp} {s' : Shared}, Inv (bh X scope s3 H3 C cl [it]) [] τ' H' s' → H' it = none → FpOk (bh X scope s3 H3 C cl [it]) [] H' it := fun {τ' H' s'} I' hn =>
    ⟨hn, (I'.ok.exf it (List.mem_singleton.mpr rfl)).1, I'.ok.exfs it (List.mem_singleton.mpr rfl), .inl (List.mem_singleton.mpr rfl), fun x c e => (I'.ok.exf it (List.mem_singleton.mpr rfl)).2 x c e, fun z hz => by
      have hz : z ∈ X.pn := by simpa using (show z ∈ X.pn ++ [] from hz)
      obtain ⟨z1, _⟩ := I1.pin z (List.mem_append_left _ hz)
      rw [← hit']; exact Nat.ne_of_lt (Heap.lt_size z1)⟩
  have loop : codeAny (model X.prog X.w) X.A (.compLoop (.ListComp elt [⟨.Name y py, iter, ifs, 0⟩] scope pos) 0 (.ref it) (.ref Dl) (compEnvC scope cl C X.env)) (compPost (model X.prog X.w) X.A X.xe none (EP X pins τ Q) (.ref Dl) C) s4 := by
    refine compLoop_any (fun n s' => ∃ i H' rs m' G', n = ds.length - i ∧ i ≤ ds.length ∧ Inv (bh X scope s3 H3 C cl [it]) [] (wipe τ (own.map (·.2))) H' s' ∧ s'.heap.IsListIter it a i ∧ H' it = none ∧
      P i rs m' ∧ rs.length ≤ i ∧ EnvOk X c σ ((Dl, .lst rs) :: m') G' τ H' ∧ Ex G2 G') ?_ ds.length ⟨0, H3, [], m2, G2, rfl, Nat.zero_le _, I4, it4, fit.1, hP, Nat.le_refl _, E3, Ex.refl G2⟩
    rintro n s5 ⟨i, H5, rs, m5, G5, rfl, hi, I5, it5, n5, hP5, hrs, E5, x5⟩
    have q5 : SqL X.K H5 a vs := ex_l (x5.trans E5.sub) hq2
    obtain ⟨its5, rv5, pl5, hz5⟩ := I5.list q5
    obtain ⟨f0, f1, f2, f3, f4, f5⟩ := stat I5 n5
    by_cases hlt : i < ds.length
    · obtain ⟨v0, hv0, rel0⟩ := hr.rel.get (show (ds.map R.dat)[i]? = some (.dat ds[i]) by rw [List.getElem?_map, List.getElem?_eq_getElem hlt]; rfl)
      have rep0 : Rep X.K G5 ds[i] v0 := by cases rel0 with | dat z => exact z.mono x5
      obtain ⟨u, hu, ru⟩ := rv5.get hv0
      refine wpAny_pyNext_list_item it5 pl5.isList (x := u) (by simpa using hu) fun h' st' sb => ?_
      have I6 := I5.turned (t' := s5.toks) (fun b o hb e => (sb.2 b hb).trans e) f0 f1 f3 f4 f5
      obtain ⟨oit, eit, cit, dit⟩ := id st'
      refine go_of (s := { s5 with heap := h' }) eit cit dit (by decide) ?_
      have I6p : Inv (bh X scope s3 H3 C cl [it]) [(it, oit)] (wipe τ (own.map (·.2))) H5 { s5 with heap := h' } := I6.pins_of fun z hz => by
        rw [List.mem_singleton.mp hz]
        exact ⟨eit, n5, f1, f2, fun v e => by rw [dit] at e; cases e⟩
      -- over data, in the block's part
      have sp : Split ((Dl, .lst rs) :: m5) m5 [(Dl, .lst rs)] := split_back _ _
      have Eb := (E5.into sp (ex := fun _ _ _ _ => False)).blk hb ok hown
      obtain ⟨j', hj', E6⟩ := Eb.put (hf.put (.dat ds[i])) (.inl (own_z hown hj)) (.dat rep0)
      have ej : j = j' := nodup_ix nd (ok.ix _ hj) hj'
      subst ej
      have bk : ∀ {σ2 : Sl} {τ2 : L2.St} {m2 : Mem} {G2 H2 : Hp}, EB X scope (ctSub c H5 G5 m5 fun _ _ _ _ => False) σ2 m2 G2 τ2 H2 → EnvOk X c σ ((Dl, .lst rs) :: m2) G2 τ H2 := fun {σ2 τ2 m2 G2 H2} e => by
        have A := E5.after sp (show OutOk X.K _ _ _ _ _ _ from e.outK)
        refine A.drop (fun z hz => ?_) ?_
        · rcases List.mem_cons.mp hz with rfl | hz
          · exact List.mem_append_right _ List.mem_cons_self
          · exact List.mem_append_left _ hz
        · have pm : (m2 ++ [(Dl, O.lst rs)]).Perm ((Dl, .lst rs) :: m2) := List.perm_append_comm
          exact (pm.map _).nodup_iff.mp A.nd
      have LB : LiveH (bh X scope s3 H3 C cl [it]) (ctSub c H5 G5 m5 fun _ _ _ _ => False) k p := IsBlkH.live ⟨s3, H3, C, cl, [it], rfl⟩ L fun _ _ _ _ z => z
      have T := turn i ds[i] rs m5 (List.getElem?_eq_getElem hlt) hP5 _ _ ⟨s3, H3, C, cl, [it], rfl⟩ LB
      have ow : Own (bh X scope s3 H3 C cl [it]) y := own_at (X := X) hown hj s3 H3 C cl [it]
      refine thnF ((pg_name (X := bh X scope s3 H3 C cl [it]) nd (ok.ix _ hj) ow.1 ow.2).run _ _ _ H5 v0 u (fun τ8 H8 => τ8 = (wipe τ (own.map (·.2))).set j (some v0) ∧ H8 = H5) I6p ru ⟨rfl, rfl⟩) fun _ s8 ⟨τ8, H8, I8, e8, eH8⟩ => ?_
      subst e8 eH8
      have fin : ∀ {s' : Shared} {H' : Hp} {rs' : List R} {m' : Mem} {G' : Hp}, Inv (bh X scope s3 H3 C cl [it]) [(it, oit)] ((wipe τ (own.map (·.2))).set j (some v0)) H' s' → P (i + 1) rs' m' → rs'.length ≤ i + 1 → EnvOk X c σ ((Dl, .lst rs') :: m') G' τ H' → Ex G5 G' →
          ∃ m, m < ds.length - i ∧ ∃ i H' rs m' G', m = ds.length - i ∧ i ≤ ds.length ∧ Inv (bh X scope s3 H3 C cl [it]) [] (wipe τ (own.map (·.2))) H' s' ∧ s'.heap.IsListIter it a i ∧ H' it = none ∧ P i rs m' ∧ rs.length ≤ i ∧ EnvOk X c σ ((Dl, .lst rs) :: m') G' τ H' ∧ Ex G2 G' := fun {s' H' rs' m' G'} I' hP' hl' E' x' => by
        obtain ⟨z1, z2, _⟩ := I'.pin (it, oit) (List.mem_append_right _ (List.mem_singleton.mpr rfl))
        refine ⟨ds.length - (i + 1), by omega, i + 1, H', rs', m', G', rfl, hlt, (I'.pins_of fun z hz => by cases hz).weak (by rw [List.length_set]) fun w v e => ?_, ⟨oit, z1, cit, dit⟩, z2, hP', hl', E', x5.trans x'⟩
        have e2 : (wipe ((wipe τ (own.map (·.2))).set j (some v0)) (own.map (·.2)))[w]? = some (some v) := by
          rw [wipe_set (List.mem_map_of_mem (f := (·.2)) hj), wipe_wipe]
          exact e
        exact (wipe_some e2).1
      refine thnF (dts_at T I8 (EB.toH E6) (Q := fun b H' => ∃ m6 G6, Ex G5 G6 ∧ EB X scope (ctSub c H8 G5 m5 fun _ _ _ _ => False) (f (.dat ds[i])) m6 G6 ((wipe τ (own.map (·.2))).set j (some v0)) H' ∧ ((b = true → DE (bh X scope s3 H3 C cl [it]) (ctSub c H8 G5 m5 fun _ _ _ _ => False) (f (.dat ds[i])) m6 elt fun r m3 => P (i + 1) (rs ++ [r]) m3) ∧ (b = false → P (i + 1) rs m6))) fun b m' G' H' z x E' => ⟨m', G', x, EB.ofH E', z⟩) fun b s9 ⟨H9, I9, m9, G9, x9, E9, y1, y2⟩ => ?_
      cases b with
      | false =>
        simp only [Bool.false_eq_true, if_false]
        exact fin I9 (y2 rfl) (by omega) (bk E9) x9
      | true =>
        simp only [if_true]
        refine thnF (y1 rfl _ s9 _ H9 G9 (fun v H' => ∃ r m6 G6, P (i + 1) (rs ++ [r]) m6 ∧ Ex G9 G6 ∧ EB X scope (ctSub c H8 G5 m5 fun _ _ _ _ => False) (f (.dat ds[i])) m6 G6 ((wipe τ (own.map (·.2))).set j (some v0)) H' ∧ RelR X.K G6 r v) I9 (EB.toH E9) fun r m' G' H' v z x E' rv => ⟨r, m', G', z, x, EB.ofH E', rv⟩) fun z s10 ⟨yv, H10, I10, r10, r, m10, G10, hP10, x10, E10, rr10⟩ => ?_
        have E11 := bk E10
        obtain ⟨_, ho, hh, ro⟩ := E11.mem (Dl, .lst rs) List.mem_cons_self
        cases ro with | @lst _ acc ro =>
        have hacc : acc.length < sizeLine := by rw [← ro.length]; exact Nat.lt_of_le_of_lt (by omega : rs.length ≤ 1000000) (by decide)
        exact app_ok (X := bh X scope s3 H3 C cl [it]) I10 hh hacc r10 fun s11 I11 => fin I11 hP10 (by rw [List.length_append]; simp; omega) (E11.chg .here (.lst (ro.append (.cons rr10 .nil)))) (x9.trans x10)
    · have e : i = ds.length := by omega
      have hot : HotX.HotAt X.A p.1 s5.heap := by
        obtain ⟨hh, v1, e1, c1⟩ := L.hot
        exact ⟨hh, p.2, v1, (I5.pin p (by show p ∈ X.pn ++ []; rw [List.append_nil]; exact L.pin)).1, e1, c1⟩
      have npit : p.1 ≠ it := f5 p (by show p ∈ X.pn ++ []; rw [List.append_nil]; exact L.pin)
      refine end_hot (x1 := p.1) hot npit it5 pl5.isList (by have h1 := rv5.length; have h2 := hr.length; simp; omega) fun h' eb => ?_
      have I6 := I5.turned (t' := s5.toks) (fun b o hb e => eb b o hb e) f0 f1 f3 f4 f5
      have I7 : Inv X pins τ H5 { s5 with heap := h' } := I3.call' (ch := [it]) I6.os I6.base I6.hok I6.bare fun b hb => by
        rw [List.mem_singleton.mp hb]
        exact ⟨fit.2.2.2.1, fit.2.1, fit.2.2.2.2.1, fit.2.2.2.2.2⟩
      obtain ⟨mm, hmm, _⟩ := I6.loc
      have nC : H5 C = none := I6.free
      obtain ⟨g0, g1, g2, g3, g4, g5⟩ := I3.fpOk (H' := H5) (b := C) (Nat.le_of_eq hC) nC
      subst e
      exact ⟨mm, hmm, fun h'' sb => ⟨.ref Dl, H5, I7.turned (t' := s5.toks) (fun b o hb e => (sb.2 b hb).trans e) g0 g1 g3 g4 g5, rfl, q _ _ G5 _ _ (hend rs m5 Dl hP5) (x2.trans x5) E5 .own⟩⟩
  exact codeAny_compStart_list loop (wpAny_pyIter_listiter it4 loop)
end
end D2
/-! ## D2Try -/
/-! try: .. except x as n: .. -/
namespace D2
open PySem PySem.Spec PyProof.Rows L2
inductive Gone : Sl → Str → Sl → Prop
  | here {x o σ} : Gone ((x, o) :: σ) x ((x, none) :: σ)
  | there {q x σ σ'} : Gone σ x σ' → Gone (q :: σ) x (q :: σ')
theorem Gone.ix {σ σ' : Sl} {x : Str} (h : Gone σ x σ') : ∃ (i : Nat) (o : Option R), σ[i]? = some (x, o) ∧ σ' = σ.set i (x, none) := by
  induction h with
  | @here x o σ => exact ⟨0, o, rfl, rfl⟩
  | there _ ih => obtain ⟨i, o, e, q⟩ := ih; exact ⟨i + 1, o, by simpa using e, by rw [q]; rfl⟩
section
variable {X : Cx} {c : Ct} {σ σ' : Sl} {m m' : Mem} {G : Hp} {τ : L2.St} {H : Hp} {x n : Str} {k : Nat}
theorem EnvOk.gone (E : EnvOk X c σ m G τ H) (h : Gone σ x σ') {i : Nat} (hi : X.N[i]? = some x) : EnvOk X c σ' m G (τ.set i none) H := by
  obtain ⟨j, o, e1, rfl⟩ := h.ix
  have hj : j < σ.length := (List.getElem?_eq_some_iff.mp e1).1
  have hNj : X.N[j]? = some x := by rw [E.names, List.getElem?_map, e1]; rfl
  have ij : i = j := nodup_ix E.nm.nd hi hNj
  subst ij
  refine ⟨E.nm, ?_, by rw [List.length_set, List.length_set]; exact E.len, E.sub, E.nd, E.mem, E.fr, E.th, E.ok, E.gn, E.g0, fun p hp hs => ?_, fun l y q hl => ?_⟩
  · rw [E.names, List.map_set]
    refine List.ext_getElem? fun l => ?_
    by_cases hl : i = l
    · subst hl
      rw [List.getElem?_set_self (by rw [List.length_map]; exact hj), List.getElem?_map, e1] <;> rfl
    · rw [List.getElem?_set_ne hl]
  · rcases List.mem_or_eq_of_mem_set hp with hp | rfl
    · exact E.vis p hp hs
    · cases hs
  · by_cases il : i = l
    · subst il
      rw [List.getElem?_set_self hj] at hl
      cases hl
    · rw [List.getElem?_set_ne il] at hl
      obtain ⟨u, h1, h2⟩ := E.sl l y q hl
      exact ⟨u, by rw [List.getElem?_set_ne il]; exact h1, h2⟩
theorem EnvOk.exTo {ex : Sl → Mem → Addr → List (Str × D) → Prop} (e : EnvOk X c σ m G τ H) : EnvOk X { c with ex := ex } σ m G τ H := ⟨e.nm, e.names, e.len, e.sub, e.nd, e.mem, e.fr, e.th, e.ok, e.gn, e.g0, e.vis, e.sl⟩
theorem EnvOk.exOf {ex : Sl → Mem → Addr → List (Str × D) → Prop} (e : EnvOk X { c with ex := ex } σ m G τ H) : EnvOk X c σ m G τ H := ⟨e.nm, e.names, e.len, e.sub, e.nd, e.mem, e.fr, e.th, e.ok, e.gn, e.g0, e.vis, e.sl⟩
theorem EnvOk.trTo {pn : List (Addr × Obj)} {xe : Value → Shared → Prop} (e : EnvOk X c σ m G τ H) : EnvOk (X.tr pn xe) c σ m G τ H := ⟨⟨e.nm.nd, e.nm.dbg⟩, e.names, e.len, e.sub, e.nd, e.mem, e.fr, e.th, e.ok, e.gn, e.g0, e.vis, e.sl⟩
theorem EnvOk.trOf {pn : List (Addr × Obj)} {xe : Value → Shared → Prop} (e : EnvOk (X.tr pn xe) c σ m G τ H) : EnvOk X c σ m G τ H := ⟨⟨e.nm.nd, e.nm.dbg⟩, e.names, e.len, e.sub, e.nd, e.mem, e.fr, e.th, e.ok, e.gn, e.g0, e.vis, e.sl⟩
theorem EnvOk.suTo {a : Addr} {pn : List (Addr × Obj)} (e : EnvOk X c σ m G τ H) : EnvOk (X.suite a pn) c σ m G τ H := ⟨⟨e.nm.nd, e.nm.dbg⟩, e.names, e.len, e.sub, e.nd, e.mem, e.fr, e.th, e.ok, e.gn, e.g0, e.vis, e.sl⟩
theorem EnvOk.suOf {a : Addr} {pn : List (Addr × Obj)} (e : EnvOk (X.suite a pn) c σ m G τ H) : EnvOk X c σ m G τ H := ⟨⟨e.nm.nd, e.nm.dbg⟩, e.names, e.len, e.sub, e.nd, e.mem, e.fr, e.th, e.ok, e.gn, e.g0, e.vis, e.sl⟩
theorem Fit.trTo {F : Hp} {D : Ends} {en : En} {pn : List (Addr × Obj)} {xe : Value → Shared → Prop} (f : Fit X c F D en) : Fit (X.tr pn xe) c F D en :=
  ⟨fun σ m G τ H a b E => f.nx σ m G τ H a b E.trOf, fun r σ m G τ H v a b E rv => f.rt r σ m G τ H v a b E.trOf rv, fun σ m G τ H a b E => f.bk σ m G τ H a b E.trOf, fun σ m G τ H a b E => f.ct σ m G τ H a b E.trOf⟩
theorem Fit.suTo {F : Hp} {D : Ends} {en : En} {a : Addr} {pn : List (Addr × Obj)} (f : Fit X c F D en) : Fit (X.suite a pn) c F D en :=
  ⟨fun σ m G τ H a b E => f.nx σ m G τ H a b E.suOf, fun r σ m G τ H v a b E rv => f.rt r σ m G τ H v a b E.suOf rv, fun σ m G τ H a b E => f.bk σ m G τ H a b E.suOf, fun σ m G τ H a b E => f.ct σ m G τ H a b E.suOf⟩
theorem split_all : ∀ m : Mem, Split m m []
  | [] => .nil
  | (a, o) :: m => .cons .here (split_all m)
/-- the context of a part that begins with the frozen heap G -/
def ctG (c : Ct) (G : Hp) (ex : Sl → Mem → Addr → List (Str × D) → Prop) : Ct := ⟨c.H0, G, c.mu, ex⟩
theorem EnvOk.inG {ex : Sl → Mem → Addr → List (Str × D) → Prop} (e : EnvOk X c σ m G τ H) : EnvOk X (ctG c G ex) σ m G τ H := ⟨e.nm, e.names, e.len, e.sub, e.nd, e.mem, e.fr, e.th, e.ok, fun a o h => .inl h, Ex.refl G, e.vis, e.sl⟩
theorem EnvOk.outG {ex : Sl → Mem → Addr → List (Str × D) → Prop} {σ0 : Sl} {m0 : Mem} {τ0 : L2.St} {H0 G' : Hp} (e0 : EnvOk X c σ0 m0 G τ0 H0) (e : EnvOk X (ctG c G ex) σ m G' τ H) : EnvOk X c σ m G' τ H :=
  ⟨e.nm, e.names, e.len, e.sub, e.nd, e.mem, e.fr, e.th, e.ok, fun a o h => (e.gn a o h).elim (fun z => e0.gn a o z) .inr, e0.g0.trans e.g0, e.vis, e.sl⟩
/-- the suite of except .. as n, behind an exception of the class C with the fields fs -/
def SuiteOk (X : Cx) (k : Nat) (n : Str) (σ : Sl) (m : Mem) (suite : List Stmt) (C : Addr) (fs : List (Str × D)) (en : En) : Prop :=
  ∃ f, PutF σ n f ∧ ∀ (p : Addr × Obj) (pn : List (Addr × Obj)) (c2 : Ct), (∀ σ m C fs, ¬ c2.ex σ m C fs) → Caught X.K c2.G0 p C fs → LiveH (X.suite p.1 (p :: pn)) c2 k p →
    DSs (X.suite p.1 (p :: pn)) c2 (f (rExc p)) m suite { nx := fun σ' m' => ∃ σ3, Gone σ' n σ3 ∧ en.nx σ3 m', rt := en.rt, bk := fun σ' m' => ∃ σ3, Gone σ' n σ3 ∧ en.bk σ3 m', ct := fun σ' m' => ∃ σ3, Gone σ' n σ3 ∧ en.ct σ3 m' }
/-- what the try wishes of the body's exceptions -/
def TryEx (X : Cx) (k : Nat) (n : Str) (cv : Value) (suite : List Stmt) (en : En) (out : Sl → Mem → Addr → List (Str × D) → Prop) : Sl → Mem → Addr → List (Str × D) → Prop := fun σ m C fs =>
  ∃ b, PySem.W.exmOne X.K (.ref C) cv = some b ∧ (b = true → SuiteOk X k n σ m suite C fs en) ∧ (b = false → out σ m C fs)
variable {cv : Value} {body suite : List Stmt} {b₀ : Stmt} {np pos pos' : Pos} {en : En}
theorem roomH_mark {A : Around} {v : Option Value} (r : Room k A) : L2H.RoomH k (A.mark v) := ⟨r.dp, r.un⟩
theorem ds_try (L : Live X c k) (hs : X.stack = X.env :: X.outer) (hf : X.env.frame = some X.env.locals) (hN : X.N.Nodup) (hi : n ∈ X.N) (hln : X.env.kindOf n = some .local) (hc : Names X x cv)
    (hb : ∀ pn xe c1, (∀ σ m C fs, TryEx X k n cv (b₀ :: suite) en c.ex σ m C fs → c1.ex σ m C fs) → Live (X.tr pn xe) c1 k → DSs (X.tr pn xe) c1 σ m body en) :
    DS X c σ m (.Try body [.ExceptHandler (some (.Name x np)) (some n) (b₀ :: suite) pos'] [] [] pos) en := fun F pins s τ H G D I E fx ft => by
  obtain ⟨i, hi⟩ := List.mem_iff_getElem?.mp hi
  let c1 : Ct := ctG c G (TryEx X k n cv (b₀ :: suite) en c.ex)
  let tb : WX → TS := fun W D τ H => ∃ F σ m G, EnvOk X c1 σ m G τ H ∧ (∀ pn xe, Live (X.tr pn xe) c1 k → DSs (X.tr pn xe) c1 σ m body en) ∧ Ex F G ∧ Fit X c1 F D en ∧ (∀ cls d τ' H', Wx X c1 cls d τ' H' → W cls d τ' H')
  let ts : Addr → Value → Option Addr → TS := fun a cls d D τ H => ∃ F σ m G en2 c2 C fs, cls = .ref C ∧ (∀ σ m C fs, ¬ c2.ex σ m C fs) ∧ ExcD X.K c2.G0 fs d ∧ EnvOk X c2 σ m G τ H ∧ Ex F G ∧ Fit X c2 F D en2 ∧
    ∀ oe pn, Caught X.K c2.G0 (a, oe) C fs → LiveH (X.suite a ((a, oe) :: pn)) c2 k (a, oe) → DSs (X.suite a ((a, oe) :: pn)) c2 σ m (b₀ :: suite) en2
  refine (L2N.ps_try_as (i := i) (ts := ts) (tb := tb) (Wout := Wx X c) hs hf hN hi hln hc L.tk (fun W pn xe tk ow => ⟨fun pins s τ H D I ⟨F, σ, m, G, E, d, fx, ft, w⟩ => ?_⟩) (fun a oe cls d pn hz hv => ⟨fun pins s τ H D I ⟨F, σ, m, G, en2, c2, C, fs, ec, hx, he, E, fx, ft, h⟩ => ?_⟩)).run pins s τ H D I ?_
  · refine d pn xe ⟨ow, ?_, L.calm, L.room⟩ F pins s τ H G D I E.trTo fx ft.trTo
    exact L2N.Takes.imp tk fun cls d τ' H' ⟨σ', m', G', C, fs, e1, e2, e3, e4⟩ => w cls d τ' H' ⟨σ', m', G', C, fs, e1, e2, e3.trOf, e4⟩
  · subst ec
    obtain ⟨vs, hvs⟩ := hv
    exact h oe pn ⟨d, hz.zc, ⟨vs, hvs⟩, he⟩ ⟨PassesOwn.never, tk_none hx, ⟨rfl, vs, hvs, hz.2.2 vs hvs⟩, List.mem_cons_self, roomH_mark L.room⟩ F pins s τ H G D I E.suTo fx ft.suTo
  · refine ⟨F, σ, m, G, E.inG, fun pn xe L1 => hb pn xe c1 (fun _ _ _ _ z => z) L1, fx, ?_, ?_⟩
    · exact ⟨fun σ m G' τ H a b e => ft.nx σ m G' τ H a b (E.outG e), fun r σ m G' τ H v a b e rv => ft.rt r σ m G' τ H v a b (E.outG e) rv, fun σ m G' τ H a b e => ft.bk σ m G' τ H a b (E.outG e), fun σ m G' τ H a b e => ft.ct σ m G' τ H a b (E.outG e)⟩
    · rintro cls d τ' H' ⟨σ', m', G', C, fs, ec, ⟨b, hb1, hy, hn⟩, E', hd⟩
      subst ec
      refine ⟨b, hb1, fun hbt a na => ?_, fun hbf => ⟨σ', m', G', C, fs, rfl, hn hbf, E.outG E', hd⟩⟩
      obtain ⟨f, hp, hsu⟩ := hy hbt
      have E1 : EnvOk X c σ' m' G' τ' H' := E.outG E'
      obtain ⟨i', hi', E2⟩ := (E1.into (split_all m') (ex := fun _ _ _ _ => False)).put (hp.put (.dat (.raw (.ref a)))) (.inl hln) (.dat .raw)
      have ei : i = i' := nodup_ix hN hi hi'
      subst ei
      have out : ∀ {σ2 : Sl} {m2 : Mem} {G2 : Hp} {τ2 : L2.St} {H2 : Hp}, EnvOk X (ctSub c H' G' m' fun _ _ _ _ => False) σ2 m2 G2 τ2 H2 → EnvOk X c σ2 m2 G2 τ2 H2 := fun {σ2 m2 G2 τ2 H2} e => by
        have z := E1.back (split_all m') e
        rw [List.append_nil] at z
        exact z
      have up : Ex F G' := fx.trans E'.g0
      refine ⟨G', f (.dat (.raw (.ref a))), m', G', _, ctSub c H' G' m' (fun _ _ _ _ => False), C, fs, rfl, fun _ _ _ _ z => z, hd, E2, Ex.refl G', ?_, fun oe pn hC hL => hsu (a, oe) pn _ (fun _ _ _ _ z => z) hC hL⟩
      exact ⟨fun σ2 m2 G2 τ2 H2 ⟨σ3, g, h⟩ x2 e => ft.nx σ3 m2 G2 _ H2 h (up.trans x2) ((out e).gone g hi), fun r σ2 m2 G2 τ2 H2 v h x2 e rv => ft.rt r σ2 m2 G2 τ2 H2 v h (up.trans x2) (out e) rv,
        fun σ2 m2 G2 τ2 H2 ⟨σ3, g, h⟩ x2 e => ft.bk σ3 m2 G2 _ H2 h (up.trans x2) ((out e).gone g hi), fun σ2 m2 G2 τ2 H2 ⟨σ3, g, h⟩ x2 e => ft.ct σ3 m2 G2 _ H2 h (up.trans x2) ((out e).gone g hi)⟩
end
end D2
/-! ## D2Lib -/
namespace D2
open PySem PySem.Spec PyProof.Rows L2
section
variable {X : Cx} {c : Ct} {σ : Sl} {m m' : Mem} {x : Str} {k : Nat} {e a b : Expr} {K : R → Mem → Prop} {px pos : Pos} {en : En} {r : R} {f : R → Sl}
/-! ### x op= e -/
theorem ds_aug {op : Operator} {ti : TIp} (ho : PIp X op ti) (hx : Own X x) (hl : Lk σ x r) (hp : PutF σ x f)
    (h : DE X c σ m e (fun r2 m1 => ∀ (τ : L2.St) (H G : Hp) (v1 v2 : V) (Q : VK), EnvOk X c σ m1 G τ H → RelR X.K G r v1 → RelR X.K G r2 v2 → CK X c σ τ G (fun r3 m3 => en.nx (f r3) m3) Q → ti v1 v2 H Q)) :
    DS X c σ m (.AugAssign (.Name x px) op e pos) en := fun F pins s τ H G D I E fx ft => by
  obtain ⟨i, v, h1, h2, h3, hv⟩ := E.get hl
  refine (ps_aug (i := i) E.nm.nd h1 hx.1 (pe_t (c := c)) ho hx.2).run pins s τ H D I ⟨v, h2, σ, m, G, _, E, h, fun r2 m1 G1 H1 w d x1 E1 rw' => ?_⟩
  refine d τ H1 G1 v w _ E1 (h3.mono x1) rw' fun r3 m3 G3 H3 u z x3 E3 ru => ?_
  obtain ⟨j, hj, E4⟩ := E3.put (hp.put r3) (hx.1.elim .inl fun q => .inr (.inl q)) ru
  have ij : i = j := nodup_ix E.nm.nd h1 hj
  subst ij
  exact ft.nx _ m3 G3 _ H3 z ((fx.trans x1).trans x3) E4
theorem ds_augI {op : Operator} {g : Int → Int → Int} {i : Int} (ho : PIp X op (ipI g)) (hx : Own X x) (hl : Lk σ x (rI i)) (hp : PutF σ x f) (h : DE X c σ m e (fun r2 m1 => ∃ j, r2 = rI j ∧ en.nx (f (rI (g i j))) m1)) : DS X c σ m (.AugAssign (.Name x px) op e pos) en :=
  ds_aug ho hx hl hp (h.imp fun r2 m1 ⟨j, ej, z⟩ τ H G v1 v2 Q E q1 q2 q => by
    subst ej
    cases int_of q1
    cases int_of q2
    exact ⟨i, j, rfl, rfl, q.now z E (.dat .int)⟩)
/-! ### text.find(text, place) -/
def find3 (s t : List Nat) (i : Int) : Int := Txt.find3 (sOf s) (sOf t) i
abbrev rFind3 : V → List V → Hp → VK → Prop := fun x xs H Q => ∃ (a b : Str) (i : Int), x = .str a ∧ xs = [.str b, .int i] ∧ Q (.int (Txt.find3 a b i)) H
theorem k_find {s t : List Nat} {i : Int} (kk : K (rI (find3 s t i)) m) : MK X c σ m rFind3 (rS s) [rS t, rI i] K := fun τ H G v vs Q E ro rv q => by
  cases str_of ro
  obtain ⟨u1, u2, rfl, r1, r2⟩ := two_of rv
  cases str_of r1
  cases int_of r2
  exact ⟨_, _, i, rfl, rfl, q.now kk E (.dat .int)⟩
/-! ### s[::-1] of a text -/
theorem d_revS {kk : Nat} {p1 p2 p3 : Pos} (h : DE X c σ m e (fun r m1 => ∃ s, r = rS s ∧ s.length ≤ 1000000 ∧ K (rS s.reverse) m1)) : DE X c σ m (.Subscript e (.Slice none none (some (.UnaryOp .USub (.Constant (.int 1) kk p1) p2)) p3) pos) K := fun pins s τ H G Q I E q => by
  refine Subscript_ (thn (h pins s τ H G (fun v H1 => ∃ z m1 G1, v = .str (sOf z) ∧ z.length ≤ 1000000 ∧ Ex G G1 ∧ EnvOk X c σ m1 G1 τ H1 ∧ K (rS z.reverse) m1) I E fun r m1 G1 H1 v ⟨z, er, hl, hk⟩ x1 E1 rv => by subst er; exact ⟨z, m1, G1, str_of rv, hl, x1, E1, hk⟩) fun u s1 ⟨v, H1, I1, ru, z, m1, G1, ev, hl, x1, E1, hk⟩ => ?_)
  subst ev
  obtain ⟨t, rfl⟩ := ru
  have hst : PO X (some (.UnaryOp .USub (.Constant (.int 1) kk p1) p2)) (tPart (tUn (L2.rU fun i => .int (-i)) (tC (.int 1)))) := po_some (pe_un un_neg pe_int)
  refine wpAny_Slice (thn (po_none.run pins s1 τ H1 (fun o H2 => o = none ∧ H2 = H1) I1 ⟨rfl, rfl⟩) fun vl s2 ⟨l, H2, I2, pl, el, e2⟩ => ?_)
  subst el e2
  refine thn (po_none.run pins s2 τ H2 (fun o H3 => o = none ∧ H3 = H2) I2 ⟨rfl, rfl⟩) fun vu s3 ⟨w, H3, I3, pu, eu, e3⟩ => ?_
  subst eu e3
  refine thn (hst.run pins s3 τ H3 (fun o H4 => o = some (-1) ∧ H4 = H3) I3 ⟨1, rfl, -1, rfl, rfl, rfl⟩) fun vs s4 ⟨o, H4, I4, ps, eo, e4⟩ => ?_
  subst eo e4
  obtain ⟨l, rfl, el⟩ := IsPart.raw pl
  obtain ⟨w, rfl, ew⟩ := IsPart.raw pu
  obtain ⟨st, rfl, es⟩ := IsPart.raw ps
  have I5 : Inv X pins τ H4 { s4 with heap := s4.heap.push { cls := .type "slice", data := .fields #[partValue l, partValue w, partValue st] } } := I4.kept (t' := s4.toks) fun b ob q => Heap.get?_push_of_some _ q
  show wpAny (model X.prog X.w) X.A (subscriptTail e (.Slice none none (some (.UnaryOp .USub (.Constant (.int 1) kk p1) p2)) p3) (.str (sOf z) t) (.ref s4.heap.objs.size)) (EP X pins τ Q) X.xe _
  have est : ((st.map (·.1)).getD 1) = -1 := by rw [es]; rfl
  refine tail_any (ops := [.str (sOf z) t, .ref s4.heap.objs.size]) (typeIs_str _ _ _) (PySem.F.slot_str_getitem.lookup) ?_ (by with_unfolding_all rfl)
  refine wpAny_getItem_str_slice (l := l) (u := w) (st := st) ⟨_, Heap.get?_push_size _ rfl, rfl, rfl⟩ (by rw [est]; rfl) ?_
  have epick : slicePicked (sOf z) l w st = (List.range (sOf z).length).map fun k => (sOf z).length - 1 - k := by
    unfold slicePicked
    rw [el, ew, est]
    exact picked_rev _
  have erev : ((slicePicked (sOf z) l w st).filterMap ((sOf z).cps[·]?)).toArray = z.reverse.toArray := by
    rw [epick, sOf_len]
    congr 1
    have h1 := PySem.W.krv_range z.length
    rw [h1, List.filterMap_reverse]
    congr 1
    have h2 := PySem.W.krv_all z.toArray
    simpa [sOf] using h2
  unfold sliceMade
  rw [est]
  rw [if_neg (by simp)]
  rw [erev]
  refine ⟨?_, .str (sOf z.reverse), H4, I5.tok _, ⟨_, rfl⟩, q.mono x1 |>.now hk E1 (.dat .str)⟩
  show z.reverse.toArray.size ≤ _
  rw [List.size_toArray, List.length_reverse]
  exact Nat.le_trans hl (by decide)
end
end D2
/-! ## D2Dict -/
/-! dicts with int and text keys, sorted lists of data -/
namespace D2
open PySem PySem.Spec PyProof.Rows L2
/-- d[k] = r -/
def putR (kvs : List (Key × R)) (k : Key) (r : R) : List (Key × R) :=
  if (kvs.any fun kv => decide (kv.1 = k)) = true then kvs.map (fun kv => if kv.1 = k then (kv.1, r) else kv) else kvs ++ [(k, r)]
section
variable {Kf : PySem.W.Frag} {G : Hp}
theorem RelK.keys : ∀ {rs : List (Key × R)} {vs : List (Key × V)}, RelK Kf G rs vs → rs.map (·.1) = vs.map (·.1)
  | _, _, .nil => rfl
  | _, _, .cons _ t => by simp [RelK.keys t]
theorem RelK.length {rs : List (Key × R)} {vs : List (Key × V)} (h : RelK Kf G rs vs) : rs.length = vs.length := by
  have := congrArg List.length h.keys
  simpa using this
theorem RelK.app : ∀ {rs : List (Key × R)} {vs : List (Key × V)} {k : Key} {r : R} {v : V}, RelK Kf G rs vs → RelR Kf G r v → RelK Kf G (rs ++ [(k, r)]) (vs ++ [(k, v)])
  | _, _, _, _, _, .nil, h => .cons h .nil
  | _, _, _, _, _, .cons h' t, h => .cons h' (t.app h)
theorem RelK.over {k : Key} {r : R} {v : V} (h : RelR Kf G r v) : ∀ {rs : List (Key × R)} {vs : List (Key × V)}, RelK Kf G rs vs → RelK Kf G (rs.map fun kv => if kv.1 = k then (kv.1, r) else kv) (vs.map fun kv => if kv.1 = k then (kv.1, v) else kv)
  | _, _, .nil => .nil
  | _, _, @RelK.cons _ _ k0 r0 v0 rs vs h' t => by
    simp only [List.map_cons]
    by_cases e : k0 = k
    · rw [if_pos e, if_pos e]; exact .cons h (RelK.over h t)
    · rw [if_neg e, if_neg e]; exact .cons h' (RelK.over h t)
theorem any_keys {α : Type} (kvs : List (Key × α)) (k : Key) : (kvs.any fun kv => decide (kv.1 = k)) = (kvs.map (·.1)).any fun x => decide (x = k) := by
  rw [List.any_map]; rfl
theorem RelK.put {rs : List (Key × R)} {vs : List (Key × V)} {k : Key} {r : R} {v : V} (h : RelK Kf G rs vs) (hv : RelR Kf G r v) : RelK Kf G (putR rs k r) (putK vs k v) := by
  unfold putR putK
  rw [any_keys rs, any_keys vs, h.keys]
  by_cases c : ((vs.map (·.1)).any fun x => decide (x = k)) = true
  · rw [if_pos c, if_pos c]; exact RelK.over hv h
  · rw [if_neg c, if_neg c]; exact h.app hv
end
/-- a key as a value -/
def kR : Key → R
  | .inl i => rI i
  | .inr z => rS (lit z)
theorem kR_rel {Kf : PySem.W.Frag} {G : Hp} : ∀ k : Key, RelR Kf G (kR k) (kV k)
  | .inl i => .dat .int
  | .inr z => .dat rep_str
/-- a value as a key -/
inductive IsKey : R → Key → Prop
  | int {i} : IsKey (rI i) (.inl i)
  | str {s} : IsKey (rS s) (.inr (sOf s))
theorem IsKey.v {Kf : PySem.W.Frag} {G : Hp} {r : R} {k : Key} {v : V} (h : IsKey r k) (rv : RelR Kf G r v) : v = kV k := by
  cases h with
  | int => exact int_of rv
  | str => exact str_of rv
section
variable {X : Cx} {c : Ct} {σ : Sl} {m m' : Mem} {x : Str} {k : Nat} {e a b : Expr} {K : R → Mem → Prop} {px pos : Pos} {en : En}
/-- {k: v} -/
theorem d_disp1 {ke ve : Expr} (h : ∀ p, DE X c σ ((p, .dk []) :: m) ke (fun rk m1 => DE X c σ m1 ve (fun rv m2 => ∃ k m3, IsKey rk k ∧ Chg m2 p (.dk []) (.dk [(k, rv)]) m3 ∧ K (.own p) m3))) : DE X c σ m (.Dict [some ke] [ve] pos) K := by
  refine de_of (pe_disp (pps_cons (pe_t (X := X) (c := c) (e := ke)) (pe_t (X := X) (c := c) (e := ve)) pps_nil) rfl rfl (by simp) (by simp)) fun τ H G Q E q p hp => ?_
  refine ⟨σ, _, G, _, E.new hp (.dk .nil), h p, fun rk m1 G1 H1 v1 d x1 E1 r1 => ?_⟩
  refine ⟨σ, m1, G1, _, E1, d, fun rv m2 G2 H2 v2 ⟨kk, m3, hk, hc, z⟩ x2 E2 r2 => ?_⟩
  obtain ⟨_, ho, hh, ro⟩ := E2.mem _ hc.mem
  cases ro with | dk ro =>
  cases ro
  refine ⟨hh, [(kk, v2)], ?_, by simp, ?_⟩
  · rw [hk.v r1] <;> rfl
  · show Q (.ref p) (L2.upd H2 p (.dK (putK [] kk v2)))
    exact q _ m3 G2 _ _ z (x1.trans x2) (E2.chg hc (.dk (.cons r2 .nil))) .own
/-- d[k] = v -/
theorem ds_setD (L : Live X c k) {px : Pos} (h : DE X c σ m e (fun rv m1 => DE X c σ m1 a (fun ro m2 => DE X c σ m2 b (fun ri m3 => ∃ q kvs kk m4, ro = .own q ∧ IsKey ri kk ∧ Chg m3 q (.dk kvs) (.dk (putR kvs kk rv)) m4 ∧ kvs.length < 1000000 ∧ en.nx σ m4))))
    (hs : swapsWithSole [.Subscript a b px] e pos.line X.env = pure false := by rfl) (hw : swappedStores [.Subscript a b px] e X.env = pure none := by rfl) (h1 : (assignEach [.Subscript a b px] X.env).map (·.2) = [assign (.Subscript a b px) X.env] := by rfl)
    (ha : ∀ v, assign (.Subscript a b px) X.env v = (do
      let ov ← holding [v] (eval a X.env)
      let iv ← holding [v, ov] (eval b X.env)
      standAt px
      holding [v, ov, iv] (setItem ov iv v)
      release [v, ov, iv] []) := by intro _; rfl) :
    DS X c σ m (.Assign [.Subscript a b px] e pos) en := fun F pins s τ H G D I E fx ft => by
  refine (ps_asg (pe_t (c := c)) (pg_sub (pe_t (c := c)) (pe_t (c := c)) (set_dict (by have := L.room.units; omega)) ha) hs hw h1).run pins s τ H D I ?_
  refine ⟨σ, m, G, _, E, h, fun rv m1 G1 H1 v d1 x1 E1 r1 => ?_⟩
  refine ⟨σ, m1, G1, _, E1, d1, fun ro m2 G2 H2 vo d2 x2 E2 r2 => ?_⟩
  refine ⟨σ, m2, G2, _, E2, d2, fun ri m3 G3 H3 vi ⟨q, kvs, kk, m4, e1, hk, hc, hl, z⟩ x3 E3 r3 => ?_⟩
  subst e1
  have r2' := r2.mono x3
  cases r2'
  obtain ⟨_, ho, hh, rr⟩ := E3.mem _ hc.mem
  cases rr with | @dk _ vs rr =>
  rw [hk.v r3]
  refine ⟨q, _, rfl, DPut.k hh (by rw [← rr.length]; exact Nat.lt_of_lt_of_le hl (by decide)), ?_⟩
  exact ft.nx σ m4 G3 τ _ z (((fx.trans x1).trans x2).trans x3) (E3.chg hc (.dk (rr.put (r1.mono (x2.trans x3)))))
/-- list(d) -/
theorem d_listD (L : Live X c k) (hg : Gl X "list") (hm : X.mg "list" = none) (h : DE X c σ m e (fun r m1 => ∃ q kvs m2, r = .own q ∧ Has m1 q (.dk kvs) m2 ∧ ∀ p, K (.own p) ((p, .lst (kvs.map fun kv => kR kv.1)) :: m1)))
    (hst : starEach [e] X.env = (false, eval e X.env) :: starEach [] X.env := by rfl) : DE X c σ m (.Call (.Name "list" px) [e] [] pos) K :=
  de_callT (call_listD L.calm) hg hm (by decide +kernel) (da_cons (h.imp fun r m1 ⟨q0, kvs, m2, er, hh, z⟩ => da_nil fun τ H G vs Q E rv q => by
    subst er
    obtain ⟨v, rfl, r1⟩ := one_of rv
    cases r1
    obtain ⟨_, ho, hho, ro⟩ := E.mem _ hh.mem
    cases ro with | @dk _ us ro =>
    refine ⟨q0, us, rfl, .inl hho, fun p hp => ?_⟩
    have rel : ∀ {rs : List (Key × R)} {vs : List (Key × V)}, RelK X.K G rs vs → RelRs X.K G (rs.map fun kv => kR kv.1) (vs.map fun kv => kV kv.1) := fun {rs vs} h => by
      induction h with
      | nil => exact .nil
      | @cons kk r v rs vs _ _ ih => exact .cons (kR_rel kk) ih
    exact q _ _ G _ _ (z p) (Ex.refl G) (E.new hp (.lst (rel ro))) .own) hst) (he := hst)
end

/-! ### sorted(a list of data) -/
section
variable {X : Cx}
/-- g says what the items read as -/
def rSortedD (K : PySem.W.Frag) : List V → Hp → VK → Prop := fun xs H Q => ∃ (a : Addr) (ys : List (V × PyData)), xs = [.ref a] ∧ SqL K H a (ys.map (·.1)) ∧ DpAll K H (ys.map (·.1)) (ys.map (·.2)) ∧ PySem.W.AllAlike (ys.map (·.2)) ∧ PySem.W.Sortable (ys.map (·.2)) ∧ ys.length ≤ 1000000 ∧ (∀ y ∈ ys, y.2.depth ≤ 60) ∧
  ∀ p, H p = none → Q (.ref p) (L2.upd H p (.lst ((ys.mergeSort (PySem.W.dataLe false (·.2))).map (·.1))))
theorem call_sortedL (hu : X.A.units + 64 < cLine) : CallR X (.builtin "sorted") (rSortedD X.K) := by
  intro pins s τ H xs us Q I r h
  obtain ⟨a, ys, ex, hq, hdp, hal, hso, hl, hdep, q⟩ := h
  subst ex
  obtain rfl := Vals.ref1 r
  obtain ⟨its, rv, pl, hz⟩ := I.list hq
  obtain ⟨as, rd⟩ := Dp.readsAll I _ _ _ hdp rv
  have e1 : ∀ {ys : List (V × PyData)} {its : List Value} {as : List Addr}, Vals (ys.map (·.1)) its → ReadsAll s.heap its (ys.map (·.2)) as →
      PySem.W.EachIs (fun u y => L2.RelV y.1 u) its ys ∧ PySem.W.EachIs (fun u y => ∃ as, Reads s.heap u y.2 as) its ys := by
    intro ys
    induction ys with
    | nil => intro its as r1 r2; cases r1; exact ⟨.nil, .nil⟩
    | cons y ys ih =>
      intro its as r1 r2
      cases r1 with | cons p ps =>
      cases r2 with | cons t ts =>
      obtain ⟨i1, i2⟩ := ih ps ts
      exact ⟨.cons p i1, .cons ⟨_, t⟩ i2⟩
  obtain ⟨g1, g2⟩ := e1 rv rd
  refine PySem.W.sorted_data (bs := ys) (enc := (·.2)) (R := fun u y => L2.RelV y.1 u) pl.isList g1 g2 hal hso (Nat.le_trans hl (by decide)) (fun y hy => by have := hdep y hy; omega) fun out ho eo => ?_
  obtain ⟨cn, hcn⟩ := PyProof.Rows.sortedAll_at s.heap its out.toArray
  have g3 : ∀ {ys : List (V × PyData)} {out : List Value}, PySem.W.EachIs (fun u y => L2.RelV y.1 u) out ys → Vals (ys.map (·.1)) out := by
    intro ys
    induction ys with
    | nil => intro out r; cases r; exact .nil
    | cons y ys ih => intro out r; cases r with | cons p ps => exact .cons p (ih ps)
  have hlen : ((ys.mergeSort (PySem.W.dataLe false (·.2))).map (·.1)).length ≤ sizeLine := by
    rw [List.length_map, List.length_mergeSort]; exact Nat.le_trans hl (by decide)
  exact ⟨.ref (s.heap.objs.size + 1), _, I.laid (a := s.heap.objs.size + 1) (o := .lst ((ys.mergeSort (PySem.W.dataLe false (·.2))).map (·.1))) (t' := s.toks) (fun b o e => PyProof.Rows.sortedAll_old e) (Nat.le_succ _) ⟨hlen, out, cn, g3 eo, hcn⟩, rfl, q _ (I.hok.fresh (Nat.le_succ _))⟩
variable {c : Ct} {σ : Sl} {m : Mem} {k : Nat} {e : Expr} {K : R → Mem → Prop} {px pos : Pos} {β : Type} {f : β → D} {g : β → PyData}
theorem d_sorted (L : Live X c k) (hg : Gl X "sorted") (hm : X.mg "sorted" = none)
    (h : DE X c σ m e (fun r m1 => ∃ xs : List β, VL m1 r (xs.map fun x => .dat (f x)) ∧ (∀ x, PV m1 (.dat (f x)) (g x)) ∧ PySem.W.AllAlike (xs.map g) ∧ PySem.W.Sortable (xs.map g) ∧ xs.length ≤ 1000000 ∧ (∀ x ∈ xs, (g x).depth ≤ 60) ∧
      ∀ p, K (.own p) ((p, .lst ((xs.mergeSort (PySem.W.dataLe false g)).map fun x => .dat (f x))) :: m1)))
    (hst : starEach [e] X.env = (false, eval e X.env) :: starEach [] X.env := by rfl) : DE X c σ m (.Call (.Name "sorted" px) [e] [] pos) K :=
  de_callB (call_sortedL L.room.units) hg hm (by decide +kernel) (da_cons (h.imp fun r m1 ⟨xs, hv, hp, hal, hso, hl, hd, z⟩ => da_nil fun τ H G vs Q E rv q => by
    obtain ⟨v, rfl, r1⟩ := one_of rv
    obtain ⟨a, us, rfl, hs, rr⟩ := hv.at E r1
    have hlen : us.length = xs.length := by rw [← rr.length, List.length_map]
    have pvs : ∀ xs : List β, PVs m1 (xs.map fun x => .dat (f x)) (xs.map g) := fun xs => by
      induction xs with
      | nil => exact .nil
      | cons x xs ih => exact .cons (hp x) ih
    let zs : List (V × β) := us.zip xs
    let ys : List (V × PyData) := zs.map fun z => (z.1, g z.2)
    have y1 : ys.map (·.1) = us := by
      show ((us.zip xs).map fun z => (z.1, g z.2)).map (·.1) = us
      rw [List.map_map]
      show (us.zip xs).map Prod.fst = us
      rw [List.map_fst_zip]
      omega
    have y2 : ys.map (·.2) = xs.map g := by
      show ((us.zip xs).map fun z => (z.1, g z.2)).map (·.2) = _
      rw [List.map_map]
      show (us.zip xs).map (g ∘ Prod.snd) = _
      rw [← List.map_map, List.map_snd_zip]
      omega
    refine ⟨a, ys, rfl, by rw [y1]; exact hs, by rw [y1, y2]; exact PVs.dp E (pvs xs) rr, by rw [y2]; exact hal, by rw [y2]; exact hso, ?_, ?_, fun p hp' => ?_⟩
    · have hy : us.length = ys.length := by rw [← y1]; simp only [List.length_map]
      rw [← hy, hlen]
      exact hl
    · intro y hy
      obtain ⟨w, hw, rfl⟩ := List.mem_map.mp hy
      exact hd w.2 (List.of_mem_zip hw).2
    · have srt : (ys.mergeSort (PySem.W.dataLe false (·.2))).map (·.1) = (zs.mergeSort (PySem.W.dataLe false fun z => g z.2)).map (·.1) := by
        have q1 : (zs.mergeSort (PySem.W.dataLe false fun z => g z.2)).map (fun z => (z.1, g z.2)) = ys.mergeSort (PySem.W.dataLe false (·.2)) := List.map_mergeSort fun _ _ _ _ => rfl
        rw [← q1, List.map_map]
        rfl
      have srt2 : (zs.mergeSort (PySem.W.dataLe false fun z => g z.2)).map (·.2) = xs.mergeSort (PySem.W.dataLe false g) := by
        have q1 : (zs.mergeSort (PySem.W.dataLe false fun z => g z.2)).map (·.2) = (zs.map (·.2)).mergeSort (PySem.W.dataLe false g) := List.map_mergeSort fun _ _ _ _ => rfl
        rw [q1]
        congr 1
        show (us.zip xs).map Prod.snd = xs
        rw [List.map_snd_zip]
        omega
      have rel : ∀ {l : List (V × β)}, (∀ z ∈ l, RelR X.K G (.dat (f z.2)) z.1) → RelRs X.K G ((l.map (·.2)).map fun x => .dat (f x)) (l.map (·.1)) := fun {l} hl => by
        induction l with
        | nil => exact .nil
        | cons z l ih => exact .cons (hl z List.mem_cons_self) (ih fun w hw => hl w (List.mem_cons_of_mem _ hw))
      have allz : ∀ {us : List V} {xs : List β}, RelRs X.K G (xs.map fun x => .dat (f x)) us → ∀ z ∈ us.zip xs, RelR X.K G (.dat (f z.2)) z.1 := fun {us xs} h => by
        intro z hz
        induction xs generalizing us with
        | nil => simp at hz
        | cons x xs ih =>
          cases h with | cons h1 h2 =>
          rw [List.zip_cons_cons] at hz
          rcases List.mem_cons.mp hz with rfl | hz
          · exact h1
          · exact ih h2 hz
      have R1 := rel (l := zs.mergeSort (PySem.W.dataLe false fun z => g z.2)) fun z hz => allz rr z ((List.mergeSort_perm _ _).mem_iff.mp hz)
      rw [srt2] at R1
      rw [srt]
      exact q _ _ G _ _ (z p) (Ex.refl G) (E.new hp' (.lst R1)) .own) hst) (he := hst)
end
end D2
/-! ## D2Comp2 -/
/-! comprehensions over a dict's keys, of two clauses -/
namespace D2
open PySem PySem.Spec PyProof.Rows L2
theorem Has.chg {m m' : Mem} {a : Addr} {o : O} (o' : O) (h : Has m a o m') : ∃ m2, Chg m a o o' m2 ∧ Has m2 a o' m' := by
  induction h with
  | here => exact ⟨_, .here, .here⟩
  | there _ ih => obtain ⟨m2, h1, h2⟩ := ih; exact ⟨_, .there h1, .there h2⟩
def kD : Key → D
  | .inl i => .int i
  | .inr z => .str (lit z)
theorem kD_rep {Kf : PySem.W.Frag} {G : Hp} : ∀ k : Key, Rep Kf G (kD k) (kV k)
  | .inl i => .int
  | .inr z => rep_str
section
variable {X : Cx} {c : Ct} {σ σb : Sl} {m m0 : Mem} {scope : Scope} {own : List (Str × Nat)} {tg elt : Expr} {ifs : List Expr} {g : TG} {A : R → (Sl → Prop) → Prop} {K : R → Mem → Prop} {k : Nat} {pos px : Pos} {x : Str} {a : Addr}
/-- an object that is no one's changes -/
theorem EnvOk.poke {G : Hp} {τ : L2.St} {H : Hp} {u : HO} (e : EnvOk X c σ m G τ H) (ha : a ∉ m.map (·.1)) (hg : G a = none) (hc : a ∈ c.mu ∨ c.H0 a = none) : EnvOk X c σ m G τ (L2.upd H a u) where
  nm := e.nm
  names := e.names
  len := e.len
  sub := e.sub.upd hg
  nd := e.nd
  mem := fun q hq => by
    obtain ⟨g1, ho, hh, ro⟩ := e.mem q hq
    have ne : q.1 ≠ a := fun z => ha (by rw [← z]; exact List.mem_map_of_mem (f := (·.1)) hq)
    exact ⟨g1, ho, by rw [L2.upd_ne ne]; exact hh, ro⟩
  fr := fun b w q hm => by
    by_cases eb : b = a
    · subst eb
      rcases hc with z | z
      · exact absurd z hm
      · rw [z] at q; cases q
    · rw [L2.upd_ne eb]; exact e.fr b w q hm
  th := fun b hm => by
    by_cases eb : b = a
    · subst eb; rw [L2.upd_same]; exact fun z => by cases z
    · rw [L2.upd_ne eb]; exact e.th b hm
  ok := e.ok
  gn := e.gn
  g0 := e.g0
  vis := e.vis
  sl := e.sl
theorem de_lcD {kvs : List (Key × R)} (P : Nat → List R → Mem → Prop) (L : Live X c k) (nd : X.N.Nodup) (ok : BlkOk X.N X.env.scope scope own) (hown : ∀ p ∈ own, scope.names.lookup p.1 = some .local) (hb : Blk scope σ σb) (t : CTgt X scope own σb tg g A)
    (hx : Lk σ x (.own a)) (hc : Has m a (.dk kvs) m0) (hP : P 0 [] m0)
    (turn : ∀ i d rs m', (kvs.map fun kv => kD kv.1)[i]? = some d → P i rs m' → A (.dat d) (fun σ2 => Turn1 X scope k σ2 m' ifs elt (fun r m3 => P (i + 1) (rs ++ [r]) m3) (fun m2 => P (i + 1) rs m2))) (hl : kvs.length ≤ 1000000)
    (hend : ∀ rs m' p, P (kvs.map fun kv => kD kv.1).length rs m' → K (.own p) ((p, .lst rs) :: m')) : DE X c σ m (.ListComp elt [⟨tg, .Name x px, ifs, 0⟩] scope pos) K := fun pins s τ H G Q I E q => by
  obtain ⟨i, v, h1, h2, h3, hv⟩ := E.get hx
  obtain ⟨hd, hcd⟩ := E.nm.dbg x (List.mem_of_getElem? h1)
  cases h3
  obtain ⟨ga, ho, hh, ro⟩ := E.mem _ hc.mem
  cases ro with | @dk _ vs ro =>
  refine (pe_lock (pe_lc L.calm nd (pi_keys (pe_var h1 hv hd hcd)) ok (fun s H C cl fp => t.pg ok hown nd L.calm s H C cl fp) (fun s H C cl fp => pts_U s H C cl fp) (fun s H C cl fp => pe_U s H C cl fp) (by intro _; rfl))).run pins s τ H Q I ?_
  refine ⟨a, .dK vs, hh, trivial, fun od => ?_⟩
  obtain ⟨m2, hc2, hr2⟩ := hc.chg (.any (.frz od (.dK vs)))
  have E1 := (E.chg hc2 (RelO.any (o := .frz od (.dK vs)))).rest hr2
  have na : a ∉ m0.map (·.1) := fun z => by
    obtain ⟨p, hp, e⟩ := List.mem_map.mp z
    exact hc.notIn E.nd p hp e
  have acc : a ∈ c.mu ∨ c.H0 a = none := E.ok _ hc.mem
  have kk : KeepK [(a, HO.frz od (.dK vs))] m0 G (L2.upd H a (.frz od (.dK vs))) := fun p hp => by
    rw [List.mem_singleton.mp hp]
    exact ⟨L2.upd_same, na, ga⟩
  have lens : kvs.length = vs.length := ro.length
  refine lc_read (K := K) (ds := kvs.map fun kv => kD kv.1) [(a, HO.frz od (.dK vs))] P L ok hown hb t turn (by rw [List.length_map]; exact hl) hend E1 (fun R' hR => ?_) fun r m' G' H' w z x' E' rv kk' => ?_
  · refine ⟨.ref a, h2, a, od, rfl, .inl ⟨vs, L2.upd_same, hR _ m0 G _ _ ⟨rfl, hP⟩ (Ex.refl G) E1 ?_ kk⟩⟩
    intro j H2 _ hk
    have hka := hk _ (List.mem_singleton.mpr rfl)
    refine ⟨fun d hd' => ⟨⟨hka, ?_⟩, fun y H3 ⟨e3, kq, vq, ej, ey⟩ => .inl ⟨e3, ?_⟩⟩, fun hle => ⟨hka, by rw [List.length_map] at hle; omega⟩⟩
    · have := (List.getElem?_eq_some_iff.mp hd').1
      rw [List.length_map] at this
      omega
    · have ks : kvs.map (·.1) = vs.map (·.1) := ro.keys
      have h5 : (kvs.map fun kv => kD kv.1)[j]? = (vs.map fun kv => kD kv.1)[j]? := by
        have : (kvs.map (·.1)).map kD = (vs.map (·.1)).map kD := by rw [ks]
        rw [List.map_map, List.map_map] at this
        exact congrArg (·[j]?) this
      rw [h5, List.getElem?_map, ej] at hd'
      cases hd'
      rw [ey]
      exact kD_rep kq
  · obtain ⟨k1, k2, k3⟩ := kk' _ (List.mem_singleton.mpr rfl)
    exact ⟨k1, q r m' G' _ w z x' (E'.poke k2 k3 acc) rv⟩
end

/-! ### two clauses -/
/-- a new list is taken as it is, or frozen -/
inductive Now (Kf : PySem.W.Frag) (m : Mem) (p : Addr) (rs : List R) : R → Mem → Prop
  | own : Now Kf m p rs (.own p) ((p, .lst rs) :: m)
  | frz {d m'} (h : Frz ((p, .lst rs) :: m) (.own p) d m') : Now Kf m p rs (.dat d) m'
theorem Now.env {X : Cx} {c : Ct} {σ : Sl} {Kf : PySem.W.Frag} {m : Mem} {p : Addr} {rs : List R} {r2 : R} {m2 : Mem} (h : Now Kf m p rs r2 m2) {G : Hp} {τ : L2.St} {H : Hp} {v : V} (E : EnvOk X c σ ((p, .lst rs) :: m) G τ H) (rv : RelR X.K G (.own p) v) : ∃ G', Ex G G' ∧ EnvOk X c σ m2 G' τ H ∧ RelR X.K G' r2 v := by
  cases h with
  | own => exact ⟨G, Ex.refl G, E, rv⟩
  | frz h =>
    obtain ⟨G2, x2, E2, r2⟩ := h.env E rv
    exact ⟨G2, x2, E2, .dat r2⟩
section
variable {X : Cx} {c : Ct} {σ σb : Sl} {m : Mem} {scope : Scope} {own : List (Str × Nat)} {tg elt iter iter1 : Expr} {ifs ifs1 : List Expr} {g : TG} {A : R → (Sl → Prop) → Prop} {K : R → Mem → Prop} {k j1 : Nat} {pos p1 : Pos} {y1 : Str}
def tiU (X : Cx) (scope : Scope) (tg1 iter1 : Expr) : TI := fun τ H R => ∀ (s : Shared) (H0 : Hp) (C : Addr) (cl : List (Str × Addr)) (fp : List Addr) (pins : List (Addr × Obj)) (s1 : Shared), Inv (bx X scope s H0 C cl fp) pins τ H s1 →
  wpAny (model X.prog X.w) X.A (eval iter1 (bx X scope s H0 C cl fp).env) (fun v s1 => wpAny (model X.prog X.w) X.A (pyIter v) (PIE (bx X scope s H0 C cl fp) pins τ tg1 R) (fun _ _ => False) s1) (fun _ _ => False) s1
theorem pi_U {tg1 : Expr} (s : Shared) (H0 : Hp) (C : Addr) (cl : List (Str × Addr)) (fp : List Addr) : PI (bx X scope s H0 C cl fp) tg1 iter1 (tiU X scope tg1 iter1) := ⟨fun pins s1 τ H R I h => h s H0 C cl fp pins s1 I⟩
/-- the inner clause, run behind the outer item; rs is the list so far -/
def In2 (X : Cx) (scope : Scope) (k : Nat) (y1 : Str) (p1 : Pos) (j1 : Nat) (iter1 : Expr) (ifs1 : List Expr) (elt : Expr) (σ2 : Sl) (m : Mem) (rs : List R) (out : List R → Mem → Prop) : Prop :=
  ∃ (f1 : R → Sl) (ds1 : List D) (P2 : Nat → List R → Mem → Prop), PutF σ2 y1 f1 ∧ σ2[j1]? = some (y1, none) ∧
    (∀ Xb c', IsBlk X scope Xb → Live Xb c' k → DIt Xb c' σ2 m (.Name y1 p1) iter1 (fun ds' m1 => ds' = ds1 ∧ P2 0 rs m1)) ∧
    (∀ jj d1 rs' m', ds1[jj]? = some d1 → P2 jj rs' m' → ∀ Xb c', IsBlk X scope Xb → Live Xb c' k → DTs Xb c' (f1 (.dat d1)) m' ifs1 (fun b m4 => (b = true → ∀ Xe, IsBlk X scope Xe → Live Xe c' k → DE Xe c' (f1 (.dat d1)) m4 elt (fun r m5 => P2 (jj + 1) (rs' ++ [r]) m5)) ∧ (b = false → P2 (jj + 1) rs' m4))) ∧
    (∀ jj rs' m', P2 jj rs' m' → rs'.length ≤ 900000) ∧ (∀ rs' m', P2 ds1.length rs' m' → out rs' m')
theorem EB.wipe1 {τ : L2.St} {H G : Hp} {σ2 : Sl} {o : Option R} {z : Str} (E : EB X scope c σ2 m G τ H) (h : σ2[j1]? = some (z, none)) : EB X scope c σ2 m G (wipe τ [j1]) H := by
  refine ⟨E.nm, E.names, by rw [wipe_length]; exact E.len, E.sub, E.nd, E.mem, E.fr, E.th, E.ok, E.gn, E.g0, E.vis, fun i x r hi => ?_⟩
  obtain ⟨v, h1, h2⟩ := E.sl i x r hi
  refine ⟨v, ?_, h2⟩
  rw [wipe_at]
  · exact h1
  · intro hm
    rw [List.mem_singleton.mp hm, h] at hi
    cases hi
theorem lc2_read {ds : List D} {wi : TI} (P : Nat → List R → Mem → Prop) (L : Live X c k) (ok : BlkOk X.N X.env.scope scope own) (hown : ∀ p ∈ own, scope.names.lookup p.1 = some .local) (hb : Blk scope σ σb) (t : CTgt X scope own σb tg g A) (hj1 : (y1, j1) ∈ own)
    (turn : ∀ i d rs m', ds[i]? = some d → P i rs m' → A (.dat d) (fun σ2 => ∀ Xb c', IsBlk X scope Xb → Live Xb c' k → DTs Xb c' σ2 m' ifs (fun b m2 => (b = true → In2 X scope k y1 p1 j1 iter1 ifs1 elt σ2 m2 rs (P (i + 1))) ∧ (b = false → P (i + 1) rs m2))))
    (hend : ∀ rs m' p, P ds.length rs m' → K (.own p) ((p, .lst rs) :: m')) {τ : L2.St} {H G : Hp} {Q : VK} (E : EnvOk X c σ m G τ H)
    (hw : ∀ R' : It → Hp → Prop, (∀ ds' m1 G1 H1 J, ds' = ds ∧ P 0 [] m1 → Ex G G1 → EnvOk X c σ m1 G1 τ H1 → Walks X.K J ds' G1 → R' J H1) → wi τ H R') (q : ∀ r m' G' H' v, K r m' → Ex G G' → EnvOk X c σ m' G' τ H' → RelR X.K G' r v → Q v H') :
    tLc2 wi g (ttU X scope ifs) (tiU X scope (.Name y1 p1) iter1) (gName j1) (ttU X scope ifs1) (teU X scope elt) (own.map (·.2)) [j1] τ H Q := by
  refine hw _ fun ds' m1 G1 H1 J ⟨ed, z⟩ x1 E1 wk => ?_
  subst ed
  intro D hD
  refine ⟨fun i n H' => n = ds'.length - i ∧ i ≤ ds'.length ∧ ∃ rs m' G', P i rs m' ∧ EnvOk X c σ ((D, .lst rs) :: m') G' τ H' ∧ Ex G1 G', ⟨_, rfl, Nat.zero_le _, [], m1, G1, z, E1.new hD (.lst .nil), Ex.refl G1⟩, ?_⟩
  rintro i n H' ⟨rfl, hi, rs, m', G', hP, E', x'⟩
  obtain ⟨w1, w2⟩ := wk i H' (x'.trans E'.sub)
  by_cases hlt : i < ds'.length
  · obtain ⟨go, yl⟩ := w1 ds'[i] (List.getElem?_eq_getElem hlt)
    refine .inr ⟨go, fun H2 => ∃ rs2 m2 G2, P (i + 1) rs2 m2 ∧ EnvOk X c σ ((D, .lst rs2) :: m2) G2 τ H2 ∧ Ex G1 G2, fun H2 ⟨rs2, m2, G2, h1, h3, h4⟩ => ⟨ds'.length - (i + 1), by omega, rfl, hlt, rs2, m2, G2, h1, h3, h4⟩, fun x H2 hy => ?_⟩
    have T := turn i ds'[i] rs m' (List.getElem?_eq_getElem hlt) hP
    have main : ∀ G3 H3, Ex G' G3 → EnvOk X c σ ((D, .lst rs) :: m') G3 τ H3 → RelR X.K G3 (.dat ds'[i]) x →
        g x (wipe τ (own.map (·.2))) H3 fun τ2 H4 => wipe τ2 (own.map (·.2)) = wipe τ (own.map (·.2)) ∧ ttU X scope ifs τ2 H4 fun b H5 =>
          if b = true then tiU X scope (.Name y1 p1) iter1 τ2 H5 fun J1 H6 => ∃ W1 : Nat → Nat → Hp → Prop, (∃ m, W1 0 m H6) ∧ ∀ jj kk H, W1 jj kk H →
            (J1.stop jj H ∧ ∃ rs2 m2 G2, P (i + 1) rs2 m2 ∧ EnvOk X c σ ((D, .lst rs2) :: m2) G2 τ H ∧ Ex G1 G2) ∨ (J1.go jj H ∧ ∃ Nx1 : Hp → Prop, (∀ H', Nx1 H' → ∃ k', k' < kk ∧ W1 (jj + 1) k' H') ∧ ∀ x H', J1.yld jj H x H' → gName j1 x (wipe τ2 [j1]) H' fun σ3 H5 => wipe σ3 [j1] = wipe τ2 [j1] ∧ ttU X scope ifs1 σ3 H5 fun b H6 =>
              if b = true then teU X scope elt σ3 H6 fun y H7 => ∃ acc, H7 D = some (.lst acc) ∧ acc.length < sizeLine ∧ Nx1 (L2.upd H7 D (.lst (acc ++ [y]))) else Nx1 H6)
          else ∃ rs2 m2 G2, P (i + 1) rs2 m2 ∧ EnvOk X c σ ((D, .lst rs2) :: m2) G2 τ H5 ∧ Ex G1 G2 := fun G3 H3 x3 E3 r3 => by
      -- the block with the new list in it
      have Ei := E3.into (split_all _) (ex := fun _ _ _ _ => False)
      have Eb := Ei.blk hb ok hown
      have home : ∀ {σ2 : Sl} {τ2 : L2.St} {m2 : Mem} {G2 H2 : Hp}, EB X scope (ctSub c H3 G3 ((D, .lst rs) :: m') fun _ _ _ _ => False) σ2 m2 G2 τ2 H2 → EnvOk X c σ m2 G2 τ H2 := fun {σ2 τ2 m2 G2 H2} e => by
        have z := E3.after (split_all _) (show OutOk X.K _ _ _ _ _ _ from e.outK)
        rw [List.append_nil] at z
        exact z
      -- a part of the block without it
      have part : ∀ {rs : List R} {m2 : Mem} {σ2 : Sl} {τ2 : L2.St} {G2 H2 : Hp}, EB X scope (ctSub c H3 G3 ((D, .lst rs) :: m') fun _ _ _ _ => False) σ2 ((D, .lst rs) :: m2) G2 τ2 H2 → True := fun _ => trivial
      refine t.run ok hown E.nm.nd T Eb r3 fun σ2 τ2 T2 E2 hw2 => ⟨by rw [hw2, wipe_wipe], ?_⟩
      have sp2 : Split ((D, .lst rs) :: m') m' [(D, .lst rs)] := split_back _ _
      have E2i := E2.into sp2 (ex := fun _ _ _ _ => False)
      have lv : ∀ {Xb : Cx} {H0 G0 : Hp} {mf : Mem} {cc : Ct}, IsBlk X scope Xb → Live Xb (ctSub cc H0 G0 mf fun _ _ _ _ => False) k := fun h => h.live L fun _ _ _ _ z => z
      have swap : ∀ {cc : Ct} {G0 H0 : Hp} {σa σb' : Sl} {τa τb : L2.St} {m3 m4 : Mem} {rs3 : List R} {G4 H4 : Hp}, EB X scope cc σa ((D, .lst rs3) :: m3) G0 τa H0 → EB X scope (ctSub cc H0 G0 m3 fun _ _ _ _ => False) σb' m4 G4 τb H4 → EB X scope cc σa ((D, .lst rs3) :: m4) G4 τa H4 := fun {cc G0 H0 σa σb' τa τb m3 m4 rs3 G4 H4} ea e => by
        have A := ea.after (split_back (D, O.lst rs3) m3) (show OutOk X.K _ _ _ _ _ _ from e.outK)
        refine A.drop (fun p hp => ?_) ?_
        · rcases List.mem_cons.mp hp with rfl | hp
          · exact List.mem_append_right _ List.mem_cons_self
          · exact List.mem_append_left _ hp
        · have pm : (m4 ++ [(D, O.lst rs3)]).Perm ((D, .lst rs3) :: m4) := List.perm_append_comm
          exact (pm.map _).nodup_iff.mp A.nd
      refine dts_run (fun Xb hX => T2 Xb _ hX (lv hX)) E2i fun b m5 G5 H5 ⟨y1', y2'⟩ x5 E5 => ?_
      have E5' := swap E2 E5
      cases b with
      | false =>
        rw [if_neg Bool.false_ne_true]
        exact ⟨rs, m5, G5, y2' rfl, home E5', (x'.trans x3).trans x5⟩
      | true =>
        rw [if_pos rfl]
        obtain ⟨f1, ds1, P2, hf1, hs1', hit1, step, hlen, hout⟩ := y1' rfl
        intro s H0 C cl fp pins s1 I1
        have E5i := E5'.into (split_back (D, O.lst rs) m5) (ex := fun _ _ _ _ => False)
        obtain ⟨wi1, hpi1, hw1⟩ := hit1 _ (ctSub (ctSub c H3 G3 ((D, .lst rs) :: m') fun _ _ _ _ => False) H5 G5 m5 fun _ _ _ _ => False) ⟨s, H0, C, cl, fp, rfl⟩ (lv ⟨s, H0, C, cl, fp, rfl⟩)
        refine hpi1.run pins s1 τ2 H5 _ I1 (hw1 τ2 H5 G5 _ (EB.to E5i) fun ds1' m6 G6 H6 J1 ⟨ed1, z6⟩ x6 E6 wk1 => ?_)
        subst ed1
        have E6' := swap E5' (EB.of E6)
        refine ⟨fun jj n H' => n = ds1'.length - jj ∧ jj ≤ ds1'.length ∧ ∃ rs' m' G', P2 jj rs' m' ∧ EB X scope _ σ2 ((D, .lst rs') :: m') G' τ2 H' ∧ Ex G6 G', ⟨_, rfl, Nat.zero_le _, rs, m6, G6, z6, E6', Ex.refl G6⟩, ?_⟩
        rintro jj n H7 ⟨rfl, hj, rs7, m7, G7, hP7, E7, x7⟩
        obtain ⟨v1, v2⟩ := wk1 jj H7 (x7.trans E7.sub)
        by_cases hlt1 : jj < ds1'.length
        · obtain ⟨go1, yl1⟩ := v1 ds1'[jj] (List.getElem?_eq_getElem hlt1)
          refine .inr ⟨go1, fun H8 => ∃ rs8 m8 G8, P2 (jj + 1) rs8 m8 ∧ EB X scope _ σ2 ((D, .lst rs8) :: m8) G8 τ2 H8 ∧ Ex G6 G8, fun H8 ⟨rs8, m8, G8, h1, h2, h3⟩ => ⟨ds1'.length - (jj + 1), by omega, rfl, hlt1, rs8, m8, G8, h1, h2, h3⟩, fun x8 H8 hy8 => ?_⟩
          have inner : ∀ G9 H9, Ex G7 G9 → EB X scope (ctSub c H3 G3 ((D, .lst rs) :: m') fun _ _ _ _ => False) σ2 ((D, .lst rs7) :: m7) G9 τ2 H9 → RelR X.K G9 (.dat ds1'[jj]) x8 →
              gName j1 x8 (wipe τ2 [j1]) H9 fun σ3 H5 => wipe σ3 [j1] = wipe τ2 [j1] ∧ ttU X scope ifs1 σ3 H5 fun b H6 =>
                if b = true then teU X scope elt σ3 H6 fun y H7 => ∃ acc, H7 D = some (.lst acc) ∧ acc.length < sizeLine ∧ ∃ rs8 m8 G8, P2 (jj + 1) rs8 m8 ∧ EB X scope (ctSub c H3 G3 ((D, .lst rs) :: m') fun _ _ _ _ => False) σ2 ((D, .lst rs8) :: m8) G8 τ2 (L2.upd H7 D (.lst (acc ++ [y]))) ∧ Ex G6 G8
                else ∃ rs8 m8 G8, P2 (jj + 1) rs8 m8 ∧ EB X scope (ctSub c H3 G3 ((D, .lst rs) :: m') fun _ _ _ _ => False) σ2 ((D, .lst rs8) :: m8) G8 τ2 H6 ∧ Ex G6 G8 := fun G9 H9 x9 E9 r9 => by
            have E9i := (E9.into (split_back (D, O.lst rs7) m7) (ex := fun _ _ _ _ => False))
            have E9w : EB X scope (ctSub (ctSub c H3 G3 ((D, .lst rs) :: m') fun _ _ _ _ => False) H9 G9 m7 fun _ _ _ _ => False) σ2 m7 G9 (wipe τ2 [j1]) H9 := EB.wipe1 (o := none) (show EB X scope _ σ2 m7 G9 τ2 H9 from E9i) hs1'
            obtain ⟨j', hj', E10⟩ := E9w.put (hf1.put (.dat ds1'[jj])) (.inl (own_z hown hj1)) r9
            have ej : j1 = j' := nodup_ix E.nm.nd (ok.ix _ hj1) hj'
            subst ej
            refine ⟨by rw [wipe_set List.mem_cons_self, wipe_wipe], ?_⟩
            refine dts_run (Kb := fun b m4 => (b = true → ∀ Xe, IsBlk X scope Xe → Live Xe (ctSub (ctSub c H3 G3 ((D, .lst rs) :: m') fun _ _ _ _ => False) H9 G9 m7 fun _ _ _ _ => False) k → DE Xe (ctSub (ctSub c H3 G3 ((D, .lst rs) :: m') fun _ _ _ _ => False) H9 G9 m7 fun _ _ _ _ => False) (f1 (.dat ds1'[jj])) m4 elt (fun r m5 => P2 (jj + 1) (rs7 ++ [r]) m5)) ∧ (b = false → P2 (jj + 1) rs7 m4)) (fun Xb hX => step jj ds1'[jj] rs7 m7 (List.getElem?_eq_getElem hlt1) hP7 Xb _ hX (lv hX)) E10 fun b m11 G11 H11 ⟨y3, y4⟩ x11 E11 => ?_
            have E11' := swap E9 E11
            cases b with
            | false =>
              rw [if_neg Bool.false_ne_true]
              exact ⟨rs7, m11, G11, y4 rfl, E11', (x7.trans x9).trans x11⟩
            | true =>
              rw [if_pos rfl]
              refine de_run (fun Xb hX => y3 rfl Xb hX (lv hX)) E11 fun r m12 G12 H12 v y x12 E12 rv => ?_
              have E12' := swap E9 E12
              obtain ⟨_, ho, hh, ro⟩ := E12'.mem (D, .lst rs7) List.mem_cons_self
              cases ro with | @lst _ acc ro =>
              refine ⟨acc, hh, ?_, rs7 ++ [r], m12, G12, y, E12'.chg .here (.lst (ro.append (.cons rv .nil))), ((x7.trans x9).trans x11).trans x12⟩
              rw [← ro.length]
              exact Nat.lt_of_le_of_lt (hlen _ _ _ hP7) (by decide)
          rcases yl1 x8 H8 hy8 with ⟨eH, rx⟩ | ⟨p, ho, hp, eH, rx⟩
          · subst eH
            exact inner G7 _ (Ex.refl G7) E7 (.dat (rx.mono x7))
          · subst eH
            have g1 : G7 p = none := E7.sub.back hp
            exact inner (L2.upd G7 p ho) _ (Ex.new g1) (E7.newG hp) (.dat (rx.mono (Ex.both x7)))
        · have e : jj = ds1'.length := by omega
          subst e
          exact .inl ⟨v2 (Nat.le_refl _), rs7, m7, G7, hout _ _ hP7, home E7, (((x'.trans x3).trans x5).trans x6).trans x7⟩
    rcases yl x H2 hy with ⟨eH, rx⟩ | ⟨p, ho, hp, eH, rx⟩
    · subst eH
      exact main G' _ (Ex.refl G') E' (.dat (rx.mono x'))
    · subst eH
      have g1 : G' p = none := E'.sub.back hp
      exact main (L2.upd G' p ho) _ (Ex.new g1) (E'.newG hp) (.dat (rx.mono (Ex.both x')))
  · have e : i = ds'.length := by omega
    subst e
    exact .inl ⟨w2 (Nat.le_refl _), q _ _ G' _ _ (hend rs m' D hP) (x1.trans x') E' .own⟩
theorem de_lc2 {ds : List D} (P : Nat → List R → Mem → Prop) (L : Live X c k) (nd : X.N.Nodup) (ok : BlkOk X.N X.env.scope scope own) (hown : ∀ p ∈ own, scope.names.lookup p.1 = some .local) (hb : Blk scope σ σb) (t : CTgt X scope own σb tg g A) (hj1 : (y1, j1) ∈ own)
    (hit : DIt X c σ m tg iter (fun ds' m1 => ds' = ds ∧ P 0 [] m1))
    (turn : ∀ i d rs m', ds[i]? = some d → P i rs m' → A (.dat d) (fun σ2 => ∀ Xb c', IsBlk X scope Xb → Live Xb c' k → DTs Xb c' σ2 m' ifs (fun b m2 => (b = true → In2 X scope k y1 p1 j1 iter1 ifs1 elt σ2 m2 rs (P (i + 1))) ∧ (b = false → P (i + 1) rs m2))))
    (hend : ∀ rs m' p, P ds.length rs m' → K (.own p) ((p, .lst rs) :: m')) (hs : ∀ x, foldedSetIterable iter X.env x = pure x := by intro _; rfl) (hs1 : ∀ env x, foldedSetIterable iter1 env x = pure x := by intro _ _; rfl) :
    DE X c σ m (.ListComp elt [⟨tg, iter, ifs, 0⟩, ⟨.Name y1 p1, iter1, ifs1, 0⟩] scope pos) K := by
  obtain ⟨wi, hpi, hw⟩ := hit
  exact de_of (pe_lc2 (vs1 := [j1]) (g1 := gName j1) L.calm nd hpi ok (fun i hi => by rw [List.mem_singleton.mp hi]; exact List.mem_map_of_mem (f := (·.2)) hj1) (fun s H C cl fp => t.pg ok hown nd L.calm s H C cl fp) (fun s H C cl fp => pts_U s H C cl fp) (fun s H C cl fp => pi_U s H C cl fp)
    (fun s H C cl fp => pg_name nd (ok.ix _ hj1) (own_at hown hj1 s H C cl fp).1 (own_at hown hj1 s H C cl fp).2) (fun s H C cl fp => pts_U s H C cl fp) (fun s H C cl fp => pe_U s H C cl fp) hs hs1) fun τ H G Q E q =>
    lc2_read P L ok hown hb t hj1 turn hend E (fun R' h => hw τ H G R' E fun ds m' G' H' J z x E' w => h ds m' G' H' J z x E' w) q
theorem ds_lc2 {ds : List D} {en : En} {y : Str} {py spos : Pos} {f : R → Sl} (P : Nat → List R → Mem → Prop) (L : Live X c k) (nd : X.N.Nodup) (hy : X.env.scope.names.lookup y = some .local) (hp : PutF σ y f) (ok : BlkOk X.N X.env.scope scope own) (hown : ∀ p ∈ own, scope.names.lookup p.1 = some .local) (hb : Blk scope σ σb) (t : CTgt X scope own σb tg g A) (hj1 : (y1, j1) ∈ own)
    (hit : DIt X c σ m tg iter (fun ds' m1 => ds' = ds ∧ P 0 [] m1))
    (turn : ∀ i d rs m', ds[i]? = some d → P i rs m' → A (.dat d) (fun σ2 => ∀ Xb c', IsBlk X scope Xb → Live Xb c' k → DTs Xb c' σ2 m' ifs (fun b m2 => (b = true → In2 X scope k y1 p1 j1 iter1 ifs1 elt σ2 m2 rs (P (i + 1))) ∧ (b = false → P (i + 1) rs m2))))
    (hend : ∀ rs m' p, P ds.length rs m' → ∃ r2 m2, Now X.K m' p rs r2 m2 ∧ en.nx (f r2) m2)
    (hsw : swapsWith (.ListComp elt [⟨tg, iter, ifs, 0⟩, ⟨.Name y1 p1, iter1, ifs1, 0⟩] scope pos) (some (.Name y py)) spos.line X.env = pure true) (hs : ∀ x, foldedSetIterable iter X.env x = pure x := by intro _; rfl) (hs1 : ∀ env x, foldedSetIterable iter1 env x = pure x := by intro _ _; rfl) :
    DS X c σ m (.Assign [.Name y py] (.ListComp elt [⟨tg, iter, ifs, 0⟩, ⟨.Name y1 p1, iter1, ifs1, 0⟩] scope pos) spos) en := fun F pins s τ H G D I E fx ft => by
  obtain ⟨wi, hpi, hw⟩ := hit
  have hm : y ∈ X.N := by rw [E.names]; exact hp.at
  obtain ⟨i, hi⟩ := List.mem_iff_getElem?.mp hm
  refine (ps_setLc2 (vs1 := [j1]) (g1 := gName j1) L.calm nd hi hy hsw hpi ok (fun i hi => by rw [List.mem_singleton.mp hi]; exact List.mem_map_of_mem (f := (·.2)) hj1) (fun s H C cl fp => t.pg ok hown nd L.calm s H C cl fp) (fun s H C cl fp => pts_U s H C cl fp) (fun s H C cl fp => pi_U s H C cl fp)
    (fun s H C cl fp => pg_name nd (ok.ix _ hj1) (own_at hown hj1 s H C cl fp).1 (own_at hown hj1 s H C cl fp).2) (fun s H C cl fp => pts_U s H C cl fp) (fun s H C cl fp => pe_U s H C cl fp) hs hs1).run pins s τ H D I ?_
  refine lc2_read (K := fun r m' => ∃ p rs m1, r = .own p ∧ m' = (p, .lst rs) :: m1 ∧ P ds.length rs m1) P L ok hown hb t hj1 turn (fun rs m' p hp => ⟨p, rs, m', rfl, rfl, hp⟩) E (fun R' h => hw τ H G R' E fun ds m' G' H' J z x E' w => h ds m' G' H' J z x E' w) fun r m' G' H' v ⟨p, rs, m1, er, em, hP⟩ x1 E' rv => ?_
  subst er em
  obtain ⟨r2, m2, hn, z⟩ := hend rs m1 p hP
  obtain ⟨G2, x2, E2, rv2⟩ := hn.env E' rv
  obtain ⟨j, hj, E3⟩ := E2.put (hp.put r2) (.inl hy) rv2
  have ij : i = j := nodup_ix nd hi hj
  subst ij
  exact ft.nx _ m2 G2 _ H' z ((fx.trans x1).trans x2) E3
end
end D2
/-! ## D2Meth -/
/-! methods by name -/
namespace D2
open PySem PySem.Spec PyProof.Rows L2
section
variable {X : Cx} {c : Ct} {σ : Sl} {m : Mem} {o e e2 : Expr} {K : R → Mem → Prop} {pos apos : Pos}
theorem d_join (h : DE X c σ m o (fun ro m1 => ro = rS [] ∧ DE X c σ m1 e (fun r m2 => ∃ ss : List (List Nat), VL m2 r (ss.map rS) ∧ (ss.map (·.length)).sum ≤ 1000000 ∧ K (rS ss.flatten) m2)))
    (hbase : attributeBase o "join" X.env (eval o X.env) = eval o X.env := by rfl)
    (hfew : ((backTo pos (starEach [e] X.env)).all (fun x => !x.1) && (backToKw pos (keywordEach [] X.env)).all (fun x => x.1.isSome) && decide ([e].length + ([] : List Keyword).length + (if ([] : List Keyword).isEmpty then 0 else 1) < 30)) = true := by rfl)
    (hline : (apos.endLine == pos.line) = true := by rfl) (hst : starEach [e] X.env = (false, eval e X.env) :: starEach [] X.env := by rfl) : DE X c σ m (.Call (.Attribute o "join" apos) [e] [] pos) K :=
  de_bm PySem.F.plainAttrs_str PySem.F.slot_str_join PySem.F.type_str_join mt_join (h.imp fun ro m1 ⟨er, d⟩ => by
    subst er
    exact ⟨.str, da_cons (d.imp fun r m2 ⟨ss, hv, hl, kk⟩ => da_nil (k_joinE hv hl kk)) hst⟩) hbase hfew hline hst
theorem d_appendL (h : DE X c σ m o (fun ro m1 => ∃ a rs0 m0, ro = .own a ∧ Has m1 a (.lst rs0) m0 ∧ DE X c σ m1 e (fun r m2 => ∃ rs m3, Chg m2 a (.lst rs) (.lst (rs ++ [r])) m3 ∧ rs.length < 1000000 ∧ K (.dat .non) m3)))
    (hbase : attributeBase o "append" X.env (eval o X.env) = eval o X.env := by rfl)
    (hfew : ((backTo pos (starEach [e] X.env)).all (fun x => !x.1) && (backToKw pos (keywordEach [] X.env)).all (fun x => x.1.isSome) && decide ([e].length + ([] : List Keyword).length + (if ([] : List Keyword).isEmpty then 0 else 1) < 30)) = true := by rfl)
    (hline : (apos.endLine == pos.line) = true := by rfl) (hst : starEach [e] X.env = (false, eval e X.env) :: starEach [] X.env := by rfl) : DE X c σ m (.Call (.Attribute o "append" apos) [e] [] pos) K :=
  de_bm PySem.F.plainAttrs_list PySem.F.slot_list_append PySem.F.type_list_append mt_append (h.imp fun ro m1 ⟨a, rs0, m0, er, hh, d⟩ => by
    subst er
    exact ⟨.lst (.own hh), da_cons (d.imp fun r m2 ⟨rs, m3, hc, hl, kk⟩ => da_nil (k_append hc hl kk)) hst⟩) hbase hfew hline hst
theorem d_extendL (h : DE X c σ m o (fun ro m1 => ∃ a rs0 m0, ro = .own a ∧ Has m1 a (.lst rs0) m0 ∧ DE X c σ m1 e (fun r m2 => ∃ rs qs m3, Chg m2 a (.lst rs) (.lst (rs ++ qs)) m3 ∧ VU m2 r qs ∧ rs.length + qs.length ≤ 1000000 ∧ K (.dat .non) m3)))
    (hbase : attributeBase o "extend" X.env (eval o X.env) = eval o X.env := by rfl)
    (hfew : ((backTo pos (starEach [e] X.env)).all (fun x => !x.1) && (backToKw pos (keywordEach [] X.env)).all (fun x => x.1.isSome) && decide ([e].length + ([] : List Keyword).length + (if ([] : List Keyword).isEmpty then 0 else 1) < 30)) = true := by rfl)
    (hline : (apos.endLine == pos.line) = true := by rfl) (hst : starEach [e] X.env = (false, eval e X.env) :: starEach [] X.env := by rfl) : DE X c σ m (.Call (.Attribute o "extend" apos) [e] [] pos) K :=
  de_bm PySem.F.plainAttrs_list PySem.F.slot_list_extend PySem.F.type_list_extend mt_extend (h.imp fun ro m1 ⟨a, rs0, m0, er, hh, d⟩ => by
    subst er
    exact ⟨.lst (.own hh), da_cons (d.imp fun r m2 ⟨rs, qs, m3, hc, hu, hl, kk⟩ => da_nil (k_extend hc hu hl kk)) hst⟩) hbase hfew hline hst
theorem d_find3 (h : DE X c σ m o (fun ro m1 => ∃ s, ro = rS s ∧ DE X c σ m1 e (fun r m2 => ∃ t, r = rS t ∧ DE X c σ m2 e2 (fun r2 m3 => ∃ i, r2 = rI i ∧ K (rI (find3 s t i)) m3))))
    (hbase : attributeBase o "find" X.env (eval o X.env) = eval o X.env := by rfl)
    (hfew : ((backTo pos (starEach [e, e2] X.env)).all (fun x => !x.1) && (backToKw pos (keywordEach [] X.env)).all (fun x => x.1.isSome) && decide ([e, e2].length + ([] : List Keyword).length + (if ([] : List Keyword).isEmpty then 0 else 1) < 30)) = true := by rfl)
    (hline : (apos.endLine == pos.line) = true := by rfl) (hs1 : starEach [e, e2] X.env = (false, eval e X.env) :: starEach [e2] X.env := by rfl) (hs2 : starEach [e2] X.env = (false, eval e2 X.env) :: starEach [] X.env := by rfl) (hpl : (backTo pos (starEach [e2] X.env)).any (·.1) = false := by rfl) : DE X c σ m (.Call (.Attribute o "find" apos) [e, e2] [] pos) K :=
  de_bm PySem.F.plainAttrs_str PySem.F.slot_str_find PySem.F.type_str_find mt_find3 (h.imp fun ro m1 ⟨s, er, d⟩ => by
    subst er
    exact ⟨.str, da_cons (d.imp fun r m2 ⟨t, e1, d2⟩ => by
      subst e1
      exact da_cons (d2.imp fun r2 m3 ⟨i, e2', kk⟩ => by
        subst e2'
        exact da_nil (k_find kk)) hs2) hs1⟩) hbase hfew hline hs1 hpl
end
end D2
/-! ## D2Keep -/
/-! comprehensions over an owned list that stays owned -/
namespace D2
open PySem PySem.Spec PyProof.Rows L2
section
variable {X : Cx} {c : Ct} {σ σb : Sl} {m m0 : Mem} {scope : Scope} {own : List (Str × Nat)} {tg elt : Expr} {ifs : List Expr} {g : TG} {A : R → (Sl → Prop) → Prop} {K : R → Mem → Prop} {k : Nat} {pos px : Pos} {x : Str} {a : Addr}
theorem EnvOk.more {G : Hp} {τ : L2.St} {H : Hp} {o : O} {ho : HO} (e : EnvOk X c σ m G τ H) (ha : a ∉ m.map (·.1)) (hg : G a = none) (hh : H a = some ho) (ro : RelO X.K G o ho) (hc : a ∈ c.mu ∨ c.H0 a = none) : EnvOk X c σ ((a, o) :: m) G τ H where
  nm := e.nm
  names := e.names
  len := e.len
  sub := e.sub
  nd := List.nodup_cons.mpr ⟨ha, e.nd⟩
  mem := fun q hq => by
    rcases List.mem_cons.mp hq with rfl | hq
    · exact ⟨hg, ho, hh, ro⟩
    · exact e.mem q hq
  fr := e.fr
  th := e.th
  ok := fun q hq => by
    rcases List.mem_cons.mp hq with rfl | hq
    · exact hc
    · exact e.ok q hq
  gn := e.gn
  g0 := e.g0
  vis := e.vis
  sl := e.sl
theorem de_lcK {ds : List D} (P : Nat → List R → Mem → Prop) (L : Live X c k) (nd : X.N.Nodup) (ok : BlkOk X.N X.env.scope scope own) (hown : ∀ p ∈ own, scope.names.lookup p.1 = some .local) (hb : Blk scope σ σb) (t : CTgt X scope own σb tg g A)
    (hx : Lk σ x (.own a)) {rs0 : List R} (hrs : rs0 = ds.map .dat) (hc : Has m a (.lst rs0) m0) (hP : P 0 [] m0)
    (turn : ∀ i d rs m', ds[i]? = some d → P i rs m' → A (.dat d) (fun σ2 => Turn1 X scope k σ2 m' ifs elt (fun r m3 => P (i + 1) (rs ++ [r]) m3) (fun m2 => P (i + 1) rs m2))) (hl : ds.length ≤ 1000000)
    (hend : ∀ rs m' p, P ds.length rs m' → K (.own p) ((a, .lst rs0) :: (p, .lst rs) :: m')) : DE X c σ m (.ListComp elt [⟨tg, .Name x px, ifs, 0⟩] scope pos) K := fun pins s τ H G Q I E q => by
  subst hrs
  obtain ⟨i, v, h1, h2, h3, hv⟩ := E.get hx
  obtain ⟨hd, hcd⟩ := E.nm.dbg x (List.mem_of_getElem? h1)
  cases h3
  obtain ⟨ga, ho, hh, ro⟩ := E.mem _ hc.mem
  cases ro with | @lst _ vs ro =>
  have E1 := E.rest hc
  have na : a ∉ m0.map (·.1) := fun z => by
    obtain ⟨p, hp, e⟩ := List.mem_map.mp z
    exact hc.notIn E.nd p hp e
  have acc : a ∈ c.mu ∨ c.H0 a = none := E.ok _ hc.mem
  have kk : KeepK [(a, HO.lst vs)] m0 G H := fun p hp => by
    rw [List.mem_singleton.mp hp]
    exact ⟨hh, na, ga⟩
  refine (pe_lc L.calm nd (pi_list (pe_var h1 hv hd hcd)) ok (fun s H C cl fp => t.pg ok hown nd L.calm s H C cl fp) (fun s H C cl fp => pts_U s H C cl fp) (fun s H C cl fp => pe_U s H C cl fp) (by intro _; rfl)).run pins s τ H Q I ?_
  refine lc_read (K := fun r m' => ∃ p rs m1, r = .own p ∧ m' = (p, .lst rs) :: m1 ∧ P ds.length rs m1) (ds := ds) [(a, HO.lst vs)] P L ok hown hb t turn hl (fun rs m' p hp => ⟨p, rs, m', rfl, rfl, hp⟩) E1 (fun R' hR => ?_) fun r m' G' H' w ⟨p, rs, m1, er, em, hp⟩ x' E' rv kk' => ?_
  · refine ⟨.ref a, h2, a, rfl, ⟨vs, SqL.of hh⟩, hR ds m0 G H _ ⟨rfl, hP⟩ (Ex.refl G) E1 ?_ kk⟩
    intro j H2 eG hk
    have hka := SqL.of (K := X.K) (hk _ (List.mem_singleton.mpr rfl))
    refine ⟨fun d hd' => ?_, fun hle => ⟨vs, hka, by have := ro.length; rw [List.length_map] at this; omega⟩⟩
    obtain ⟨u, hu, ru⟩ := ro.get (show (ds.map R.dat)[j]? = some (.dat d) by rw [List.getElem?_map, hd']; rfl)
    refine ⟨⟨vs, u, hka, hu⟩, fun y H3 ⟨e3, yy⟩ => .inl ⟨e3, ?_⟩⟩
    have z := yy vs hka
    rw [hu] at z; cases z
    cases ru with | dat ru => exact ru
  · subst er em
    obtain ⟨k1, k2, k3⟩ := kk' _ (List.mem_singleton.mpr rfl)
    exact q _ _ G' _ _ (hend rs m1 p hp) x' (E'.more k2 k3 k1 (.lst (ro.mono x')) acc) rv
theorem ds_lcK {ds : List D} {en : En} {y : Str} {py spos : Pos} {f : R → Sl} (P : Nat → List R → Mem → Prop) (L : Live X c k) (nd : X.N.Nodup) (hy : X.env.scope.names.lookup y = some .local) (hpu : PutF σ y f) (ok : BlkOk X.N X.env.scope scope own) (hown : ∀ p ∈ own, scope.names.lookup p.1 = some .local) (hb : Blk scope σ σb) (t : CTgt X scope own σb tg g A)
    (hx : Lk σ x (.own a)) {rs0 : List R} (hrs : rs0 = ds.map .dat) (hc : Has m a (.lst rs0) m0) (hP : P 0 [] m0)
    (turn : ∀ i d rs m', ds[i]? = some d → P i rs m' → A (.dat d) (fun σ2 => Turn1 X scope k σ2 m' ifs elt (fun r m3 => P (i + 1) (rs ++ [r]) m3) (fun m2 => P (i + 1) rs m2))) (hl : ds.length ≤ 1000000)
    (hend : ∀ rs m' p, P ds.length rs m' → en.nx (f (.own p)) ((a, .lst rs0) :: (p, .lst rs) :: m'))
    (hsw : swapsWith (.ListComp elt [⟨tg, .Name x px, ifs, 0⟩] scope pos) (some (.Name y py)) spos.line X.env = pure true) :
    DS X c σ m (.Assign [.Name y py] (.ListComp elt [⟨tg, .Name x px, ifs, 0⟩] scope pos) spos) en := fun F pins s τ H G D I E fx ft => by
  subst hrs
  obtain ⟨i, v, h1, h2, h3, hv⟩ := E.get hx
  obtain ⟨hd, hcd⟩ := E.nm.dbg x (List.mem_of_getElem? h1)
  cases h3
  obtain ⟨ga, ho, hh, ro⟩ := E.mem _ hc.mem
  cases ro with | @lst _ vs ro =>
  have E1 := E.rest hc
  have na : a ∉ m0.map (·.1) := fun z => by
    obtain ⟨p, hp, e⟩ := List.mem_map.mp z
    exact hc.notIn E.nd p hp e
  have acc : a ∈ c.mu ∨ c.H0 a = none := E.ok _ hc.mem
  have kk : KeepK [(a, HO.lst vs)] m0 G H := fun p hp => by
    rw [List.mem_singleton.mp hp]
    exact ⟨hh, na, ga⟩
  have hm : y ∈ X.N := by rw [E.names]; exact hpu.at
  obtain ⟨i0, hi0⟩ := List.mem_iff_getElem?.mp hm
  refine (ps_setLc L.calm nd hi0 hy hsw (pi_list (pe_var h1 hv hd hcd)) ok (fun s H C cl fp => t.pg ok hown nd L.calm s H C cl fp) (fun s H C cl fp => pts_U s H C cl fp) (fun s H C cl fp => pe_U s H C cl fp) (by intro _; rfl)).run pins s τ H D I ?_
  refine lc_read (K := fun r m' => ∃ p rs m1, r = .own p ∧ m' = (p, .lst rs) :: m1 ∧ P ds.length rs m1) (ds := ds) [(a, HO.lst vs)] P L ok hown hb t turn hl (fun rs m' p hp => ⟨p, rs, m', rfl, rfl, hp⟩) E1 (fun R' hR => ?_) fun r m' G' H' w ⟨p, rs, m1, er, em, hp⟩ x' E' rv kk' => ?_
  · refine ⟨.ref a, h2, a, rfl, ⟨vs, SqL.of hh⟩, hR ds m0 G H _ ⟨rfl, hP⟩ (Ex.refl G) E1 ?_ kk⟩
    intro j H2 eG hk
    have hka := SqL.of (K := X.K) (hk _ (List.mem_singleton.mpr rfl))
    refine ⟨fun d hd' => ?_, fun hle => ⟨vs, hka, by have := ro.length; rw [List.length_map] at this; omega⟩⟩
    obtain ⟨u, hu, ru⟩ := ro.get (show (ds.map R.dat)[j]? = some (.dat d) by rw [List.getElem?_map, hd']; rfl)
    refine ⟨⟨vs, u, hka, hu⟩, fun y H3 ⟨e3, yy⟩ => .inl ⟨e3, ?_⟩⟩
    have z := yy vs hka
    rw [hu] at z; cases z
    cases ru with | dat ru => exact ru
  · subst er em
    obtain ⟨k1, k2, k3⟩ := kk' _ (List.mem_singleton.mpr rfl)
    obtain ⟨j, hj, E3⟩ := (E'.more k2 k3 k1 (.lst (ro.mono x')) acc).put (hpu.put (.own p)) (.inl hy) rv
    have ij : i0 = j := nodup_ix nd hi0 hj
    subst ij
    exact ft.nx _ _ G' _ H' (hend rs m1 p hp) (fx.trans x') E3
theorem sw_d {P : Program} {w : World} {Kf : PySem.W.Frag} {mg : Str → Option Value} {base : Heap} {N : List Str} {sc : Scope} {gens : List Comprehension} {y : Str} {py : Pos} {line : Nat} (D : Def X P w Kf mg base N sc) (hk : (if sc.kind.isAnnotationScope then ScopeKind.function else sc.kind) = .function) (hy : sc.names.lookup y = some .local) (hl : py.line = pos.line)
    (hn : (scope.names.any fun x => x.1 == y && (x.2 == .local || x.2 == .cell)) = false) : swapsWith (.ListComp elt gens scope pos) (some (.Name y py)) line X.env = pure true :=
  swaps_true (by unfold Env.blockKind; rw [D.sc]; exact hk) (by unfold Env.kindOf; rw [D.sc]; exact hy) hl hn
end
theorem frzs_f {α : Type} (m : Mem) (f : α → D) (l : List α) : Frzs m (l.map fun x => R.dat (f x)) (l.map f) m := by
  rw [show (l.map fun x => R.dat (f x)) = (l.map f).map R.dat by rw [List.map_map]; rfl]
  exact Frzs.map _ _
section
variable {X : Cx} {c : Ct} {σ : Sl} {m : Mem} {k : Nat} {tg iter : Expr} {body : List Stmt} {pos : Pos} {en : En}
/-- for, over items that only the iterable tells -/
theorem ds_forP (I : List D → Nat → Sl → Mem → Prop) (L : Live X c k) (hit : DIt X c σ m tg iter (fun ds' m1 => I ds' 0 σ m1))
    (hturn : ∀ ds i d σ' m', ds[i]? = some d → I ds i σ' m' → DG X c σ' m' tg (.dat d) (fun σ2 m2 => DSs X c σ2 m2 body { nx := I ds (i + 1), ct := I ds (i + 1), bk := en.nx, rt := en.rt }))
    (hend : ∀ ds σ' m', I ds ds.length σ' m' → en.nx σ' m') (hs : ∀ x, foldedSetIterable iter X.env x = pure x := by intro _; rfl) : DS X c σ m (.For tg iter body [] pos) en := fun F pins s τ H G D Iv E fx ft => by
  obtain ⟨wi, hpi, hw⟩ := hit
  refine (ps_for L.own L.calm hpi pg_t (pss_t (c := c)) hs).run pins s τ H D Iv (hw τ H G _ E fun ds' m1 G1 H1 J z x1 E1 wk => ?_)
  refine ⟨fun i n τ' H' => n = ds'.length - i ∧ i ≤ ds'.length ∧ ∃ σ' m' G', I ds' i σ' m' ∧ EnvOk X c σ' m' G' τ' H' ∧ Ex G1 G', ⟨_, rfl, Nat.zero_le _, σ, m1, G1, z, E1, Ex.refl G1⟩, ?_⟩
  rintro i n τ' H' ⟨rfl, hi, σ', m', G', hI, E', x'⟩
  obtain ⟨w1, w2⟩ := wk i H' (x'.trans E'.sub)
  by_cases hlt : i < ds'.length
  · obtain ⟨go, yl⟩ := w1 ds'[i] (List.getElem?_eq_getElem hlt)
    refine .inr ⟨go, fun τ2 H2 => ∃ σ2 m2 G2, I ds' (i + 1) σ2 m2 ∧ EnvOk X c σ2 m2 G2 τ2 H2 ∧ Ex G1 G2, fun τ2 H2 ⟨σ2, m2, G2, h1, h2, h3⟩ => ⟨ds'.length - (i + 1), by omega, rfl, hlt, σ2, m2, G2, h1, h2, h3⟩, fun x H2 hy => ?_⟩
    have T := hturn ds' i ds'[i] σ' m' (List.getElem?_eq_getElem hlt) hI
    have go2 : ∀ G3 H3, Ex G' G3 → EnvOk X c σ' m' G3 τ' H3 → RelR X.K G3 (.dat ds'[i]) x → gT X tg x τ' H3 fun τ4 H4 => tSs X c body { D with nx := fun τ2 H2 => ∃ σ2 m2 G2, I ds' (i + 1) σ2 m2 ∧ EnvOk X c σ2 m2 G2 τ2 H2 ∧ Ex G1 G2, ct := fun τ2 H2 => ∃ σ2 m2 G2, I ds' (i + 1) σ2 m2 ∧ EnvOk X c σ2 m2 G2 τ2 H2 ∧ Ex G1 G2, bk := D.nx } τ4 H4 := fun G3 H3 x3 E3 r3 =>
      T x τ' H3 G3 _ E3 r3 fun σ4 m4 G4 τ4 H4 z4 x4 E4 => by
        have up : Ex G1 G4 := (x'.trans x3).trans x4
        refine ⟨G4, σ4, m4, G4, _, E4, z4, Ex.refl G4, ?_⟩
        exact ⟨fun σ5 m5 G5 τ5 H5 q y E5 => ⟨σ5, m5, G5, q, E5, up.trans y⟩, fun r σ5 m5 G5 τ5 H5 v q y E5 rv => ft.rt r σ5 m5 G5 τ5 H5 v q (((fx.trans x1).trans up).trans y) E5 rv,
          fun σ5 m5 G5 τ5 H5 q y E5 => ft.nx σ5 m5 G5 τ5 H5 q (((fx.trans x1).trans up).trans y) E5, fun σ5 m5 G5 τ5 H5 q y E5 => ⟨σ5, m5, G5, q, E5, up.trans y⟩⟩
    rcases yl x H2 hy with ⟨eH, rx⟩ | ⟨p, ho, hp, eH, rx⟩
    · subst eH
      exact go2 G' _ (Ex.refl G') E' (.dat (rx.mono x'))
    · subst eH
      have g1 : G' p = none := E'.sub.back hp
      refine go2 (L2.upd G' p ho) _ (Ex.new g1) (E'.newG hp) (.dat (rx.mono ?_))
      exact Ex.both x'
  · have e : i = ds'.length := by omega
    subst e
    exact .inl ⟨w2 (Nat.le_refl _), ft.nx σ' m' G' τ' H' (hend ds' σ' m' hI) ((fx.trans x1).trans x') E'⟩
end
end D2
/-! ## D2For -/
/-! loops whose body leaves all as it was -/
namespace D2
open PySem PySem.Spec PyProof.Rows L2
section
variable {X : Cx} {c : Ct} {σ : Sl} {m : Mem} {k : Nat} {iter : Expr} {body : List Stmt} {pos px : Pos} {en : En} {x : Str} {f : R → Sl}
/-- for, with a body that leaves all as it was -/
theorem ds_forC (Pd : D → Prop) (L : Live X c k) (hx : Own X x) (hp : PutF σ x f) (hit : DIt X c σ m (.Name x px) iter (fun (ds : List D) m1 => (∀ (i : Nat) (d : D), ds[i]? = some d → Pd d) ∧ m1 = m))
    (hturn : ∀ d Nx, Pd d → Nx σ m → DSs X c (f (.dat d)) m body { nx := Nx, ct := Nx, bk := en.nx, rt := en.rt })
    (hend : en.nx σ m) (hs : ∀ x, foldedSetIterable iter X.env x = pure x := by intro _; rfl) : DS X c σ m (.For (.Name x px) iter body [] pos) en := by
  obtain ⟨wi, hpi, hw⟩ := hit
  refine ds_forP (fun ds i σ' m' => σ' = σ ∧ m' = m ∧ ∀ i d, ds[i]? = some d → Pd d) L ⟨wi, hpi, fun τ H G R' E q => hw τ H G R' E fun ds m' G' H' J ⟨z1, z2⟩ x E' w => q ds m' G' H' J ⟨rfl, z2, z1⟩ x E' w⟩ ?_ ?_ hs
  · rintro ds i d σ' m' hd ⟨rfl, rfl, hP⟩
    exact dg_name hx hp (hturn d _ (hP i d hd) ⟨rfl, rfl, hP⟩)
  · rintro ds σ' m' ⟨rfl, rfl, _⟩
    exact hend
end
end D2
/-! ## D2Head -/
/-! the head: facts of defs and of exception classes with an own __init__ that calls super().__init__ -/
namespace D2
open PySem PySem.Spec PyProof.Rows L2 NdefX
/-! ### what is asked of the written part -/
theorem oexB_ok {K : PySem.W.Frag} {C : Addr} (h : oexB K C = true) : OexC K C := by
  unfold oexB at h
  simp only [Bool.and_eq_true, decide_eq_true_eq] at h
  obtain ⟨h0, h1, h2, h3, h4⟩ := h
  refine ⟨?_, h1, h2, h3, h4⟩
  split at h0
  · rename_i dd cd sl ho
    split at h0
    · rename_i C' bm k0 k1 k2 k3 n k5 hm hs
      simp only [Bool.and_eq_true, beq_iff_eq, Bool.not_eq_true'] at h0
      obtain ⟨⟨⟨⟨rfl, rfl⟩, hdel⟩, hdi⟩, ht⟩ := h0
      obtain ⟨nm, bs, mro, ns, qn, hd, sn, sub, ab, col, del⟩ := cd
      dsimp only at hm hdel hdi
      subst hm hdel hdi
      have hsl : sl = #[k0, k1, k2, k3, some (.builtin "ValueError.__new__"), k5] := by
        obtain ⟨l⟩ := sl
        simp only at hs
        rw [hs]
      subst hsl
      exact ⟨nm, qn, ns, bs, bm, sn, sub, ab, col, dd, k0, k1, k2, k3, k5, ho, ht⟩
    · cases h0
  · cases h0
theorem excCB_ok {K : PySem.W.Frag} {C : Addr} (h : excCB K C = true) : ExcC K C := by
  unfold excCB at h
  simp only [Bool.and_eq_true, decide_eq_true_eq] at h
  obtain ⟨h1, h2, h3, h4, h5, h6, h7, h8⟩ := h
  exact ⟨h1, h2, h3, h4, h5, h6, h7, h8⟩
structure IniOk (P : Program) (K : PySem.W.Frag) (d : IniD) (C : Addr) : Prop where
  glo : (He.Fa.glo d.cls).ok K = true
  ex : ExcC K C
  xf : XfC K C
  no : PySem.W.findIn K (.ref C) d.fld = some none
  exm : PySem.W.exmOne K (.ref C) (.ref C) = some true
  oex : OexC K C
  sup : ∃ f F fd, SupD P K "__init__" d.qual (defArgs d.st) (defBody d.st) (defScope d.st) C f F fd ∧ PySem.W.findIn K (.ref C) "__init__" = some (some (.ref f)) ∧ PySem.W.typeIn K (.ref f) = some (.type "function")
theorem IniD.ok_ok {P : Program} {K : PySem.W.Frag} {d : IniD} (h : d.ok K P.main.file = true) (e : fnC K (iF K d.cls) = d.val) (hp : (P.main.scope.names.lookup ("super" : Str)).isSome = false) : IniOk P K d (iC K d.cls) := by
  unfold IniD.ok at h
  simp only [Bool.and_eq_true, decide_eq_true_eq] at h
  obtain ⟨h1, h2, h3, h4, h5, h6, h7, h8, h9, h10, h11, h12, h13, h14, h15⟩ := h
  have hox := oexB_ok h2
  refine ⟨h1, excCB_ok h3, xfB_ok h4, h9, h15, hox, ?_⟩
  unfold fnC at e
  unfold iniFB at h5
  cases q : K.lookup (iF K d.cls) with
  | none => rw [q] at h5; cases h5
  | some o =>
    obtain ⟨oc, od, dt, osl⟩ := o
    rw [q] at h5 e
    cases dt with
    | func fd =>
      obtain ⟨n1, n2, n3, n4, n5, n6, n7, n8, n9, n10, n11, n12, n13, n14, n15⟩ := fd
      have e2 : (some (n1, n2, n3, n4, n5, n6, n7.map (·.1), n15) : FnC) = (some (("__init__" : Str), d.qual, defArgs d.st, FuncBody.stmts (defBody d.st), defScope d.st, mainGlobals, [("__class__" : Str)], builtinsNs) : FnC) := e
      simp only [Option.some.injEq, Prod.mk.injEq] at e2
      obtain ⟨r1, r2, r3, r4, r5, r6, r7, r8⟩ := e2
      subst r1 r2 r3 r4 r5 r6 r8
      dsimp only at h5
      split at h5
      · rename_i c cx cc
        have r8 : cx = ("__class__" : Str) := by simpa using r7
        subst r8
        simp only [Bool.and_eq_true] at h5
        obtain ⟨u1, u2, u3⟩ := h5
        split at u1
        · rename_i cl cld C' csl hcell
          rw [beq_iff_eq] at u1
          subst u1
          split at u3
          · rename_i ccl cdd vs ccs hco
            split at u3
            · rename_i file tf hv
              refine ⟨iF K d.cls, ⟨"__init__", d.qual, defArgs d.st, defBody d.st, defScope d.st, [("__class__", cc)], c⟩, _, ⟨⟨rfl, rfl, rfl, rfl, rfl⟩, ⟨oc, od, osl, q⟩, ⟨n10, n11, n14, rfl⟩, ⟨cc, cl, cld, csl, rfl, hcell⟩, u2, ⟨ccl, cdd, vs, ccs, file, tf, hco, hv, u3⟩, hox, h10, h11, h12, h13, Option.isSome_iff_exists.mp h14, h8, hp⟩, h6, h7⟩
            · cases u3
          · cases u3
        · cases u1
      · cases h5
    | _ => cases h5
/-! ### the Hook -/
section
variable {fa : List He.Fa} {fn : List He.DefD} {pf : Str} {ini : List IniD} {ex : PySem.W.Frag → Bool} {K : PySem.W.Frag}
theorem SaysS.d (c : SaysS fa fn pf ini ex K) : He.SaysD fa fn K := congrArg (fun z : AlS => z.1) c
theorem SaysS.x (c : SaysS fa fn pf ini ex K) : ex K = true := by
  have e : (ini.all (fun d => d.ok K pf) && ex K) = true := congrArg (fun z : AlS => z.2.1) c
  exact (Bool.and_eq_true_iff.mp e).2
theorem SaysS.inis {P : Program} (c : SaysS fa fn P.main.file ini ex K) (hp : (P.main.scope.names.lookup ("super" : Str)).isSome = false) (i : Nat) {d : IniD} (h : ini[i]? = some d := by rfl) : IniOk P K d (iC K d.cls) := by
  have e : (ini.all (fun d => d.ok K P.main.file) && ex K) = true := congrArg (fun z : AlS => z.2.1) c
  have h1 := List.all_eq_true.mp (Bool.and_eq_true_iff.mp e).1 d (List.mem_of_getElem? h)
  have e2 : (ini.map fun d => fnC K (iF K d.cls)) = ini.map IniD.val := congrArg (fun z : AlS => z.2.2) c
  have e3 : (ini.map fun d => fnC K (iF K d.cls))[i]? = (ini.map IniD.val)[i]? := by rw [e2]
  rw [List.getElem?_map, List.getElem?_map, h] at e3
  exact IniD.ok_ok h1 (Option.some.inj e3) hp
end
end D2
/-! ## D2Mk -/
/-! an own exception class of the head can be raised -/
namespace D2
open PySem PySem.Spec PyProof.Rows L2 NdefX
section
variable {P : Program} {w : World} {K : PySem.W.Frag} {mg : Str → Option Value} {base : Heap} {d : IniD} {C : Addr} {y : Str}
theorem IniOk.mkc {pl : Env → Sem Bool} {ar : Arg} {msg : Str} {kk : Nat} {p0 p1 p2 p3 p4 p5 q1 q2 q3 q4 : Pos} (I : IniOk P K d C) (hg : mg d.cls = some (.ref C)) (hm : mg "super" = none) (S : nscB ["self", y, "__class__"] ["self", y] ["__class__"] (defScope d.st) = true)
    (hy : ((defArgs d.st).posonlyargs ++ (defArgs d.st).args).head? = some ar) (hy2 : ar.arg = "self") (hsu : (defScope d.st).names.lookup ("super" : Str) = some .globalImplicit)
    (hbd : defBody d.st = [.Expr (.Call (.Attribute (.Call (.Name "super" p0) [] [] p1) "__init__" p2) [.Constant (.str msg) kk p5] [] p3) p4, .Assign [.Attribute (.Name "self" q1) d.fld q2] (.Name y q3) q4])
    (hev : ∀ env : Env, eval (.Call (.Attribute (.Call (.Name "super" p0) [] [] p1) "__init__" p2) [.Constant (.str msg) kk p5] [] p3) env = (do
      let ov ← attributeBase (.Call (.Name "super" p0) [] [] p1) "__init__" env (eval (.Call (.Name "super" p0) [] [] p1) env)
      standAt p2.atName
      let (f, first) ← holding [ov] (getMethod ov "__init__" (pl env))
      callWith p3 f first (backTo p3 (starEach [.Constant (.str msg) kk p5] env)) []))
    (hyd : (y == ("__debug__" : Str)) = false ∧ (y == ("__classdict__" : Str)) = false)
    (hb : ∀ (cl : List (Str × Addr)) (c : Addr) (doc pm ctv : Value) (us : List Value), us.length = 2 → bindArgs (PySem.W.fnX "__init__" d.qual (defArgs d.st) (defBody d.st) (defScope d.st) cl .none .none doc pm none (.ref c) ctv) ⟨us, []⟩ = pure (([("self" : Str), y]).zip us)) : MkC P w K mg base d.cls C 1 1 [(d.fld, 0)] (fun _ => True) := by
  obtain ⟨f, F, fd, D, h1, h2⟩ := I.sup
  refine ⟨hg, I.oex, f, fd, ["self", y], h1, h2, ?_, ?_⟩
  · refine ini1 D (nscope_by S) hy hy2 hsu hm hbd I.no hev (fun env => rfl) (fun env => rfl) hyd fun A0 outer s H Q E a v hr _ => ⟨_, pe_str, fun Q' h => h _⟩
  · obtain ⟨doc, pm, ctv, rfl⟩ := D.fd
    obtain ⟨n1, n2, n3, n4, n5⟩ := D.nf
    refine Binds.all fun us hl => ?_
    have z := hb F.cl F.c doc pm ctv us hl
    show bindArgs (PySem.W.fnX F.name F.qual F.params F.body F.scope F.cl .none .none doc pm none (.ref F.c) ctv) ⟨us, []⟩ = _
    rw [n1, n2, n3, n4, n5]
    exact z
end
end D2
/-! ## D2End -/
/-! the end of a law's proof -/
namespace D2
open PySem PySem.Spec PyProof.Rows L2 NdefX
section
variable {P : Program} {w : World} {K : PySem.W.Frag} {mg : Str → Option Value} {base : Heap} {x qual : Str} {params : Arguments} {body : List Stmt} {scope : Scope} {f : Addr} {fd : FuncData} {k : Nat} {ps : List Str}
theorem callee_of {S : Sp2} (F : FunD K x qual params body scope [] [] f fd) (g : mg x = some (.ref f)) (ok : FnOk P w K mg base (L2N.CX P w) k f fd ps (spOf K S))
    (h : ∀ (kV doc pm : Value) (an : Option Addr) (cdv ct : Value) (us : List Value), us.length = ps.length → bindArgs (PySem.W.fnOf x qual params body scope .none kV doc pm an cdv ct) ⟨us, []⟩ = pure (ps.zip us)) : CalleeG P w K mg base x k S :=
  ⟨f, fd, ps, g, F.kp, F.bindsN h, ok⟩
theorem calleeX_of {S : SpX} (F : FunD K x qual params body scope [] [] f fd) (g : mg x = some (.ref f)) (ok : FnX P w K mg base (L2N.CX P w) k f fd ps (spOfX K S))
    (h : ∀ (kV doc pm : Value) (an : Option Addr) (cdv ct : Value) (us : List Value), us.length = ps.length → bindArgs (PySem.W.fnOf x qual params body scope .none kV doc pm an cdv ct) ⟨us, []⟩ = pure (ps.zip us)) : CalleeX P w K mg base x k S :=
  ⟨f, fd, ps, g, F.kp, F.bindsN h, ok⟩
/-- no exception is wished: none leaves -/
theorem FnOk.noX {sp : Sp} (F : FnOk P w K mg base (L2N.CX P w) k f fd ps sp) : FnOk P w K mg base CX0 k f fd ps (fun vs H Q _ => sp vs H Q fun _ _ _ => False) :=
  ⟨fun vs H Q _ h => F.len vs H Q _ h, fun A outer s H args us vs Q E hr e0 hb r h => codeAny_mono (F.run A outer s H args us vs Q _ hr e0 hb r h) fun a s' hq => by
    match a, hq with
    | .error e, ⟨_, _, _, _, _, _, _, _, _, _, _, _, z⟩ => exact z.elim
    | .ok (.ret u), hq => exact hq⟩
theorem reps_dI {G : Hp} : ∀ ns : List Int, Reps K G (dI ns) (ns.map V.int)
  | [] => .nil
  | _ :: ns => .cons .int (reps_dI ns)
/-- a script of numbers -/
def spScript (n : Nat) : Sp2 := fun rs m Kr Ke => ∃ (ns : List Int), rs = [.dat (.lst (dI ns))] ∧ ns.length ≤ n ∧ m = [] ∧ Kr (rB true) []
theorem script_ok {n : Nat} {H : Hp} {a : Addr} {ns : List Int} (hl : ns.length ≤ n) (hS : SqL K H a (ns.map V.int)) : spOf K (spScript n) [.ref a] H (fun v _ => v = .bl true) fun _ _ _ => False :=
  ⟨[.dat (.lst (dI ns))], [], H, fun r _ => r = rB true, fun _ _ _ => False, ⟨ns, rfl, hl, rfl, rfl⟩, Ex.refl H, List.nodup_nil, (fun p hp => by cases hp), .cons (.dat (.lst hS (reps_dI ns))) .nil, fun r m' G' H' v e _ rv => by
    subst e
    exact bl_of rv, fun _ _ _ _ _ _ z _ _ => z.elim⟩
end
end D2
/-! ## D2GEnd -/
/-! a law whose def is walked where no guard stands -/
namespace D2
open PySem PySem.Spec PyProof.Rows L2
section
variable {P : Program} {w : World} {K : PySem.W.Frag} {mg nb : Str → Option Value} {CX : CXT} {k : Nat} {fa a : Addr} {fd : FuncData} {x : Str} {sp : Sp} {t : Shared} {vs : List Value} {ns : List Int}
/-- what is wished of the law's end -/
abbrev Fine (t : Shared) (r : Result) (t' : Shared) : Prop := r = .ok (.ret (.bool true)) ∧ OldK t.heap t'.heap ∧ t'.os = t.os ∧ AllBare t'.gens
/-- over one abstract heap in which nothing but the script may stand -/
theorem law_over (inK : K.In t.heap) (g0 : t.heap.Ns mainGlobals mg) (b0 : t.heap.Ns builtinsNs nb) (bb : ∀ x : Str, x ≠ "__name__" → nb x = bootBuiltins x) (lim : t.heap.NoLimit) (gens : t.gens = #[])
    (ha : t.heap.get? a = some { cls := .type "list", data := .seq vs.toArray }) (room : Room k callerA)
    (F : ∀ base : Heap, K.In base → base.Ns mainGlobals mg → FnG P w K mg base CX k fa fd [x] sp) (bt : ∀ (s : Shared) (u : Value), BindsTo s fd ⟨[u], []⟩ [(x, u)])
    (noX : ∀ H e s', CX [] H t (fun _ _ _ => False) e s' → False)
    (H : Hp) (only : Only H) (hs : sp [.ref a] H (fun v _ => v = .bl true) fun _ _ _ => False) (ok : HOk P w H t.heap) (one : ∀ b, H b ≠ none → b = a ∧ K.lookup a = none) :
    codeAny (model P w) callerA (.call (.ref fa) ⟨[.ref a], []⟩) (Fine t) t := by
  have hid : ∀ b o, t.heap.get? b = some o → (b = a → H b = none) → (hidT t.heap H).get? b = some o := fun b o e h => hidT_get e (by
    by_cases q : H b = none
    · exact q
    · exact h (one b q).1)
  have ns : ∀ {b : Addr} {g : Str → Option Value}, t.heap.Ns b g → (hidT t.heap H).Ns b g := fun ⟨o, es, ep, e, d, r⟩ => ⟨o, es, ep, hid _ _ e fun q => by
    rw [q, ha] at e
    cases e
    exact Data.noConfusion d, d, r⟩
  have kin : K.In (hidT t.heap H) := fun b o e => hid b o (inK b o e) fun q => by
    by_cases z : H b = none
    · exact z
    · have z2 := (one b z).2
      rw [q, z2] at e; cases e
  obtain ⟨lm, l1, l2⟩ := lim
  have run := (F _ kin (ns g0)).go callerA [] t H ⟨[.ref a], []⟩ [.ref a] [.ref a] (fun v _ => v = .bl true) (fun _ _ _ => False) room rfl
    ⟨rfl, ⟨kin, ns g0, ⟨nb, ns b0, bb⟩, ⟨lm, ns l1, l2⟩⟩, fun b o e => of_hidT e, Nat.le_of_eq (hidT_size _ _), trivial, (fun b z => by cases z), ok, .of_eq gens⟩ (bt t (.ref a)) (.cons rfl .nil) hs
  refine codeAny_mono run fun r t' h => ?_
  match r, h with
  | .error e, h => exact (noX H e t' h).elim
  | .ok .next, h => exact h.elim
  | .ok .brk, h => exact h.elim
  | .ok .cont, h => exact h.elim
  | .ok (.ret u), ⟨v, H2, os, bare, un, ok2, rv, ev⟩ =>
    subst ev
    obtain rfl : u = Value.bool true := rv
    refine ⟨rfl, OldK.of_keep fun b o e => ?_, os, bare⟩
    by_cases z : H b = none
    · exact un.keep b o e z (fun q => by cases q) (by simp)
    · obtain ⟨ob, xs, q⟩ := (only b).resolve_left z
      have e1 := (ok b _ q).1
      have e2 := (ok2 b _ (un.frzs b ob _ q)).1
      exact e2.trans (e1.symm.trans e)
theorem law_callG (inK : K.In t.heap) (g0 : t.heap.Ns mainGlobals mg) (b0 : t.heap.Ns builtinsNs nb) (bb : ∀ x : Str, x ≠ "__name__" → nb x = bootBuiltins x) (lim : t.heap.NoLimit) (gens : t.gens = #[])
    (ha : t.heap.get? a = some { cls := .type "list", data := .seq vs.toArray }) (hi : IntsAre vs ns) (hl : ns.length ≤ sizeLine) (room : Room k callerA)
    (F : ∀ base : Heap, K.In base → base.Ns mainGlobals mg → FnG P w K mg base CX k fa fd [x] sp) (bt : ∀ (s : Shared) (u : Value), BindsTo s fd ⟨[u], []⟩ [(x, u)])
    (hsp : ∀ H : Hp, Only H → SqL K H a (ns.map V.int) → sp [.ref a] H (fun v _ => v = .bl true) fun _ _ _ => False)
    (noX : ∀ H e s', CX [] H t (fun _ _ _ => False) e s' → False) :
    codeAny (model P w) callerA (.call (.ref fa) ⟨[.ref a], []⟩) (Fine t) t := by
  have rv := vals_ints hi
  have hln := hi.length
  have done := law_over (P := P) (w := w) inK g0 b0 bb lim gens ha room F bt noX
  by_cases h : ∃ o, K.lookup a = some o
  · obtain ⟨o, h⟩ := h
    have e := (inK a o h).symm.trans ha
    cases e
    let H0 : Hp := fun _ => none
    have n0 : ∀ b u, H0 b ≠ some u := fun b u z => by have z' : (none : Option HO) = some u := z; cases z'
    exact done H0 (fun _ => .inl rfl) (hsp H0 (fun _ => .inl rfl) (.inr ⟨_, vs.toArray, _, h, rfl, rfl, rfl, by rw [List.size_toArray, hln]; exact hl, by simpa using rv⟩)) (fun b u z => (n0 b u z).elim) fun b z => (z rfl).elim
  · have hn : K.lookup a = none := by
      cases q : K.lookup a with
      | none => rfl
      | some o => exact (h ⟨o, q⟩).elim
    let cell : HO := .frz { cls := .type "list", data := .seq vs.toArray } (.lst (ns.map V.int))
    let H1 : Hp := fun b => if b = a then some cell else none
    have at_ : ∀ {b u}, H1 b = some u → b = a ∧ u = cell := fun {b u} z => by
      have z : (if b = a then some cell else none) = some u := z
      by_cases q : b = a
      · rw [if_pos q] at z; cases z; exact ⟨q, rfl⟩
      · rw [if_neg q] at z; cases z
    have self : H1 a = some cell := if_pos rfl
    have only : Only H1 := fun b => by
      by_cases q : b = a
      · exact .inr ⟨_, _, if_pos q⟩
      · exact .inl (if_neg q)
    refine done H1 only (hsp H1 only (.inl (.inr ⟨_, self⟩))) (fun b u z => ?_) fun b z => ?_
    · obtain ⟨rfl, rfl⟩ := at_ z
      exact ⟨ha, by rw [List.length_map]; exact hl, vs, _, rv, ha⟩
    · cases q : H1 b with
      | none => exact (z q).elim
      | some u => exact ⟨(at_ q).1, hn⟩
end
section
variable {P : Program} {w : World} {K : PySem.W.Frag} {mg : Str → Option Value} {base : Heap} {x qual : Str} {params : Arguments} {body : List Stmt} {scope : Scope} {f : Addr} {fd : FuncData} {k : Nat} {ps : List Str}
theorem calleeR_of {S : Sp2} (F : FunD K x qual params body scope [] [] f fd) (g : mg x = some (.ref f)) (ok : FnG P w K mg base (L2N.CX P w) k f fd ps (spOf K S))
    (h : ∀ (kV doc pm : Value) (an : Option Addr) (cv ct : Value) (us : List Value), us.length = ps.length → bindArgs (PySem.W.fnOf x qual params body scope .none kV doc pm an cv ct) ⟨us, []⟩ = pure (ps.zip us)) : CalleeR P w K mg base x k S := ⟨f, fd, ps, g, F.kp, F.bindsN h, ok⟩
theorem FnG.noX {sp : Sp} (F : FnG P w K mg base (L2N.CX P w) k f fd ps sp) : FnG P w K mg base CX0 k f fd ps (fun vs H Q _ => sp vs H Q fun _ _ _ => False) :=
  ⟨fun vs H Q _ h => F.len vs H Q _ h, fun A o s H as us vs Q E r ng e0 b v h => codeAny_mono (F.go A o s H as us vs Q _ r ng e0 b v h) fun a s' hq => by
    match a, hq with
    | .error e, ⟨_, _, _, _, _, _, _, _, _, _, _, _, z⟩ => exact z.elim
    | .ok (.ret u), hq => exact hq⟩
end
theorem walk_ofG {l : PySem.W.OpenLaw} {n k : Nat} {q : Program} {loose : List Str} {XP : (Str → Option Value) → Heap → Prop} {YP : World → Heap → Prop} {d : DefRec} {CX : CXT} {x : Str} (most : l.most = some n) (small : n ≤ sizeLine) (nodf : d.params.defaults = []) (room : Room k callerA)
    (F : ∀ w mg fa h, YP w h → h.Ns mainGlobals mg → mg d.name = some (.ref fa) → ∃ (K : PySem.W.Frag) (fd : FuncData) (sp : Sp), K.In h ∧ (∀ s u, BindsTo s fd ⟨[u], []⟩ [(x, u)]) ∧
      (∀ (H : Hp) (a : Addr) (ns : List Int), ns.length ≤ n → Only H → SqL K H a (ns.map V.int) → sp [.ref a] H (fun v _ => v = .bl true) fun _ _ _ => False) ∧ ∀ base : Heap, K.In base → base.Ns mainGlobals mg → FnG l.prog w K mg base CX k fa fd [x] sp)
    (noX : ∀ H s e s', CX [] H s (fun _ _ _ => False) e s' → False) : PySem.W.WalkO q loose XP YP l.row.toRowW d [] (fun f vs => PySem.call f vs) :=
  Att.attach_call most nodf fun w s₀ s₁ mg mb fa o pm cd doc a vs ns G Y ho hd hcd hmg hobj hints hlen hg =>
    have ⟨K, fd, sp, inK, bt, hs, hF⟩ := F w mg fa _ Y G.T.g hmg
    law_callG inK G.T.g G.T.b G.T.builtins G.T.nolimit hg hobj hints (Nat.le_trans hlen small) room hF bt (fun H o hq => hs H a ns hlen o hq) fun H e s' => noX H s₁ e s'
end D2
/-! ## NCls -/
/-! the law from its facts -/
namespace NC
open PySem PySem.Spec PyProof.Rows L2 D2
def FactsT : Prop := ∀ {w : World} {K : PySem.W.Frag} {h : Heap} {mg : Str → Option Value} {f : Addr}, K.In h → h.Ns mainGlobals mg → mg ("law" : Str) = some (.ref f) → SaysST fa fn pw.main.file inis ex tabs w K → ∃ fd : FuncData, (∀ (s : Shared) (v : Value), BindsTo s fd ⟨[v], []⟩ [("script", v)]) ∧ ∀ base : Heap, K.In base → base.Ns mainGlobals mg → FnOk pw w K mg base (L2N.CX pw w) 8 f fd ["script"] (spOf K (spScript 63))
end NC
section
open PySem PySem.W PySem.Calls PyProof.Rows
theorem NC.closing (hfacts : NC.FactsT) : PySem.Challenge.rw_nocounters_k17_stretch_meaning.Holds := by
  w_on; o_law
  refine HandSHeadRun.head_any (r := OpenLaw.row PySem.Challenge.rw_nocounters_k17_stretch_meaning) (q := view (OpenLaw.row PySem.Challenge.rw_nocounters_k17_stretch_meaning).prog [78]) (H := NC.hk) (ob := NC.ob) (M := 20000) (loose := NC.loose) (d := HandSHeadRun.topDef (OpenLaw.row PySem.Challenge.rw_nocounters_k17_stretch_meaning).prog 78) (kwd := []) NC.ob_eq
    (by kernel_rfl) (fun s => by kernel_rfl) NC.run (by kernel_rfl) (by kernel_rfl) (by kernel_rfl) (by rfl) (by first | assumption | decide +kernel) (by decide +kernel) ⟨rfl, rfl, rfl, rfl, rfl, by decide +kernel⟩ ?hw ?hc
  case hw => w_witness2
  case hc =>
    refine L2.walk_ofE (l := PySem.Challenge.rw_nocounters_k17_stretch_meaning) (n := 63) (k := 8) (x := "script") (CX := L2.CX0) rfl (by decide) (by kernel_rfl) ⟨rfl, by decide, by decide⟩ ?F (fun _ _ _ _ z => z)
    intro w mg fa h Y G hmg0
    obtain ⟨K, KX, c⟩ := Y
    have hmg : mg ("law" : PySem.Str) = some (.ref fa) := by
      have e : (HandSHeadRun.topDef (OpenLaw.row PySem.Challenge.rw_nocounters_k17_stretch_meaning).prog 78).name = ("law" : PySem.Str) := by kernel_rfl
      rw [← e]
      exact hmg0
    obtain ⟨fd, hb, hF⟩ := hfacts (w := w) KX G hmg c
    exact ⟨K, fd, (fun vs H Q _ => D2.spOf K (D2.spScript 63) vs H Q fun _ _ _ => False), KX, hb, fun H a ns hl _ hS => D2.script_ok hl hS, fun base hK hN => D2.FnOk.noX (hF base hK hN)⟩
end
/-! ## D2Kw -/
/-! calls with keywords; keyword-only defaults left out -/
namespace D2
open PySem PySem.Spec PyProof.Rows L2
/-- a def some of whose parameters are given by keywords ks, or by their defaults: gR puts positional and keyword data in the parameters' order -/
def CalleeK (P : Program) (w : World) (K : PySem.W.Frag) (mg : Str → Option Value) (base : Heap) (x : Str) (k n : Nat) (ks : List Str) (gR : List R → List R → List R) (S : Sp2) : Prop :=
  ∃ f fd ps g gV, mg x = some (.ref f) ∧ PySem.W.keepIn K (.ref f) = true ∧ KBn K fd ps n ks g gV ∧ FnOk P w K mg base (L2N.CX P w) k f fd ps (spOf K S) ∧
    ∀ (G : Hp) (rs zs : List R) (vs ws : List V), rs.length = n → zs.length = ks.length → RelRs K G rs vs → RelRs K G zs ws → RelRs K G (gR rs zs) (gV vs ws)
section
variable {X : Cx} {c : Ct} {σ : Sl} {m : Mem} {x : Str} {S : Sp2} {k j n : Nat} {e : Expr} {es : List Expr} {K : R → Mem → Prop} {q pos : Pos} {ks : List Str} {gR : List R → List R → List R}
/-- the keywords' values -/
def DKw (X : Cx) (c : Ct) (σ : Sl) (m : Mem) (kws : List Keyword) (K : List R → Mem → Prop) : Prop :=
  ∀ (pos : Pos) (pins : List (Addr × Obj)) (s : Shared) (τ : L2.St) (H G : Hp) (Q : List V → Hp → Prop), Inv X pins τ H s → EnvOk X c σ m G τ H → CA X c σ τ G K Q →
    wpAny (model X.prog X.w) X.A (evalAll ((backToKw pos (keywordEach kws X.env)).map (·.2))) (AP X pins τ Q) X.xe s
theorem dk_nil {K : List R → Mem → Prop} (h : K [] m) : DKw X c σ m [] K := fun pos pins s τ H G Q I E q => wpAny_evalAll_nil ⟨[], H, I, .nil, q [] m G H [] h (Ex.refl G) E .nil⟩
theorem dk_cons {nm : Option Str} {kpos : Pos} {kws : List Keyword} {K : List R → Mem → Prop} (h : DE X c σ m e (fun r m1 => DKw X c σ m1 kws (fun rs m2 => K (r :: rs) m2))) : DKw X c σ m (⟨nm, e, kpos⟩ :: kws) K := fun pos pins s τ H G Q I E q => by
  show wpAny _ _ (evalAll ((do let v ← eval e X.env; standAt pos; pure v) :: (backToKw pos (keywordEach kws X.env)).map (·.2))) _ _ s
  refine wpAny_evalAll_cons (wpAny_bind (thn (h pins s τ H G (fun v H1 => ∃ r m1 G1, Ex G G1 ∧ DKw X c σ m1 kws (fun rs m2 => K (r :: rs) m2) ∧ EnvOk X c σ m1 G1 τ H1 ∧ RelR X.K G1 r v) I E fun r m1 G1 H1 v z x E1 rv => ⟨r, m1, G1, x, z, E1, rv⟩) fun u s1 ⟨v, H1, I1, r1, r, m1, G1, x1, d, E1, rv⟩ => wpAny_bind (wpAny_standAt (wpAny_pure ?_))))
  refine thn (d pos pins s1 τ H1 G1 (fun vs H2 => Q (v :: vs) H2) I1 E1 fun rs m2 G2 H2 vs z x2 E2 rvs => q (r :: rs) m2 G2 H2 (v :: vs) z (x1.trans x2) E2 (.cons (rv.mono x2) rvs)) fun us s2 ⟨xs, H2, I2, r2, q2⟩ => ⟨v :: xs, H2, I2, .cons r1 r2, q2⟩
theorem de_callK {kws : List Keyword} (cl : CalleeK X.prog X.w X.K X.mg X.base x j n ks gR S) (L : Live X c k) (hg : Gl X x) (h : DA X c σ m (e :: es) (fun rs m1 => DKw X c σ m1 kws (fun zs m2 => rs.length = n ∧ zs.length = ks.length ∧ ∃ mf rest, Split m2 mf rest ∧ S (gR rs zs) mf (fun r m' => K r (m' ++ rest)) (fun C fs m' => c.ex σ (m' ++ rest) C fs)))) (hjk : j ≤ k := by decide)
    (hall : (backToKw pos (keywordEach kws X.env)).all (·.1.isSome) = true := by rfl) (hks : (backToKw pos (keywordEach kws X.env)).filterMap (·.1) = ks := by rfl)
    (hdb : (x == ("__debug__" : Str)) = false := by decide) (he : starEach (e :: es) X.env = (false, eval e X.env) :: starEach es X.env := by rfl)
    (hpl : ((backTo pos (starEach (e :: es) X.env)).any (·.1) || (backToKw pos (keywordEach kws X.env)).any (·.1.isNone)) = false := by rfl) : DE X c σ m (.Call (.Name x q) (e :: es) kws pos) K := fun pins s τ H G Q I E qq => by
  obtain ⟨f, fd, ps, g, gV, hm, hk, hb, F, hgr⟩ := cl
  refine wpAny_Call_Name_kw (ld_glob I hg hm ?_ hdb)
  refine PySem.W.callWith_KW (h₀ := X.base) I.ok.mod.kin hk hall (thn (h pos pins s τ H G (fun vs H1 => ∃ rs m1 G1, Ex G G1 ∧ RelRs X.K G1 rs vs ∧ EnvOk X c σ m1 G1 τ H1 ∧ DKw X c σ m1 kws (fun zs m2 => rs.length = n ∧ zs.length = ks.length ∧ ∃ mf rest, Split m2 mf rest ∧ S (gR rs zs) mf (fun r m' => K r (m' ++ rest)) (fun C fs m' => c.ex σ (m' ++ rest) C fs))) I E fun rs m1 G1 H1 vs z x1 E1 rv => ⟨rs, m1, G1, x1, rv, E1, z⟩) fun us s1 ⟨vs, H1, I1, r, rs, m1, G1, x1, rv, E1, d⟩ => ?_) hpl he
  refine thn (d pos pins s1 τ H1 G1 (fun zs H2 => ∃ rs2 m2 G2, Ex G1 G2 ∧ RelRs X.K G2 rs2 zs ∧ EnvOk X c σ m2 G2 τ H2 ∧ rs.length = n ∧ rs2.length = ks.length ∧ ∃ mf rest, Split m2 mf rest ∧ S (gR rs rs2) mf (fun r m' => K r (m' ++ rest)) (fun C fs m' => c.ex σ (m' ++ rest) C fs)) I1 E1 fun rs2 m2 G2 H2 vs z x2 E2 rv2 => ⟨rs2, m2, G2, x2, rv2, E2, z⟩) fun ws s2 ⟨zs, H2, I2, rz, rs2, m2, G2, x2, rv2, E2, l1, l2, mf, rest, hs, z⟩ => ⟨I2.kIn, ?_⟩
  rw [hks]
  refine wpAny_call (codeAny_mono ((F.mono hjk).run X.A X.stack s2 H2 ⟨us, ks.zip ws⟩ (g us ws) (gV vs zs) Q (WE (Wx X c) τ) L.room I2.env0 (hb.to s2 us ws I2.kIn (r.length.symm.trans (by rw [← rv.length]; exact l1)) (rz.length.symm.trans (by rw [← rv2.length]; exact l2))) (hb.rel r rz) (callee_sp E2 hs (hgr G2 rs rs2 vs zs l1 l2 (rv.mono x2) rv2) z (qq.mono (x1.trans x2)))) fun a s' hq => ?_)
  match a, hq with
  | .error e, hq => exact L2N.passAt L.tk τ pins H2 s2 e s' I2 hq
  | .ok (.ret u), hq => exact I2.after hq
/-- a def called with its last defaults left out -/
def CalleeD (P : Program) (w : World) (K : PySem.W.Frag) (mg : Str → Option Value) (base : Heap) (x : Str) (k : Nat) (drs : List R) (S : Sp2) : Prop :=
  ∃ f fd ps ds dvs, mg x = some (.ref f) ∧ PySem.W.keepIn K (.ref f) = true ∧ Binds K fd ps ds ∧ Vals dvs ds ∧ FnOk P w K mg base (L2N.CX P w) k f fd ps (spOf K S) ∧ ∀ G : Hp, RelRs K G drs dvs
theorem de_callD {drs : List R} (cl : CalleeD X.prog X.w X.K X.mg X.base x j drs S) (L : Live X c k) (hg : Gl X x) (h : DA X c σ m (e :: es) (fun rs m1 => ∃ mf rest, Split m1 mf rest ∧ S (rs ++ drs) mf (fun r m' => K r (m' ++ rest)) (fun C fs m' => c.ex σ (m' ++ rest) C fs))) (hjk : j ≤ k := by decide)
    (hdb : (x == ("__debug__" : Str)) = false := by decide) (he : starEach (e :: es) X.env = (false, eval e X.env) :: starEach es X.env := by rfl) (hpl : (backTo pos (starEach es X.env)).any (·.1) = false := by rfl) : DE X c σ m (.Call (.Name x q) (e :: es) [] pos) K := fun pins s τ H G Q I E qq => by
  obtain ⟨f, fd, ps, ds, dvs, hm, hk, hb, hd, F, hdr⟩ := cl
  refine (pe_callSD (F.mono hjk) L.room hg hm hk hb hd (fun τ => L2N.passAt L.tk τ) (pa_t (c := c)) hdb he hpl).run pins s τ H Q I ?_
  exact ⟨σ, m, G, _, E, h, fun rs m1 G1 H1 vs ⟨mf, rest, hs, z⟩ x1 E1 rv => callee_sp E1 hs (rv.append (hdr G1)) z (qq.mono x1)⟩
end
end D2
/-! ## D2Ins -/
/-! instances of own classes: owned, or data -/
namespace D2
open PySem PySem.Spec PyProof.Rows L2
section
variable {Kf : PySem.W.Frag} {G : Hp}
theorem RepF.relF : ∀ {fs : List (Str × D)} {vs : List (Str × V)}, RepF Kf G fs vs → RelF Kf G (fs.map fun p => (p.1, R.dat p.2)) vs
  | _, _, .nil => .nil
  | _, _, .cons h t => .cons (.dat h) t.relF
theorem RelF.keys : ∀ {fs : List (Str × R)} {vs : List (Str × V)}, RelF Kf G fs vs → vs.map (·.1) = fs.map (·.1)
  | _, _, .nil => rfl
  | _, _, .cons h t => by rw [List.map_cons, List.map_cons, t.keys]
theorem RelF.length {fs : List (Str × R)} {vs : List (Str × V)} (h : RelF Kf G fs vs) : vs.length = fs.length := by
  have := congrArg List.length h.keys
  rwa [List.length_map, List.length_map] at this
theorem RelF.at {f : Str} {r : R} : ∀ {fs : List (Str × R)} {vs : List (Str × V)}, RelF Kf G fs vs → fs.lookup f = some r → ∃ v, vs.lookup f = some v ∧ RelR Kf G r v
  | _, _, .nil, e => by cases e
  | _, _, .cons (k := k) (r := x) (v := v) (rs := rs) (vs := vs) h t, e => by
    rw [List.lookup_cons] at e ⊢
    cases q : (f == k) with
    | true => rw [q] at e; cases e; exact ⟨v, rfl, h⟩
    | false => rw [q] at e; exact RelF.at t e
theorem RelF.off {f : Str} : ∀ {fs : List (Str × R)} {vs : List (Str × V)}, RelF Kf G fs vs → fs.lookup f = none → vs.lookup f = none
  | _, _, .nil, e => rfl
  | _, _, .cons (k := k) (r := x) (v := v) (rs := rs) (vs := vs) h t, e => by
    rw [List.lookup_cons] at e ⊢
    cases q : (f == k) with
    | true => rw [q] at e; cases e
    | false => rw [q] at e; exact RelF.off t e
def putFR (f : Str) (r : R) : List (Str × R) → List (Str × R)
  | [] => [(f, r)]
  | (g, x) :: l => if g = f then (g, r) :: l else (g, x) :: putFR f r l
theorem RelF.put {f : Str} {r : R} {v : V} (rv : RelR Kf G r v) : ∀ {fs : List (Str × R)} {vs : List (Str × V)}, RelF Kf G fs vs → RelF Kf G (putFR f r fs) (putF f v vs)
  | _, _, .nil => .cons rv .nil
  | _, _, .cons (k := k) h t => by
    rw [putFR, putF]
    by_cases q : k = f
    · rw [if_pos q, if_pos q]; exact .cons rv t
    · rw [if_neg q, if_neg q]; exact .cons h (RelF.put rv t)
end
/-- seen as an instance of the class at C with these fields -/
inductive VO (m : Mem) : R → Addr → List (Str × R) → Prop
  | own {a C dx fs m'} : Has m a (.ins C dx fs) m' → VO m (.own a) C fs
  | dat {C fs} : VO m (.dat (.ins C fs)) C (fs.map fun p => (p.1, R.dat p.2))
section
variable {X : Cx} {c : Ct} {σ : Sl} {m m' : Mem} {G : Hp} {τ : L2.St} {H : Hp} {r : R} {v : V} {C : Addr} {fs : List (Str × R)} {f mn x : Str} {e o : Expr} {es : List Expr} {K : R → Mem → Prop} {pos apos pos' p : Pos} {k j : Nat} {S : Sp2}
theorem VO.at (h : VO m r C fs) (E : EnvOk X c σ m G τ H) (rv : RelR X.K G r v) : ∃ a dx vs, v = .ref a ∧ H a = some (.ins C dx vs) ∧ RelF X.K G fs vs := by
  cases h with
  | own hh =>
    cases rv
    obtain ⟨_, ho, eh, ro⟩ := E.mem _ hh.mem
    cases ro with | ins rf => exact ⟨_, _, _, rfl, eh, rf⟩
  | dat =>
    cases rv with | dat rv =>
    cases rv with | ins ea rf => exact ⟨_, _, _, rfl, E.sub _ _ ea, rf.relF⟩
/-- e.f -/
theorem de_fld (cl : Cls X.K C) (na : NoAttr X.K C f) (h : DE X c σ m e (fun ro m1 => ∃ fs r, VO m1 ro C fs ∧ fs.lookup f = some r ∧ K r m1)) (hb : attributeBase e f X.env (eval e X.env) = eval e X.env := by rfl) : DE X c σ m (.Attribute e f pos) K :=
  fun pins s τ H G Q I E q => (pe_fld (pe_t (c := c)) hb).run pins s τ H Q I ⟨σ, m, G, _, E, h, fun ro m1 G1 H1 v ⟨fs, r, hv, hl, z⟩ x1 E1 rv => by
    obtain ⟨a, dx, vs, ev, ea, rf⟩ := hv.at E1 rv
    obtain ⟨u, hu, ru⟩ := rf.at hl
    exact ⟨a, C, dx, vs, u, ev, ea, cl, na, hu, q r m1 G1 H1 u z x1 E1 ru⟩⟩
/-- o.f = e -/
theorem ds_fld {en : En} (cl : Cls X.K C) (na : NoAttr X.K C f) (h : DE X c σ m e (fun rv m1 => DE X c σ m1 o (fun ro m2 => ∃ a dx fs m3, ro = .own a ∧ Chg m2 a (.ins C dx fs) (.ins C dx (putFR f rv fs)) m3 ∧ fs.length < 1000 ∧ en.nx σ m3)))
    (hs : swapsWith e (some (.Attribute o f pos')) pos.line X.env = pure false := by rfl) : DS X c σ m (.Assign [.Attribute o f pos'] e pos) en := fun F pins s τ H G D I E fx ft => by
  refine plainObj_wpAny_Assign_Attribute (thn (h pins s τ H G (fun v H1 => ∃ rv m1 G1, Ex G G1 ∧ EnvOk X c σ m1 G1 τ H1 ∧ RelR X.K G1 rv v ∧ DE X c σ m1 o (fun ro m2 => ∃ a dx fs m3, ro = .own a ∧ Chg m2 a (.ins C dx fs) (.ins C dx (putFR f rv fs)) m3 ∧ fs.length < 1000 ∧ en.nx σ m3)) I E fun rv m1 G1 H1 v z x1 E1 rr => ⟨rv, m1, G1, x1, E1, rr, z⟩) fun u s1 ⟨y, H1, I1, ry, rv, m1, G1, x1, E1, rr, d⟩ => ?_) hs
  refine thn (d pins s1 τ H1 G1 (fun v H2 => ∃ ro m2 G2, Ex G1 G2 ∧ EnvOk X c σ m2 G2 τ H2 ∧ RelR X.K G2 ro v ∧ ∃ a dx fs m3, ro = .own a ∧ Chg m2 a (.ins C dx fs) (.ins C dx (putFR f rv fs)) m3 ∧ fs.length < 1000 ∧ en.nx σ m3) I1 E1 fun ro m2 G2 H2 v z x2 E2 rr2 => ⟨ro, m2, G2, x2, E2, rr2, z⟩) fun ov s2 ⟨z, H2, I2, rz, ro, m2, G2, x2, E2, rr2, a, dx, fs, m3, er, hc, hl, hn⟩ => ?_
  subst er
  cases rr2
  obtain rfl : ov = Value.ref a := rz
  obtain ⟨_, ho, eh, ro⟩ := E2.mem _ hc.mem
  cases ro with | ins rf =>
  refine setattr_ok I2 eh cl na (by rw [rf.length]; exact hl) ry fun s3 I3 => ⟨τ, _, I3, ?_⟩
  exact ft.nx σ m3 G2 τ _ hn ((fx.trans x1).trans x2) (E2.chg hc (.ins (rf.put (rr.mono x2))))
end
/-- the owned objects in another order -/
theorem dss_perm {X : Cx} {c : Ct} {σ : Sl} {m m' : Mem} {sts : List Stmt} {en : En} (p : m.Perm m') (h : DSs X c σ m' sts en) : DSs X c σ m sts en := fun F pins s τ H G D I E x f =>
  h F pins s τ H G D I (E.drop (fun q hq => p.mem_iff.mpr hq) ((p.map _).nodup_iff.mp E.nd)) x f
theorem ds_perm {X : Cx} {c : Ct} {σ : Sl} {m m' : Mem} {st : Stmt} {en : En} (p : m.Perm m') (h : DS X c σ m' st en) : DS X c σ m st en := fun F pins s τ H G D I E x f =>
  h F pins s τ H G D I (E.drop (fun q hq => p.mem_iff.mpr hq) ((p.map _).nodup_iff.mp E.nd)) x f
theorem de_perm {X : Cx} {c : Ct} {σ : Sl} {m m' : Mem} {e : Expr} {K : R → Mem → Prop} (p : m.Perm m') (h : DE X c σ m' e K) : DE X c σ m e K := fun pins s τ H G Q I E q =>
  h pins s τ H G Q I (E.drop (fun q hq => p.mem_iff.mpr hq) ((p.map _).nodup_iff.mp E.nd)) q
theorem perm3 {α : Type} {a b c : α} {l : List α} : (a :: b :: c :: l).Perm (c :: b :: a :: l) := ((List.Perm.swap b a (c :: l)).trans ((List.Perm.swap c a l).cons b)).trans (List.Perm.swap c b (a :: l))
/-- a method of the class at C keeps a promise -/
structure CalleeM (P : Program) (w : World) (K : PySem.W.Frag) (mg : Str → Option Value) (base : Heap) (C : Addr) (mn : Str) (k : Nat) (S : Sp2) : Prop where
  cls : Cls K C
  run : ∃ f fd ps, Meth K C mn f ∧ Binds K fd ps [] ∧ FnOk P w K mg base (L2N.CX P w) k f fd ps (spOf K S)
/-- the class called x is made by its __init__ -/
structure CalleeI (P : Program) (w : World) (K : PySem.W.Frag) (mg : Str → Option Value) (base : Heap) (x : Str) (C : Addr) (k : Nat) (S : Sp2) : Prop where
  gl : mg x = some (.ref C)
  run : ∃ f fd ps, Mk K C f ∧ Binds K fd ps [] ∧ FnOk P w K mg base (L2N.CX P w) k f fd ps (spOf K S)
section
variable {X : Cx} {c : Ct} {σ : Sl} {m m' : Mem} {G : Hp} {τ : L2.St} {H : Hp} {r : R} {v : V} {C : Addr} {fs : List (Str × R)} {f mn x : Str} {e o : Expr} {es : List Expr} {K : R → Mem → Prop} {pos apos pos' p : Pos} {k j : Nat} {S : Sp2}
/-- what is asked of a method's call -/
abbrev MPost (X : Cx) (c : Ct) (σ : Sl) (S : Sp2) (K : R → Mem → Prop) (ro : R) (rs : List R) (m2 : Mem) : Prop := ∃ mf rest, Split m2 mf rest ∧ S (ro :: rs) mf (fun r m' => K r (m' ++ rest)) (fun C fs m' => c.ex σ (m' ++ rest) C fs)
/-- o.m(e, ..) -/
theorem de_meth {pl : Sem Bool} (cl : CalleeM X.prog X.w X.K X.mg X.base C mn j S) (L : Live X c k) (h : DE X c σ m o (fun ro m1 => (∃ fs, VO m1 ro C fs ∧ fs.lookup mn = none) ∧ DA X c σ m1 (e :: es) (fun rs m2 => MPost X c σ S K ro rs m2))) (hjk : j ≤ k := by decide)
    (hst : starEach (e :: es) X.env = (false, eval e X.env) :: starEach es X.env := by rfl) (hpl : (backTo pos (starEach es X.env)).any (·.1) = false := by rfl)
    (ht : eval (.Call (.Attribute o mn apos) (e :: es) [] pos) X.env = (do
      let ov ← eval o X.env
      standAt apos.atName
      let (f, first) ← holding [ov] (getMethod ov mn pl)
      callWith pos f first (backTo pos (starEach (e :: es) X.env)) (backToKw pos (keywordEach [] X.env))) := by rfl) :
    DE X c σ m (.Call (.Attribute o mn apos) (e :: es) [] pos) K := fun pins s τ H G Q I E q => by
  obtain ⟨cls, f, fd, ps, hm, hb, F⟩ := cl
  refine PySem.W.methodCall_KW (pl := pl) (thn (h pins s τ H G (fun v H1 => ∃ ro m1 G1, Ex G G1 ∧ EnvOk X c σ m1 G1 τ H1 ∧ RelR X.K G1 ro v ∧ (∃ fs, VO m1 ro C fs ∧ fs.lookup mn = none) ∧ DA X c σ m1 (e :: es) (fun rs m2 => MPost X c σ S K ro rs m2)) I E fun ro m1 G1 H1 v z x1 E1 rr => ⟨ro, m1, G1, x1, E1, rr, z.1, z.2⟩) fun u s1 ⟨x, H1, I1, rx, ro, m1, G1, x1, E1, rr, ⟨fs, hv, hl⟩, d⟩ => ?_) ht
  obtain ⟨a, dx, vs, rfl, ea, rf⟩ := hv.at E1 rr
  obtain rfl : u = Value.ref a := rx
  refine getmeth_ok I1 ea cls hm (rf.off hl) ?_
  refine PySem.W.callWith_K (first := [.ref a]) (h₀ := X.base) I.ok.mod.kin hm.kp (thn (d pos pins s1 τ H1 G1 (fun vs H2 => ∃ rs m2 G2, Ex G1 G2 ∧ EnvOk X c σ m2 G2 τ H2 ∧ RelRs X.K G2 rs vs ∧ MPost X c σ S K ro rs m2) I1 E1 fun rs m2 G2 H2 vs z x2 E2 rr2 => ⟨rs, m2, G2, x2, E2, rr2, z⟩) fun us s2 ⟨vs, H2, I2, r2, rs, m2, G2, x2, E2, rr2, mf, rest, hs, z⟩ => ⟨I2.kIn, ?_⟩) hst hpl
  exact run_fnS (E := WE (Wx X c)) (us := .ref a :: us) (vs := .ref a :: vs) (F.mono hjk) L.room hb (L2N.passAt L.tk τ) I2 (.cons rfl r2) (callee_sp E2 hs (.cons (rr.mono x2) rr2) z (q.mono (x1.trans x2)))
/-- o.m() -/
theorem de_meth0 {pl : Sem Bool} (cl : CalleeM X.prog X.w X.K X.mg X.base C mn j S) (L : Live X c k) (h : DE X c σ m o (fun ro m1 => (∃ fs, VO m1 ro C fs ∧ fs.lookup mn = none) ∧ MPost X c σ S K ro [] m1)) (hjk : j ≤ k := by decide)
    (ht : eval (.Call (.Attribute o mn apos) [] [] pos) X.env = (do
      let ov ← eval o X.env
      standAt apos.atName
      let (f, first) ← holding [ov] (getMethod ov mn pl)
      callWith pos f first (backTo pos (starEach [] X.env)) (backToKw pos (keywordEach [] X.env))) := by rfl) :
    DE X c σ m (.Call (.Attribute o mn apos) [] [] pos) K := fun pins s τ H G Q I E q => by
  obtain ⟨cls, f, fd, ps, hm, hb, F⟩ := cl
  refine PySem.W.methodCall_KW (pl := pl) (thn (h pins s τ H G (fun v H1 => ∃ ro m1 G1, Ex G G1 ∧ EnvOk X c σ m1 G1 τ H1 ∧ RelR X.K G1 ro v ∧ (∃ fs, VO m1 ro C fs ∧ fs.lookup mn = none) ∧ MPost X c σ S K ro [] m1) I E fun ro m1 G1 H1 v z x1 E1 rr => ⟨ro, m1, G1, x1, E1, rr, z.1, z.2⟩) fun u s1 ⟨x, H1, I1, rx, ro, m1, G1, x1, E1, rr, ⟨fs, hv, hl⟩, mf, rest, hs, z⟩ => ?_) ht
  obtain ⟨a, dx, vs, rfl, ea, rf⟩ := hv.at E1 rr
  obtain rfl : u = Value.ref a := rx
  refine getmeth_ok I1 ea cls hm (rf.off hl) ?_
  exact PySem.W.callWith_K0 (first := [.ref a]) I1.kIn hm.kp (run_fnS (E := WE (Wx X c)) (us := [.ref a]) (vs := [.ref a]) (F.mono hjk) L.room hb (L2N.passAt L.tk τ) I1 (.cons rfl .nil) (callee_sp E1 hs (.cons rr .nil) z (q.mono x1)))
/-- what is asked of a class's call -/
abbrev IPost (X : Cx) (c : Ct) (σ : Sl) (S : Sp2) (C : Addr) (K : R → Mem → Prop) (rs : List R) (m1 : Mem) : Prop :=
  ∀ p dx, ∃ mf rest, Split m1 mf rest ∧ S (.own p :: rs) ((p, .ins C dx []) :: mf) (fun r m' => r = .dat .non ∧ K (.own p) (m' ++ rest)) (fun C' fs m' => c.ex σ (m' ++ rest) C' fs)
theorem split_in {p : Addr} {o : O} {m mf rest : Mem} (h : Split m mf rest) : Split ((p, o) :: m) ((p, o) :: mf) rest := .cons .here h
theorem run_init {f : Addr} {fd : FuncData} {ps : List Str} {pins : List (Addr × Obj)} {s : Shared} {us : List Value} {vs : List V} {rs : List R} {Q : VK} (M : Mk X.K C f) (hb : Binds X.K fd ps []) (F : FnOk X.prog X.w X.K X.mg X.base (L2N.CX X.prog X.w) j f fd ps (spOf X.K S)) (L : Live X c k) (hjk : j + 1 ≤ k)
    (I : Inv X pins τ H s) (E : EnvOk X c σ m G τ H) (r : Vals vs us) (rr : RelRs X.K G rs vs) (h : IPost X c σ S C K rs m) (q : CK X c σ τ G K Q) : wpAny (model X.prog X.w) X.A (call (.ref C) us) (EP X pins τ Q) X.xe s := by
  have hx : H (s.heap.objs.size + 1) = none := I.hok.fresh (Nat.le_succ _)
  have hdx : H s.heap.objs.size = none := I.hok.fresh (Nat.le_refl _)
  have ne : s.heap.objs.size + 1 ≠ s.heap.objs.size := Nat.succ_ne_self _
  have I2 := Inv.made (C := C) I
  have r2 : Vals (V.ref (s.heap.objs.size + 1) :: vs) (Value.ref (s.heap.objs.size + 1) :: us) := .cons rfl r
  have E2 : EnvOk X c σ m (L2.upd G s.heap.objs.size (.own (s.heap.objs.size + 1))) τ (L2.upd H s.heap.objs.size (.own (s.heap.objs.size + 1))) := E.newG hdx
  have E3 := E2.new (p := s.heap.objs.size + 1) (o := .ins C s.heap.objs.size []) (ho := .ins C s.heap.objs.size []) (by rw [upd_ne ne]; exact hx) (.ins .nil)
  have gdx : G s.heap.objs.size = none := E.sub.back hdx
  obtain ⟨mf, rest, hs, z⟩ := h (s.heap.objs.size + 1) s.heap.objs.size
  have hq := callee_sp (K := fun r m' => r = .dat .non ∧ K (.own (s.heap.objs.size + 1)) m') (Q := fun v H2 => v = .non ∧ Q (.ref (s.heap.objs.size + 1)) H2) E3 (split_in hs) (.cons .own (rr.mono (Ex.new gdx))) z (fun r m' G' H' v ⟨er, kz⟩ x' E' rv => by
    subst er
    cases rv with | dat rv => cases rv; exact ⟨rfl, q _ m' G' H' _ kz ((Ex.new gdx).trans x') E' .own⟩)
  have hl : (Value.ref (s.heap.objs.size + 1) :: us).length = ps.length := by
    have e := r2.length
    rw [F.len _ _ _ _ hq] at e
    exact e.symm
  have b := hb { s with heap := (s.heap.push PySem.W.emptyDict).push (PySem.W.instObj C s.heap.objs.size) } (Value.ref (s.heap.objs.size + 1) :: us) I2.kIn (by rw [List.append_nil]; exact hl)
  rw [List.append_nil] at b
  refine wpAny_call (make_map (f := f) I.kIn M.makes M.init (beq_iff_eq.mp M.fn) (codeAny_mono ((F.mono (show j ≤ j from Nat.le_refl j)).run _ X.stack _ _ ⟨Value.ref (s.heap.objs.size + 1) :: us, []⟩ (Value.ref (s.heap.objs.size + 1) :: us) _ _ (WE (Wx X c) τ) ((L.room.mono hjk).make C us [])
    (I2.env0.make C us []) b r2 hq) fun r s' hq' => ?_))
  cases r with
  | error e => exact L2N.passAt L.tk τ pins _ _ e s' I2 hq'
  | ok fl =>
    cases fl with
    | ret u =>
      obtain ⟨v, H', I3, rv, ev, q3⟩ := I2.after hq'
      subst ev
      exact ⟨rv, ⟨V.ref (s.heap.objs.size + 1), H', I3, rfl, q3⟩⟩
    | next => exact False.elim hq'
    | brk => exact False.elim hq'
    | cont => exact False.elim hq'
/-- C(e, ..) -/
theorem de_make (cl : CalleeI X.prog X.w X.K X.mg X.base x C j S) (L : Live X c k) (hg : Gl X x) (h : DA X c σ m (e :: es) (fun rs m1 => IPost X c σ S C K rs m1)) (hjk : j + 1 ≤ k := by decide)
    (hdb : (x == ("__debug__" : Str)) = false := by decide) (he : starEach (e :: es) X.env = (false, eval e X.env) :: starEach es X.env := by rfl) (hpl : (backTo pos (starEach es X.env)).any (·.1) = false := by rfl) : DE X c σ m (.Call (.Name x p) (e :: es) [] pos) K := fun pins s τ H G Q I E q => by
  obtain ⟨hm, f, fd, ps, M, hb, F⟩ := cl
  refine wpAny_Call_Name_kw (ld_glob I hg hm ?_ hdb)
  refine PySem.W.callWith_K (h₀ := X.base) I.ok.mod.kin M.kp (thn (h pos pins s τ H G (fun vs H1 => ∃ rs m1 G1, Ex G G1 ∧ EnvOk X c σ m1 G1 τ H1 ∧ RelRs X.K G1 rs vs ∧ IPost X c σ S C K rs m1) I E fun rs m1 G1 H1 vs z x1 E1 rr => ⟨rs, m1, G1, x1, E1, rr, z⟩) fun us s1 ⟨vs, H1, I1, r, rs, m1, G1, x1, E1, rr, z⟩ => ⟨I1.kIn, ?_⟩) he hpl
  exact run_init M hb F L hjk I1 E1 r rr z (q.mono x1)
/-- C() -/
theorem de_make0 (cl : CalleeI X.prog X.w X.K X.mg X.base x C j S) (L : Live X c k) (hg : Gl X x) (h : IPost X c σ S C K [] m) (hjk : j + 1 ≤ k := by decide)
    (hdb : (x == ("__debug__" : Str)) = false := by decide) : DE X c σ m (.Call (.Name x p) [] [] pos) K := fun pins s τ H G Q I E q => by
  obtain ⟨hm, f, fd, ps, M, hb, F⟩ := cl
  refine wpAny_Call_Name_kw (ld_glob I hg hm ?_ hdb)
  exact PySem.W.callWith_K0 I.kIn M.kp (run_init M hb F L hjk I E .nil .nil h q)
end
section
variable {P : Program} {w : World} {K : PySem.W.Frag} {mg : Str → Option Value} {base : Heap} {C : Addr} {mn x : Str} {k : Nat} {S : Sp2} {X : Cx} {N : List Str} {sc : Scope}
theorem Def.calleeM (D : Def X P w K mg base N sc) (h : CalleeM P w K mg base C mn k S) : CalleeM X.prog X.w X.K X.mg X.base C mn k S := by
  rw [D.prog, D.w, D.K, D.mg, D.base]; exact h
theorem Def.calleeI (D : Def X P w K mg base N sc) (h : CalleeI P w K mg base x C k S) : CalleeI X.prog X.w X.K X.mg X.base x C k S := by
  rw [D.prog, D.w, D.K, D.mg, D.base]; exact h
theorem Def.cls (D : Def X P w K mg base N sc) (h : Cls K C) : Cls X.K C := by rw [D.K]; exact h
theorem Def.noat (D : Def X P w K mg base N sc) {f : Str} (h : NoAttr K C f) : NoAttr X.K C f := by rw [D.K]; exact h
end
end D2
/-! ## D2N -/
/-! dicts read: d[k], k in d, k not in d; dicts with nested keys -/
namespace D2
open PySem PySem.Spec PyProof.Rows L2
theorem tail_D {prog : Program} {w : World} {A : Around} {E : Value → Shared → Prop} {s : Shared} {value slice : Expr} {T id : String} {o i : Value} {Q : Value → Shared → Prop}
    (hT : s.TypeIs o T) (hl : typeLookup (.type T) "__getitem__" = pure (some (.builtin id))) (hs : subscripted slice false o i = operate [o, i] (getItem o i))
    (h₂ : wpAny (model prog w) A (getItem o i) Q E s) : wpAny (model prog w) A (subscriptTail value slice o i) Q E s := by
  unfold subscriptTail
  refine wpAny_bind ?_
  rw [getitemInPython_of_ne hT.not_modules]
  refine wpAny_bind (wpAny_specialOf hT hl ?_)
  have fin : wpAny (model prog w) A (subscripted slice false o i) (fun r s₃ => wpAny (model prog w) A (letTemporaryGo value o r >>= fun _ => pure r) Q E s₃) E s := by
    rw [hs]
    exact wpAny_operating (wpAny_mono h₂ (fun r s₃ h₃ => wpAny_bind (wpAny_letTemporaryGo (wpAny_pure h₃))) fun _ _ x => x)
  first
    | exact wpAny_pure (wpAny_bind fin)
    | exact wpAny_bind (wpAny_pure (wpAny_bind fin))
    | exact wpAny_bind fin
section
variable {X : Cx} {c : Ct} {σ : Sl} {m m' : Mem} {k : Nat} {K : R → Mem → Prop} {ea eb : Expr} {a : Addr} {rk r : R} {kk : Key} {kvs : List (Key × R)}
def valR {κ : Type} [DecidableEq κ] (kvs : List (κ × R)) (k : κ) : Option R := (kvs.find? fun kv => decide (kv.1 = k)).map (·.2)
theorem relK_val {Kf : PySem.W.Frag} {G : Hp} {kvs : List (Key × R)} {vs : List (Key × V)} (h : RelK Kf G kvs vs) (k : Key) : (∀ r, valR kvs k = some r → ∃ v, valV vs k = some v ∧ RelR Kf G r v) ∧ (valR kvs k = none → valV vs k = none) := by
  induction h with
  | nil => exact ⟨(fun r e => by cases e), fun _ => rfl⟩
  | @cons k' r' v' kvs vs h1 h2 ih =>
    unfold valR valV
    rw [List.find?_cons, List.find?_cons]
    by_cases e : k' = k
    · rw [decide_eq_true e]
      exact ⟨fun r q => by cases q; exact ⟨_, rfl, h1⟩, fun q => by cases q⟩
    · rw [decide_eq_false e]
      exact ih
/-- d[k] -/
theorem x_dk (L : Live X c k) (hh : Has m a (.dk kvs) m') (hk : IsKey rk kk) (hv : valR kvs kk = some r) (z : K r m) : IX X c σ m ea eb (.own a) rk K := fun pins s τ H G v1 v2 u1 u2 Q I E q1 q2 p1 p2 q hs => by
  cases q1
  obtain rfl : u1 = Value.ref a := p1
  obtain ⟨_, ho, hho, ro⟩ := E.mem _ hh.mem
  cases ro with | @dk _ vs ro =>
  obtain ⟨v, e1, rv⟩ := (relK_val ro kk).1 r hv
  rw [hk.v q2] at p2
  have g : DGet H a (kV kk) (some v) := by rw [← e1]; exact DGet.k hho
  refine tail_D (dict_typeIs I g) PySem.F.slot_dict_getitem.lookup hs (d_getItem (by have := L.room.units; omega) I g p2 fun w' s' I' rw' => ?_)
  exact ⟨v, H, I', rw', q.now z E rv⟩
/-- k in d -/
theorem o_inK (L : Live X c k) (hh : Has m a (.dk kvs) m') (hk : IsKey rk kk) (z : K (rB (valR kvs kk).isSome) m) : OP X c σ m (compareOp .In) rk (.own a) K := fun pins s τ H G v1 v2 u1 u2 Q I E q1 q2 p1 p2 q => by
  cases q2
  obtain rfl : u2 = Value.ref a := p2
  obtain ⟨_, ho, hho, ro⟩ := E.mem _ hh.mem
  cases ro with | @dk _ vs ro =>
  rw [hk.v q1] at p1
  have e : (valV vs kk).isSome = (valR kvs kk).isSome := by
    cases hv : valR kvs kk with
    | none => rw [(relK_val ro kk).2 hv]; rfl
    | some r =>
      obtain ⟨v, e1, _⟩ := (relK_val ro kk).1 r hv
      rw [e1]; rfl
  refine d_in (by have := L.room.units; omega) I (DGet.k hho) p1 fun s' I' => ⟨.bl _, H, I', rfl, ?_⟩
  rw [e]
  exact q.now z E (.dat .bl)
end

/-! ### dicts with nested keys -/
section
variable {X : Cx} {pins : List (Addr × Obj)} {τ : L2.St} {H : Hp} {s : Shared} {G : Hp}
mutual
theorem key_is (I : Inv X pins τ H s) (e : Ex G H) : ∀ (k : NestedKey) {v : V} {u : Value}, Rep X.K G (nD k) v → RelV v u → NestedIs s.heap k u
  | .none, _, _, h, r => by
    cases h
    cases (show _ = _ from r)
    exact .none
  | .num i, _, _, h, r => by
    cases h
    obtain ⟨t, rfl⟩ := r
    exact .int i t
  | .text x, _, _, h, r => by
    cases h
    obtain ⟨t, rfl⟩ := r
    rw [sOf_lit]
    exact .text x t
  | .tup ks, _, _, h, r => by
    cases h with | @tup a xs vs hs rr =>
    cases r
    obtain ⟨its, rv, ⟨o, ho, hc, n, hd⟩, _⟩ := I.tuple (ex_t e hs)
    exact .tup ho hc hd (by simpa using keys_is I e ks rr rv)
theorem keys_is (I : Inv X pins τ H s) (e : Ex G H) : ∀ (ks : List NestedKey) {vs : List V} {us : List Value}, Reps X.K G (nDs ks) vs → Vals vs us → NestedAll s.heap ks us
  | [], _, _, .nil, .nil => .nil
  | k :: ks, _, _, .cons h t, .cons r q => .cons (key_is I e k h r) (keys_is I e ks t q)
end
theorem KeyAt.is {k : NestedKey} {b : Addr} (I : Inv X pins τ H s) (e : Ex G H) (h : KeyAt X.K G k b) : (nestedKind X.prog X.w).is s.heap k b := ⟨key_is I e k h.1 rfl, h.2⟩
abbrev findA (xs : List (NestedKey × Addr × V)) (k : NestedKey) : Option (NestedKey × Addr × V) := xs.find? fun x => decide (x.1 = k)
def putA (xs : List (NestedKey × Addr × V)) (k : NestedKey) (b : Addr) (v : V) : List (NestedKey × Addr × V) := if (findA xs k).isSome = true then xs.map (fun x => if x.1 = k then (x.1, x.2.1, v) else x) else xs ++ [(k, b, v)]
def putN (kvs : List (NestedKey × R)) (k : NestedKey) (r : R) : List (NestedKey × R) := if (valR kvs k).isSome = true then kvs.map (fun kv => if kv.1 = k then (kv.1, r) else kv) else kvs ++ [(k, r)]
theorem relN_len {Kf : PySem.W.Frag} {kvs : List (NestedKey × R)} {xs : List (NestedKey × Addr × V)} (h : RelN Kf G kvs xs) : kvs.length = xs.length := by
  induction h with
  | nil => rfl
  | cons _ _ _ ih => simp [ih]
theorem relN_some {Kf : PySem.W.Frag} {kvs : List (NestedKey × R)} {xs : List (NestedKey × Addr × V)} (h : RelN Kf G kvs xs) (k : NestedKey) : (valR kvs k).isSome = (findA xs k).isSome := by
  induction h with
  | nil => rfl
  | @cons k' r b v kvs xs h1 h2 _ ih =>
    unfold valR findA
    rw [List.find?_cons, List.find?_cons]
    by_cases e : k' = k
    · rw [decide_eq_true e] <;> rfl
    · rw [decide_eq_false e]; exact ih
theorem relN_val {Kf : PySem.W.Frag} {kvs : List (NestedKey × R)} {xs : List (NestedKey × Addr × V)} (h : RelN Kf G kvs xs) {k : NestedKey} {r : R} (hv : valR kvs k = some r) : ∃ b v, findA xs k = some (k, b, v) ∧ RelR Kf G r v := by
  induction h with
  | nil => cases hv
  | @cons k' r' b v kvs xs h1 h2 _ ih =>
    unfold valR at hv
    unfold findA
    rw [List.find?_cons] at hv ⊢
    by_cases e : k' = k
    · rw [decide_eq_true e] at hv ⊢
      cases hv
      exact ⟨b, v, by rw [e], h2⟩
    · rw [decide_eq_false e] at hv ⊢
      exact ih hv
theorem relN_snoc {Kf : PySem.W.Frag} {kvs : List (NestedKey × R)} {xs : List (NestedKey × Addr × V)} {k : NestedKey} {r : R} {b : Addr} {v : V} (h : RelN Kf G kvs xs) (hk : KeyAt Kf G k b) (rv : RelR Kf G r v) : RelN Kf G (kvs ++ [(k, r)]) (xs ++ [(k, b, v)]) := by
  induction h with
  | nil => exact .cons hk rv .nil
  | cons h1 h2 _ ih => exact .cons h1 h2 ih
theorem relN_put {Kf : PySem.W.Frag} {kvs : List (NestedKey × R)} {xs : List (NestedKey × Addr × V)} {k : NestedKey} {r : R} {b : Addr} {v : V} (h : RelN Kf G kvs xs) (hk : KeyAt Kf G k b) (rv : RelR Kf G r v) : RelN Kf G (putN kvs k r) (putA xs k b v) := by
  unfold putN putA
  rw [relN_some h k]
  split
  · rename_i hc
    clear hk hc
    induction h with
    | nil => exact .nil
    | @cons k' r' b' v' kvs xs h1 h2 _ ih =>
      rw [List.map_cons, List.map_cons]
      by_cases e : k' = k
      · rw [if_pos e, if_pos e]
        exact .cons h1 rv ih
      · rw [if_neg e, if_neg e]
        exact .cons h1 h2 ih
  · exact relN_snoc h hk rv
abbrev PairN (p : NestedKey × Addr × V) (q : NestedKey × Addr × Value) : Prop := p.1 = q.1 ∧ p.2.1 = q.2.1 ∧ RelV p.2.2 q.2.2
theorem pair_find {xs : List (NestedKey × Addr × V)} {ys : List (NestedKey × Addr × Value)} (h : Paired PairN xs ys) (k : NestedKey) : (findA xs k).isSome = (atKey ys k).isSome ∧ ∀ b v, findA xs k = some (k, b, v) → ∃ u, atKey ys k = some (b, u) ∧ RelV v u := by
  induction h with
  | nil => exact ⟨rfl, fun b v e => by cases e⟩
  | @cons p q xs ys h1 _ ih =>
    obtain ⟨k1, b1, v1⟩ := p
    obtain ⟨k2, b2, u2⟩ := q
    obtain ⟨e1, e2, rv⟩ := h1
    dsimp only at e1 e2 rv
    subst e1 e2
    unfold findA atKey
    rw [List.find?_cons, List.find?_cons]
    by_cases e : k1 = k
    · rw [decide_eq_true e]
      exact ⟨rfl, fun b v q => by cases q; exact ⟨u2, rfl, rv⟩⟩
    · rw [decide_eq_false e]; exact ih
theorem pair_put {xs : List (NestedKey × Addr × V)} {ys : List (NestedKey × Addr × Value)} (h : Paired PairN xs ys) {k : NestedKey} {b : Addr} {v : V} {u : Value} (rv : RelV v u) : Paired PairN (putA xs k b v) (storedH ys k b u) := by
  unfold putA storedH
  rw [(pair_find h k).1]
  split
  · rename_i hc
    clear hc
    induction h with
    | nil => exact .nil
    | @cons p q xs ys h1 _ ih =>
      rw [List.map_cons, List.map_cons]
      refine .cons ?_ ih
      obtain ⟨k1, b1, v1⟩ := p
      obtain ⟨k2, b2, u2⟩ := q
      obtain ⟨e1, e2, r1⟩ := h1
      dsimp only at e1 e2 r1
      subst e1 e2
      unfold putAt
      by_cases e : k1 = k
      · rw [if_pos e, if_pos e]; exact ⟨rfl, rfl, rv⟩
      · rw [if_neg e, if_neg e]; exact ⟨rfl, rfl, r1⟩
  · rename_i hc
    clear hc
    induction h with
    | nil => exact .cons ⟨rfl, rfl, rv⟩ .nil
    | cons h1 _ ih => exact .cons h1 ih
/-- the object as the model's rules want it -/
theorem dnO_of {a : Addr} {kvs : List (NestedKey × R)} {xs : List (NestedKey × Addr × V)} (I : Inv X pins τ H s) (e : Ex G H) (h : H a = some (dnO X.prog X.w a xs)) (r : RelN X.K G kvs xs) :
    (a == sysModules) = false ∧ ∃ ys, Paired PairN xs ys ∧ s.heap.DictOfH (nestedKind X.prog X.w) a ys := by
  obtain ⟨⟨hs, ys, o, es, ep, hp, ho, hx, hd, he, hn⟩, w1, w2⟩ := I.hok a _ h
  refine ⟨hs, ys, hp, o, es, ep, ho, hx, hd, he, ?_, hn⟩
  clear he hn hd hx ho h w1 w2
  induction r generalizing ys with
  | nil => cases hp; intro x hx; cases hx
  | @cons k r b v kvs xs h1 h2 _ ih =>
    cases hp with | @cons _ q _ ys q1 q2 =>
    intro x hx
    rcases List.mem_cons.mp hx with rfl | hx
    · obtain ⟨e1, e2, _⟩ := q1
      dsimp only at e1 e2
      rw [← e1, ← e2]
      exact h1.is I e
    · exact ih ys q2 x hx
theorem dnO_new {P : Program} {w : World} {a : Addr} {xs : List (NestedKey × Addr × V)} {ys : List (NestedKey × Addr × Value)} {H' : Hp} {h' : Heap} (hs : (a == sysModules) = false) (hp : Paired PairN xs ys) (d : h'.DictOfH (nestedKind P w) a ys) : ObjOk P w H' h' a (dnO P w a xs) := by
  obtain ⟨o, es, ep, ho, hx, hd, he, _, hn⟩ := d
  exact ⟨⟨hs, ys, o, es, ep, hp, ho, hx, hd, he, hn⟩, ⟨o, ho⟩, fun h1 h2 ⟨hs, ys, o, es, ep, hp, ho, r⟩ k => ⟨hs, ys, o, es, ep, hp, k _ ho, r⟩⟩
end
section
variable {X : Cx} {c : Ct} {σ : Sl} {m m' : Mem} {k : Nat} {K : R → Mem → Prop} {ea eb : Expr} {a : Addr} {r : R} {ks : List NestedKey} {kvs : List (NestedKey × R)} {pos : Pos}
/-- a tuple that can be a key -/
theorem keyAt_of {Kf : PySem.W.Frag} {G : Hp} {v : V} (hd : (NestedKey.tup ks).depth ≤ 8) (h : RelR Kf G (.dat (.tup (nDs ks))) v) : ∃ b, v = .ref b ∧ KeyAt Kf G (.tup ks) b := by
  cases h with | dat h =>
  cases h with | @tup b xs vs hs rr =>
  exact ⟨b, rfl, .tup hs rr, hd⟩
theorem roomN (L : Live X c k) : (nestedKind X.prog X.w).room X.A.in1 := by
  have := L.room.un
  show X.A.units + 1 + 8 < cLine
  omega
/-- {} whose keys will be nested -/
theorem d_newN (h : ∀ p, K (.own p) ((p, .dn X.prog X.w p []) :: m)) : DE X c σ m (.Dict [] [] pos) K := fun pins s τ H G Q I E q => by
  have hp : H s.heap.objs.size = none := I.hok.fresh (Nat.le_refl _)
  have d : (s.heap.push { cls := .type "dict", data := .dict #[] }).DictOfH (nestedKind X.prog X.w) s.heap.objs.size [] := Heap.DictOfH.new s.heap
  have hs : (s.heap.objs.size == sysModules) = false := by
    have := I.big
    exact beq_eq_false_iff_ne.mpr fun e => by rw [e] at this; exact absurd this (by decide)
  refine wpAny_Dict_empty ⟨.ref s.heap.objs.size, _, I.laid (a := s.heap.objs.size) (o := dnO X.prog X.w s.heap.objs.size []) (t' := s.toks) (fun _ _ q => Heap.get?_push_of_some _ q) (Nat.le_refl _) (dnO_new hs .nil d), rfl, ?_⟩
  exact q _ _ G _ _ (h _) (Ex.refl G) (E.new hp (.dn .nil)) .own
/-- k in d, k not in d -/
theorem o_inN (L : Live X c k) (hh : Has m a (.dn X.prog X.w a kvs) m') (hd : (NestedKey.tup ks).depth ≤ 8) (z : K (rB (valR kvs (.tup ks)).isSome) m) : OP X c σ m (compareOp .In) (.dat (.tup (nDs ks))) (.own a) K := fun pins s τ H G v1 v2 u1 u2 Q I E q1 q2 p1 p2 q => by
  cases q2
  obtain rfl : u2 = Value.ref a := p2
  obtain ⟨b, rfl, hk⟩ := keyAt_of hd q1
  obtain rfl : u1 = Value.ref b := p1
  obtain ⟨_, ho, hho, ro⟩ := E.mem _ hh.mem
  cases ro with | @dn _ _ _ _ xs ro =>
  obtain ⟨hs, ys, hp, dd⟩ := dnO_of I E.sub hho ro
  refine wpAny_in_heap (roomN L) (hk.is I E.sub) hs dd ⟨.bl _, H, I.tok _, rfl, ?_⟩
  rw [← (pair_find hp _).1, ← relN_some ro]
  exact q.now z E (.dat .bl)
theorem o_ninN (L : Live X c k) (hh : Has m a (.dn X.prog X.w a kvs) m') (hd : (NestedKey.tup ks).depth ≤ 8) (z : K (rB (!(valR kvs (.tup ks)).isSome)) m) : OP X c σ m (compareOp .NotIn) (.dat (.tup (nDs ks))) (.own a) K := fun pins s τ H G v1 v2 u1 u2 Q I E q1 q2 p1 p2 q => by
  cases q2
  obtain rfl : u2 = Value.ref a := p2
  obtain ⟨b, rfl, hk⟩ := keyAt_of hd q1
  obtain rfl : u1 = Value.ref b := p1
  obtain ⟨_, ho, hho, ro⟩ := E.mem _ hh.mem
  cases ro with | @dn _ _ _ _ xs ro =>
  obtain ⟨hs, ys, hp, dd⟩ := dnO_of I E.sub hho ro
  show wpAny _ _ (do return Value.bool (!(← contains (.ref a) (.ref b)))) _ _ s
  refine wpAny_bind (wpAny_contains_heap (roomN L) (hk.is I E.sub) hs dd (wpAny_pure ⟨.bl _, H, I.tok _, rfl, ?_⟩))
  rw [← (pair_find hp _).1, ← relN_some ro]
  exact q.now z E (.dat .bl)
/-- d[k] -/
theorem x_dn (L : Live X c k) (hh : Has m a (.dn X.prog X.w a kvs) m') (hd : (NestedKey.tup ks).depth ≤ 8) (hv : valR kvs (.tup ks) = some r) (z : K r m) : IX X c σ m ea eb (.own a) (.dat (.tup (nDs ks))) K := fun pins s τ H G v1 v2 u1 u2 Q I E q1 q2 p1 p2 q hs' => by
  cases q1
  obtain rfl : u1 = Value.ref a := p1
  obtain ⟨b, rfl, hk⟩ := keyAt_of hd q2
  obtain rfl : u2 = Value.ref b := p2
  obtain ⟨_, ho, hho, ro⟩ := E.mem _ hh.mem
  cases ro with | @dn _ _ _ _ xs ro =>
  obtain ⟨hs, ys, hp, dd⟩ := dnO_of I E.sub hho ro
  obtain ⟨b', v, hf, rv⟩ := relN_val ro hv
  obtain ⟨u, hu, ru⟩ := (pair_find hp _).2 b' v hf
  refine tail_D dd.typeIs PySem.F.slot_dict_getitem.lookup hs' (wpAny_getItem_heap (roomN L) (hk.is I E.sub) dd hu ?_)
  exact ⟨v, H, I.tok _, ru, q.now z E rv⟩
def tSetN (X : Cx) : TSet := fun o i v H Q => ∃ (a b : Addr) (k : NestedKey) (xs : List (NestedKey × Addr × V)) (G : Hp) (kvs : List (NestedKey × R)), o = .ref a ∧ i = .ref b ∧ H a = some (dnO X.prog X.w a xs) ∧ Ex G H ∧ RelN X.K G kvs xs ∧ KeyAt X.K G k b ∧ kvs.length < 1000000 ∧ Q (upd H a (dnO X.prog X.w a (putA xs k b v)))
theorem set_dn (L : Live X c k) : PSet X (tSetN X) := by
  intro pins s σ H o i v ov iv u Q I ro ri rv h
  obtain ⟨a, b, kk, xs, G, kvs, eo, ei, hH, ex, rel, hk, hl, q⟩ := h
  subst eo ei
  cases (show ov = Value.ref a from ro)
  cases (show iv = Value.ref b from ri)
  obtain ⟨hs, ys, hp, dd⟩ := dnO_of I ex hH rel
  have hlen : xs.length = ys.length := Paired.length hp
  refine wpAny_setItem_heap (hsz := by rw [← hlen, ← relN_len rel]; exact Nat.le_of_lt (Nat.lt_of_lt_of_le hl (by decide))) (roomN L) (hk.is I ex) dd fun h' hm' hsb => ?_
  obtain ⟨o', es, ep, ho', _⟩ := id hm'
  exact ⟨_, d_write I (by rw [hH]; exact True.intro) hsb ⟨_, ho'⟩ (dnO_new hs (pair_put hp rv) hm'), q⟩
/-- d[k] = v -/
theorem ds_setN {e : Expr} {en : En} (L : Live X c k) {px : Pos} (h : DE X c σ m e (fun rv m1 => DE X c σ m1 ea (fun ro m2 => DE X c σ m2 eb (fun ri m3 => ∃ q kvs ks m4, ro = .own q ∧ ri = .dat (.tup (nDs ks)) ∧ (NestedKey.tup ks).depth ≤ 8 ∧ Chg m3 q (.dn X.prog X.w q kvs) (.dn X.prog X.w q (putN kvs (.tup ks) rv)) m4 ∧ kvs.length < 1000000 ∧ en.nx σ m4))))
    (hs : swapsWithSole [.Subscript ea eb px] e pos.line X.env = pure false := by rfl) (hw : swappedStores [.Subscript ea eb px] e X.env = pure none := by rfl) (h1 : (assignEach [.Subscript ea eb px] X.env).map (·.2) = [assign (.Subscript ea eb px) X.env] := by rfl)
    (ha : ∀ v, assign (.Subscript ea eb px) X.env v = (do
      let ov ← holding [v] (eval ea X.env)
      let iv ← holding [v, ov] (eval eb X.env)
      standAt px
      holding [v, ov, iv] (setItem ov iv v)
      release [v, ov, iv] []) := by intro _; rfl) :
    DS X c σ m (.Assign [.Subscript ea eb px] e pos) en := fun F pins s τ H G D I E fx ft => by
  refine (ps_asg (pe_t (c := c)) (pg_sub (pe_t (c := c)) (pe_t (c := c)) (set_dn L) ha) hs hw h1).run pins s τ H D I ?_
  refine ⟨σ, m, G, _, E, h, fun rv m1 G1 H1 v d1 x1 E1 r1 => ?_⟩
  refine ⟨σ, m1, G1, _, E1, d1, fun ro m2 G2 H2 vo d2 x2 E2 r2 => ?_⟩
  refine ⟨σ, m2, G2, _, E2, d2, fun ri m3 G3 H3 vi ⟨q, kvs, ks, m4, e1, e2, hd, hc, hl, z⟩ x3 E3 r3 => ?_⟩
  subst e1 e2
  have r2' := r2.mono x3
  cases r2'
  obtain ⟨b, rfl, hk⟩ := keyAt_of hd r3
  obtain ⟨_, ho, hh, rr⟩ := E3.mem _ hc.mem
  cases rr with | @dn _ _ _ _ xs rr =>
  refine ⟨q, b, .tup ks, xs, G3, kvs, rfl, rfl, hh, E3.sub, rr, hk, hl, ?_⟩
  exact ft.nx σ m4 G3 τ _ z (((fx.trans x1).trans x2).trans x3) (E3.chg hc (.dn (relN_put rr hk (r1.mono (x2.trans x3)))))
/-- len(d) -/
theorem d_lenN {e : Expr} {p : Pos} (hg : Gl X "len") (hm : X.mg "len" = none) (h : DE X c σ m e (fun r m1 => ∃ a kvs m2, r = .own a ∧ Has m1 a (.dn X.prog X.w a kvs) m2 ∧ kvs.length ≤ 1000000 ∧ K (rI kvs.length) m1)) (hst : starEach [e] X.env = (false, eval e X.env) :: starEach [] X.env := by rfl) : DE X c σ m (.Call (.Name "len" p) [e] [] pos) K := by
  have cr : CallR X (.builtin "len") (fun xs H Q => ∃ (a : Addr) (xs' : List (NestedKey × Addr × V)) (G : Hp) (kvs : List (NestedKey × R)), xs = [V.ref a] ∧ H a = some (dnO X.prog X.w a xs') ∧ Ex G H ∧ RelN X.K G kvs xs' ∧ kvs.length ≤ 1000000 ∧ Q (.int kvs.length) H) := by
    intro pins s σ H xs us Q I r h
    obtain ⟨a, xs', G, kvs, rfl, hH, ex, rel, hl, q⟩ := h
    obtain ⟨u, rfl, ru⟩ := vals1 r
    obtain rfl : u = Value.ref a := ru
    obtain ⟨hs, ys, hp, dd⟩ := dnO_of I ex hH rel
    have e1 : kvs.length = ys.length := by rw [relN_len rel, Paired.length hp]
    refine call_len_dictH hs dd (by rw [← e1]; omega) ?_
    rw [← e1]
    exact ⟨.int kvs.length, H, I.tok _, ⟨_, rfl⟩, q⟩
  refine de_callB cr hg hm boot_len (da_cons (h.imp fun r m1 ⟨a, kvs, m2, er, hh, hl, z⟩ => da_nil ?_) hst) (he := hst)
  intro τ H G vs Q E rv q
  subst er
  obtain ⟨v, rfl, r1⟩ := one_of rv
  cases r1
  obtain ⟨_, ho, hho, ro⟩ := E.mem _ hh.mem
  cases ro with | @dn _ _ _ _ xs ro =>
  exact ⟨a, xs, G, kvs, rfl, hho, E.sub, ro, hl, q.now z E (.dat .int)⟩
theorem d_lenK {e : Expr} {p : Pos} (hg : Gl X "len") (hm : X.mg "len" = none) (h : DE X c σ m e (fun r m1 => ∃ (a : Addr) (kvs : List (Key × R)) (m2 : Mem), r = .own a ∧ Has m1 a (.dk kvs) m2 ∧ K (rI kvs.length) m1)) (hst : starEach [e] X.env = (false, eval e X.env) :: starEach [] X.env := by rfl) : DE X c σ m (.Call (.Name "len" p) [e] [] pos) K := by
  refine de_callB call_lenD hg hm boot_len (da_cons (h.imp fun r m1 ⟨a, kvs, m2, er, hh, z⟩ => da_nil ?_) hst) (he := hst)
  intro τ H G vs Q E rv q
  subst er
  obtain ⟨v, rfl, r1⟩ := one_of rv
  cases r1
  obtain ⟨_, ho, hho, ro⟩ := E.mem _ hh.mem
  cases ro with | @dk _ vs ro =>
  refine ⟨a, vs, rfl, hho, ?_⟩
  rw [← ro.length]
  exact q.now z E (.dat .int)
end
end D2
/-! ## D2W -/
/-! ==, in of data told as nested keys -/
namespace D2
open PySem PySem.Spec PyProof.Rows L2
abbrev rN (k : NestedKey) : R := .dat (nD k)
mutual
theorem pv_nD (m : Mem) : ∀ k : NestedKey, PV m (.dat (nD k)) k.data
  | .none => .non
  | .num i => .int
  | .text x => by
    have h : PV m (rS (lit x)) (.str (sOf (lit x))) := .str
    rw [sOf_lit] at h
    exact h
  | .tup ks => .tup (pvs_nD m ks)
theorem pvs_nD (m : Mem) : ∀ ks : List NestedKey, PVs m ((nDs ks).map .dat) (NestedKey.datas ks)
  | [] => .nil
  | k :: ks => .cons (pv_nD m k) (pvs_nD m ks)
end
theorem nDs_map : ∀ ks : List NestedKey, nDs ks = ks.map nD
  | [] => rfl
  | k :: ks => by rw [nDs, nDs_map ks]; rfl
theorem datas_map : ∀ ks : List NestedKey, NestedKey.datas ks = ks.map NestedKey.data
  | [] => rfl
  | k :: ks => by rw [NestedKey.datas, datas_map ks]; rfl
mutual
theorem eqv_key : ∀ a b : NestedKey, PyData.eqv a.data b.data = NestedKey.beq a b
  | .none, .none => rfl
  | .num a, .num b => by simp [NestedKey.data, PyData.eqv, NestedKey.beq, Bool.beq_eq_decide_eq]
  | .text a, .text b => by simp [NestedKey.data, PyData.eqv, NestedKey.beq, Bool.beq_eq_decide_eq]
  | .tup a, .tup b => by
    rw [NestedKey.data, NestedKey.data, PyData.eqv, NestedKey.beq]
    exact eqv_keys a b
  | .none, .num _ | .none, .text _ | .none, .tup _ => by simp [NestedKey.data, PyData.eqv, NestedKey.beq]
  | .num _, .none | .num _, .text _ | .num _, .tup _ => by simp [NestedKey.data, PyData.eqv, NestedKey.beq]
  | .text _, .none | .text _, .num _ | .text _, .tup _ => by simp [NestedKey.data, PyData.eqv, NestedKey.beq]
  | .tup _, .none | .tup _, .num _ | .tup _, .text _ => by simp [NestedKey.data, PyData.eqv, NestedKey.beq]
theorem eqv_keys : ∀ a b : List NestedKey, PyData.eqvAll (NestedKey.datas a) (NestedKey.datas b) = NestedKey.beqAll a b
  | [], [] => rfl
  | a :: as, b :: bs => by
    rw [NestedKey.datas, NestedKey.datas, PyData.eqvAll, NestedKey.beqAll, eqv_key a b, eqv_keys as bs]
  | [], _ :: _ => rfl
  | _ :: _, [] => rfl
end
theorem eqv_dec (a b : NestedKey) : PyData.eqv a.data b.data = decide (a = b) := by rw [eqv_key, NestedKey.decide_eq]
mutual
theorem plain_key : ∀ k : NestedKey, k.data.plain = true
  | .none => rfl
  | .num _ => rfl
  | .text _ => rfl
  | .tup ks => plain_keys ks
theorem plain_keys : ∀ ks : List NestedKey, PyData.plainAll (NestedKey.datas ks) = true
  | [] => rfl
  | k :: ks => by rw [NestedKey.datas, PyData.plainAll, plain_key k, plain_keys ks]; rfl
end
mutual
theorem depth_key : ∀ k : NestedKey, k.data.depth = k.depth
  | .none => rfl
  | .num _ => rfl
  | .text _ => rfl
  | .tup ks => by rw [NestedKey.data, PyData.depth, NestedKey.depth, depth_keys ks]
theorem depth_keys : ∀ ks : List NestedKey, PyData.depthAll (NestedKey.datas ks) = NestedKey.depthAll ks
  | [] => rfl
  | k :: ks => by rw [NestedKey.datas, PyData.depthAll, NestedKey.depthAll, depth_key k, depth_keys ks]
end
theorem any_key (k : NestedKey) (ks : List NestedKey) : ((NestedKey.datas ks).any fun y => PyData.eqv y k.data) = decide (k ∈ ks) := by
  induction ks with
  | nil => rfl
  | cons a ks ih =>
    rw [NestedKey.datas, List.any_cons, ih, eqv_dec, Bool.eq_iff_iff]
    simp only [Bool.or_eq_true, decide_eq_true_eq, List.mem_cons]
    exact ⟨fun h => h.imp Eq.symm id, fun h => h.imp Eq.symm id⟩
section
variable {X : Cx} {c : Ct} {σ : Sl} {m : Mem} {kk : Nat} {K : R → Mem → Prop} {a b k : NestedKey} {ks : List NestedKey} {r1 r2 : R}
theorem o_eqN (L : Live X c kk) (ha : a.depth ≤ 60) (hb : b.depth ≤ 60) (z : K (rB (decide (a = b))) m) : OP X c σ m (compareOp .Eq) (rN a) (rN b) K :=
  o_eqD L (pv_nD m a) (pv_nD m b) ⟨plain_key a, by rw [depth_key]; exact ha⟩ ⟨plain_key b, by rw [depth_key]; exact hb⟩ (by rw [eqv_dec]; exact z)
theorem o_neN (L : Live X c kk) (ha : a.depth ≤ 60) (hb : b.depth ≤ 60) (z : K (rB (!decide (a = b))) m) : OP X c σ m (compareOp .NotEq) (rN a) (rN b) K :=
  o_neD L (pv_nD m a) (pv_nD m b) ⟨plain_key a, by rw [depth_key]; exact ha⟩ ⟨plain_key b, by rw [depth_key]; exact hb⟩ (by rw [eqv_dec]; exact z)
/-- k in (..) -/
theorem o_inT (L : Live X c kk) (hd : k.depth ≤ 60) (z : K (rB (decide (k ∈ ks))) m) : OP X c σ m (compareOp .In) (rN k) (.dat (.tup (nDs ks))) K := fun pins s τ H G v1 v2 u1 u2 Q I E q1 q2 rx ry q => by
  obtain ⟨as, a1⟩ := Dp.reads I k.data v1 u1 ((pv_nD m k).dp E q1) rx
  obtain ⟨bs, a2⟩ := Dp.reads I (.tuple (NestedKey.datas ks)) v2 u2 (PV.dp E (PV.tup (pvs_nD m ks)) q2) ry
  refine SeqAt.in_tuple_data a2 a1 (plain_keys ks) (plain_key k) (by have := L.room.units; have := depth_key k; have := Nat.min_le_right (PyData.depthAll (NestedKey.datas ks)) k.data.depth; omega) ⟨.bl _, H, I, rfl, ?_⟩
  rw [any_key]
  exact q.now z E (.dat .bl)
theorem o_ninT (L : Live X c kk) (hd : k.depth ≤ 60) (z : K (rB (!decide (k ∈ ks))) m) : OP X c σ m (compareOp .NotIn) (rN k) (.dat (.tup (nDs ks))) K := fun pins s τ H G v1 v2 u1 u2 Q I E q1 q2 rx ry q => by
  obtain ⟨as, a1⟩ := Dp.reads I k.data v1 u1 ((pv_nD m k).dp E q1) rx
  obtain ⟨bs, a2⟩ := Dp.reads I (.tuple (NestedKey.datas ks)) v2 u2 (PV.dp E (PV.tup (pvs_nD m ks)) q2) ry
  refine SeqAt.notIn_tuple_data a2 a1 (plain_keys ks) (plain_key k) (by have := L.room.units; have := depth_key k; have := Nat.min_le_right (PyData.depthAll (NestedKey.datas ks)) k.data.depth; omega) ⟨.bl _, H, I, rfl, ?_⟩
  rw [any_key]
  exact q.now z E (.dat .bl)
/-- k in [..] -/
theorem o_ninL (L : Live X c kk) (hd : k.depth ≤ 60) (hv : VL m r2 ((nDs ks).map .dat)) (z : K (rB (!decide (k ∈ ks))) m) : OP X c σ m (compareOp .NotIn) (rN k) r2 K := fun pins s τ H G v1 v2 u1 u2 Q I E q1 q2 rx ry q => by
  obtain ⟨as, a1⟩ := Dp.reads I k.data v1 u1 ((pv_nD m k).dp E q1) rx
  obtain ⟨bs, a2⟩ := Dp.reads I (.list (NestedKey.datas ks)) v2 u2 (PV.dp E (PV.lst hv (pvs_nD m ks)) q2) ry
  refine SeqAt.notIn_list_data a2 a1 (plain_keys ks) (plain_key k) (by have := L.room.units; have := depth_key k; have := Nat.min_le_right (PyData.depthAll (NestedKey.datas ks)) k.data.depth; omega) ⟨.bl _, H, I, rfl, ?_⟩
  rw [any_key]
  exact q.now z E (.dat .bl)
/-! ### s.strip(chars) -/
theorem d_stripC {o e : Expr} {pos apos : Pos} (h : DE X c σ m o (fun ro m1 => ∃ s, ro = rS s ∧ s.length ≤ 1000000 ∧ DE X c σ m1 e (fun r m2 => ∃ t, r = rS t ∧ K (rS (lit (Txt.stripChars (sOf s) (sOf t)))) m2)))
    (hbase : attributeBase o "strip" X.env (eval o X.env) = eval o X.env := by rfl)
    (hfew : ((backTo pos (starEach [e] X.env)).all (fun x => !x.1) && (backToKw pos (keywordEach [] X.env)).all (fun x => x.1.isSome) && decide ([e].length + ([] : List Keyword).length + (if ([] : List Keyword).isEmpty then 0 else 1) < 30)) = true := by rfl)
    (hline : (apos.endLine == pos.line) = true := by rfl) (hst : starEach [e] X.env = (false, eval e X.env) :: starEach [] X.env := by rfl) : DE X c σ m (.Call (.Attribute o "strip" apos) [e] [] pos) K :=
  de_bm PySem.F.plainAttrs_str PySem.F.slot_str_strip PySem.F.type_str_strip mt_stripChars (h.imp fun ro m1 ⟨s, er, hl, d⟩ => by
    subst er
    refine ⟨.str, da_cons (d.imp fun r m2 ⟨t, e1, kk⟩ => da_nil ?_) hst⟩
    intro τ H G v vs Q E ro rv q
    subst e1
    cases str_of ro
    obtain ⟨u1, rfl, r1⟩ := one_of rv
    cases str_of r1
    refine ⟨_, _, rfl, rfl, by rw [sOf_len]; exact Nat.le_trans hl (by decide), ?_⟩
    have z := q.now (v := .str (Txt.stripChars (sOf s) (sOf t))) kk E (by have := (Rep.str (K := X.K) (G := G) (s := lit (Txt.stripChars (sOf s) (sOf t)))); rw [sOf_lit] at this; exact .dat this)
    exact z) hbase hfew hline hst
end
end D2
/-! ## D2Fz -/
/-! a dict that is only read from here on: frozen, walked, read -/
namespace D2
open PySem PySem.Spec PyProof.Rows L2
section
variable {X : Cx} {c : Ct} {σ : Sl} {m m' : Mem} {k : Nat} {K : R → Mem → Prop} {x : Str} {a : Addr} {xs : List (Key × D)} {f : R → Sl} {en : En} {sts : List Stmt}
theorem relK_repk {Kf : PySem.W.Frag} {G : Hp} : ∀ {xs : List (Key × D)} {vs : List (Key × V)}, RelK Kf G (xs.map fun p => (p.1, R.dat p.2)) vs → Repk Kf G xs vs
  | [], _, h => by cases h; exact .nil
  | (k, d) :: xs, _, h => by
    cases h with | cons h t =>
    cases h with | dat h => exact .cons h (relK_repk t)
/-- x's dict is read only from here on -/
theorem dss_frzK (hx : Lk σ x (.own a)) (hp : PutF σ x f) (hh : Has m a (.dk (xs.map fun p => (p.1, R.dat p.2))) m') (h : DSs X c (f (.dat (.dk xs))) m' sts en) : DSs X c σ m sts en := fun F pins s τ H G D I E fx ft => by
  obtain ⟨i, v, h1, h2, h3, hv⟩ := E.get hx
  obtain ⟨ga, ho, hho, ro⟩ := E.mem _ hh.mem
  cases ro with | @dk _ vs ro =>
  obtain ⟨od, I1⟩ := I.lock hho True.intro
  obtain ⟨m2, hc2, hr2⟩ := hh.chg (.any (.frz od (.dK vs)))
  obtain ⟨u, hu, _, _, E3⟩ := (E.chg hc2 (RelO.any (o := .frz od (.dK vs)))).frz hr2
  rw [upd_same] at hu
  cases hu
  have x1 : Ex G (L2.upd G a (.frz od (.dK vs))) := Ex.new ga
  have rep : Rep X.K (L2.upd G a (.frz od (.dK vs))) (.dk xs) (.ref a) := .dk upd_same ((relK_repk ro).mono x1)
  cases h3
  obtain ⟨j, hj, E4⟩ := E3.put (hp.put (.dat (.dk xs))) hv (.dat rep)
  have ij : i = j := nodup_ix E.nm.nd h1 hj
  subst ij
  have et : τ.set i (some (.ref a)) = τ := by
    refine List.ext_getElem? fun n => ?_
    by_cases e : i = n
    · subst e
      have hl : i < τ.length := by
        by_cases q : i < τ.length
        · exact q
        · rw [List.getElem?_eq_none (by omega)] at h2; cases h2
      rw [List.getElem?_set_self hl, h2]
    · rw [List.getElem?_set_ne e]
  rw [et] at E4
  exact h F pins s τ _ _ D I1 E4 (fx.trans x1) ft
def valD (xs : List (Key × D)) (k : Key) : Option D := (xs.find? fun p => decide (p.1 = k)).map (·.2)
theorem repk_val {Kf : PySem.W.Frag} {G : Hp} : ∀ {xs : List (Key × D)} {vs : List (Key × V)}, Repk Kf G xs vs → ∀ (k : Key), (∀ d, valD xs k = some d → ∃ v, valV vs k = some v ∧ Rep Kf G d v) ∧ (valD xs k = none → valV vs k = none)
  | [], _, .nil, k => ⟨(fun d e => by cases e), fun _ => rfl⟩
  | (k', d') :: xs, _, .cons h t, k => by
    have ih := repk_val t k
    unfold valD valV at ih ⊢
    rw [List.find?_cons, List.find?_cons]
    by_cases e : k' = k
    · rw [decide_eq_true e]
      exact ⟨(fun d q => by cases q; exact ⟨_, rfl, h⟩), fun q => by cases q⟩
    · rw [decide_eq_false e]
      exact ih
/-- d[k], d read only -/
theorem x_fk {ea eb : Expr} {rk : R} {kk : Key} {d : D} (L : Live X c k) (hk : IsKey rk kk) (hv : valD xs kk = some d) (z : K (.dat d) m) : IX X c σ m ea eb (.dat (.dk xs)) rk K := fun pins s τ H G v1 v2 u1 u2 Q I E q1 q2 p1 p2 q hs => by
  cases q1 with | dat q1 =>
  cases q1 with | @dk a _ vs o hg rr =>
  obtain rfl : u1 = Value.ref a := p1
  obtain ⟨v, e1, rv⟩ := (repk_val rr kk).1 d hv
  rw [hk.v q2] at p2
  have g : DGet H a (kV kk) (some v) := by rw [← e1]; exact .inl ⟨vs, kk, .inr ⟨o, E.sub _ _ hg⟩, rfl, rfl⟩
  refine tail_D (dict_typeIs I g) PySem.F.slot_dict_getitem.lookup hs (d_getItem (by have := L.room.units; omega) I g p2 fun w' s' I' rw' => ?_)
  exact ⟨v, H, I', rw', q.now z E (.dat rv)⟩
/-! ### walks -/
theorem repk_at {Kf : PySem.W.Frag} {G : Hp} : ∀ {xs : List (Key × D)} {vs : List (Key × V)}, Repk Kf G xs vs → xs.length = vs.length ∧ ∀ (i : Nat) (p : Key × D), xs[i]? = some p → ∃ v, vs[i]? = some (p.1, v) ∧ Rep Kf G p.2 v
  | [], _, .nil => ⟨rfl, fun i p e => by cases e⟩
  | (k', d') :: xs, _, .cons h t => by
    obtain ⟨l, ih⟩ := repk_at t
    refine ⟨by simp [l], fun i p e => ?_⟩
    cases i with
    | zero => cases e; exact ⟨_, rfl, h⟩
    | succ i => exact ih i p e
variable {tg iter : Expr} {Ki : List D → Mem → Prop}
/-- for k in d -/
theorem it_fk (h : DE X c σ m iter (fun r m1 => ∃ xs, r = .dat (.dk xs) ∧ Ki (xs.map fun p => kD p.1) m1)) : DIt X c σ m tg iter Ki := by
  refine ⟨_, pi_keys (pe_t (c := c)), fun τ H G R' E q => ⟨σ, m, G, _, E, h, fun r m1 G1 H1 v ⟨xs, er, z⟩ x1 E1 rv => ?_⟩⟩
  subst er
  cases rv with | dat rv =>
  cases rv with | @dk a _ vs o hg rr =>
  obtain ⟨hl, hat⟩ := repk_at rr
  refine ⟨a, o, rfl, .inl ⟨vs, E1.sub _ _ hg, q _ m1 G1 H1 _ z x1 E1 fun i H2 ex => ⟨fun d hd => ?_, fun hle => ⟨ex _ _ hg, by rw [List.length_map] at hle; omega⟩⟩⟩⟩
  rw [List.getElem?_map] at hd
  cases hp : xs[i]? with
  | none => rw [hp] at hd; cases hd
  | some p =>
    rw [hp] at hd
    cases hd
    obtain ⟨v, hv, rv⟩ := hat i p hp
    refine ⟨⟨ex _ _ hg, (List.getElem?_eq_some_iff.mp hv).1⟩, fun x H' ⟨e, k, v', ev, ex'⟩ => .inl ⟨e, ?_⟩⟩
    rw [hv] at ev
    cases ev
    rw [ex']
    exact kD_rep _
/-- for k, v in d.items() -/
theorem it_items {o : Expr} {apos cpos tpos : Pos} {elts : List Expr} {kk : Nat} (h : DE X c σ m o (fun r m1 => ∃ xs, r = .dat (.dk xs) ∧ Ki (xs.map fun p => .tup [kD p.1, p.2]) m1))
    (hbase : attributeBase o "items" X.env (eval o X.env) = eval o X.env := by rfl) (hline : (apos.endLine == cpos.line) = true := by rfl) : DIt X c σ m (.Tuple elts kk tpos) (.Call (.Attribute o "items" apos) [] [] cpos) Ki := by
  refine ⟨_, pi_items (pe_t (c := c)) hbase hline, fun τ H G R' E q => ⟨σ, m, G, _, E, h, fun r m1 G1 H1 v ⟨xs, er, z⟩ x1 E1 rv => ?_⟩⟩
  subst er
  cases rv with | dat rv =>
  cases rv with | @dk a _ vs o hg rr =>
  obtain ⟨hl, hat⟩ := repk_at rr
  refine ⟨a, o, vs, rfl, E1.sub _ _ hg, q _ m1 G1 H1 _ z x1 E1 fun i H2 ex => ⟨fun d hd => ?_, fun hle => ⟨ex _ _ hg, by rw [List.length_map] at hle; omega⟩⟩⟩
  rw [List.getElem?_map] at hd
  cases hp : xs[i]? with
  | none => rw [hp] at hd; cases hd
  | some p =>
    rw [hp] at hd
    cases hd
    obtain ⟨v, hv, rv⟩ := hat i p hp
    refine ⟨⟨ex _ _ hg, (List.getElem?_eq_some_iff.mp hv).1⟩, fun x H' ⟨T, k, v', ev, ex', hT, eH⟩ => .inr ⟨T, _, hT, eH, ?_⟩⟩
    rw [hv] at ev
    cases ev
    rw [ex']
    have gT : G1 T = none := by
      cases q : G1 T with
      | none => rfl
      | some o => rw [ex _ _ q] at hT; cases hT
    exact .tup (.inl (.inl upd_same)) (.cons (kD_rep _) (.cons (rv.mono (Ex.new gT)) .nil))
end
end D2
/-! ## D2T -/
/-! texts repeated; tuples joined, made of lists -/
namespace D2
open PySem PySem.Spec PyProof.Rows L2
theorem Reps.app {Kf : PySem.W.Frag} {G : Hp} : ∀ {ds es : List D} {vs us : List V}, Reps Kf G ds vs → Reps Kf G es us → Reps Kf G (ds ++ es) (vs ++ us)
  | _, _, _, _, .nil, h => h
  | _, _, _, _, .cons a t, h => .cons a (Reps.app t h)
section
variable {X : Cx} {c : Ct} {σ : Sl} {m : Mem} {kk : Nat} {K : R → Mem → Prop} {s : List Nat} {n : Int}
theorem rep_arr (a : Array Nat) : ∀ (k : Nat) (acc : Array Nat), ((List.replicate k a).foldl (· ++ ·) acc).toList = acc.toList ++ (List.replicate k a.toList).flatten
  | 0, acc => by simp
  | k + 1, acc => by
    rw [List.replicate_succ, List.foldl_cons, rep_arr a k, List.replicate_succ, List.flatten_cons, Array.toList_append, List.append_assoc]
/-- s * n -/
theorem o_mulStr (h0 : 0 ≤ n) (h1 : n ≤ 1000000) (h2 : s.length * n.toNat ≤ 1000000) (hs : s.length ≤ 1000000) (z : K (rS (List.replicate n.toNat s).flatten) m) : OP X c σ m (binaryOp .Mult) (rS s) (rI n) K := fun pins st τ H G v1 v2 u1 u2 Q I E q1 q2 p1 p2 q => by
  cases str_of q1
  cases int_of q2
  obtain ⟨t, rfl⟩ := p1
  obtain ⟨u, rfl⟩ := p2
  have hlen : (sOf s).length = s.length := by simp [sOf, Str.length]
  have hQ : Q (.str (sOf (List.replicate n.toNat s).flatten)) H := q.now z E (.dat .str)
  refine P.mul_str ?_ (fun _ _ => ?_) (fun _ _ => ?_) ?_
  · rw [decide_eq_false (by omega), decide_eq_false (by omega)]; rfl
  · rename_i hn _
    have hn' : 0 < n := by omega
    have hm : (s.length : Int) * n ≤ 1000000 := by
      have e : n = ((n.toNat : Nat) : Int) := by omega
      rw [e, ← Int.natCast_mul]
      exact Int.ofNat_le.mpr h2
    have := (Int.le_ediv_iff_mul_le hn' (a := (s.length : Int)) (b := 2 ^ 63 - 1)).mpr (by omega)
    rw [hlen]
    omega
  · unfold Builtin.Str.tooLong
    rw [hlen, sizeLine_eq]
    exact decide_eq_false (by omega)
  · have key : ∀ x : Str, x = sOf (List.replicate n.toNat s).flatten → ∀ t : Nat, EP X pins τ Q (.str x t) { st with toks := st.toks + 1 } := fun x e t => ⟨.str (sOf (List.replicate n.toNat s).flatten), H, I.tok _, by rw [← e]; exact ⟨t, rfl⟩, hQ⟩
    have flen : (List.replicate n.toNat s).flatten.length = n.toNat * s.length := by simp
    split
    · rename_i hn
      have : n.toNat = 0 := by omega
      exact ⟨by decide, key _ (by rw [this]; rfl) _⟩
    · rename_i hn
      split
      · rename_i he
        have e : (List.replicate n.toNat s).flatten = s := by
          rw [Bool.or_eq_true, beq_iff_eq, beq_iff_eq, hlen] at he
          rcases he with he | he
          · rw [he]; simp
          · rw [List.length_eq_zero_iff.mp he]; simp
        refine ⟨.str (sOf (List.replicate n.toNat s).flatten), H, I, ?_, hQ⟩
        rw [e]
        exact ⟨t, rfl⟩
      · have e : (⟨(List.replicate n.toNat (sOf s).cps).foldl (· ++ ·) #[]⟩ : Str) = sOf (List.replicate n.toNat s).flatten := by
          refine congrArg Str.mk ?_
          refine Array.ext' ?_
          rw [rep_arr]
          simp
        refine ⟨?_, key _ e _⟩
        rw [e, show (sOf (List.replicate n.toNat s).flatten).length = (List.replicate n.toNat s).flatten.length by simp [Str.length], flen, sizeLine_eq, Nat.mul_comm]
        omega
/-! ### tuples -/
theorem cat_tup0 {prog : Program} {w : World} {A : Around} {E : Value → Shared → Prop} {st : Shared} {t b : Addr} {ws : Array Value} {Q : Value → Shared → Prop} (ht : IsTup st.heap t #[]) (hb : IsTup st.heap b ws) (h : Q (.ref b) st) : wpAny (model prog w) A (binaryOp .Add (.ref t) (.ref b)) Q E st := by
  obtain ⟨⟨cls, dd, data, sl⟩, ho, hc, n, hd⟩ := id ht
  obtain ⟨⟨cls2, dd2, data2, sl2⟩, ho2, hc2, n2, hd2⟩ := id hb
  simp only at hc hd hc2 hd2
  subst hc hd hc2 hd2
  exact concat_meets ⟨_, ho, rfl⟩ ⟨_, ho2, rfl⟩ noFill_tuple_add seq_tuple_add PySem.F.slot_tuple_add PySem.F.entry_tuple_add (PySem.F.args_tuple_add_2 _ _) (tuple_addW0 t b #[] ws n n2 dd dd2 sl sl2 rfl) ⟨ho, ho2, h⟩
/-- t + u -/
theorem o_catT {ds es : List D} (hl : ds.length + es.length ≤ 1000000) (z : K (.dat (.tup (ds ++ es))) m) : OP X c σ m (binaryOp .Add) (.dat (.tup ds)) (.dat (.tup es)) K := fun pins st τ H G v1 v2 u1 u2 Q I E q1 q2 p1 p2 q => by
  cases q1 with | dat q1 =>
  cases q2 with | dat q2 =>
  cases q1 with | @tup a xs vs hs rr =>
  cases q2 with | @tup b ys us hs2 rr2 =>
  have l1 := rr.length
  have l2 := rr2.length
  by_cases hd : ds = []
  · subst hd
    cases rr
    obtain rfl : u1 = Value.ref a := p1
    obtain rfl : u2 = Value.ref b := p2
    obtain ⟨its, r1, t1, _⟩ := I.tuple (ex_t E.sub hs)
    obtain ⟨its2, r2, t2, _⟩ := I.tuple (ex_t E.sub hs2)
    cases r1
    exact cat_tup0 t1 t2 ⟨.ref b, H, I, rfl, q.now z E (.dat (.tup hs2 rr2))⟩
  · refine op_catT pins st τ H _ _ u1 u2 Q I p1 p2 ⟨a, b, vs, us, rfl, rfl, ex_t E.sub hs, ex_t E.sub hs2, fun e => ?_, by rw [sizeLine_eq]; omega, fun e => ?_, fun e p hp => ?_⟩
    · rw [e] at l1; exact hd (List.length_eq_zero_iff.mp l1)
    · have : es = [] := List.length_eq_zero_iff.mp (by rw [l2, e]; rfl)
      rw [this, List.append_nil] at z
      exact q.now z E (.dat (.tup hs rr))
    · have gp : G p = none := E.sub.back hp
      have x1 : Ex G (L2.upd G p (.tup (vs ++ us))) := Ex.new gp
      exact q _ m _ _ _ z x1 (E.newG hp) (.dat (.tup (.inl (.inl upd_same)) ((rr.app rr2).mono x1)))
/-- tuple(xs), xs a list of data -/
theorem d_tupleL {e : Expr} {p pos : Pos} (hg : Gl X "tuple") (hm : X.mg "tuple" = none) (h : DE X c σ m e (fun r m1 => ∃ ds : List D, VL m1 r (ds.map .dat) ∧ K (.dat (.tup ds)) m1)) (hst : starEach [e] X.env = (false, eval e X.env) :: starEach [] X.env := by rfl) : DE X c σ m (.Call (.Name "tuple" p) [e] [] pos) K := by
  refine de_callT call_tuple_of hg hm (by decide +kernel) (da_cons (h.imp fun r m1 ⟨ds, hv, z⟩ => da_nil ?_) hst) (he := hst)
  intro τ H G vs Q E rv q
  obtain ⟨v, rfl, r1⟩ := one_of rv
  obtain ⟨a, us, rfl, hs, rr⟩ := hv.at E r1
  refine ⟨a, us, rfl, .inl ⟨hs, fun p hp => ?_⟩⟩
  have gp : G p = none := E.sub.back hp
  have x1 : Ex G (L2.upd G p (.tup us)) := Ex.new gp
  exact q _ m1 _ _ _ z x1 (E.newG hp) (.dat (.tup (.inl (.inl upd_same)) (rr.reps.mono x1)))
end
end D2
/-! ## D2V -/
/-! d.values(), list of it; max with a default; sorted of a tuple -/
namespace D2
open PySem PySem.Spec PyProof.Rows L2
section
variable {X : Cx} {c : Ct} {σ : Sl} {m : Mem} {k : Nat} {K : R → Mem → Prop} {o e : Expr} {apos cpos p pos : Pos}
/-- d.values() -/
theorem d_values (h : DE X c σ m o (fun r m1 => ∃ xs, r = .dat (.dk xs) ∧ ∀ v a, K (.own v) ((v, .vw v a xs) :: m1)))
    (hbase : attributeBase o "values" X.env (eval o X.env) = eval o X.env := by rfl) (hline : (apos.endLine == cpos.line) = true := by rfl) : DE X c σ m (.Call (.Attribute o "values" apos) [] [] cpos) K := fun pins s τ H G Q I E q => by
  have d := h pins s τ H G (fun v H1 => ∃ xs m1 G1, Ex G G1 ∧ (∀ w a, K (.own w) ((w, .vw w a xs) :: m1)) ∧ EnvOk X c σ m1 G1 τ H1 ∧ RelR X.K G1 (.dat (.dk xs)) v) I E fun r m1 G1 H1 v ⟨xs, er, z⟩ x1 E1 rv => by subst er; exact ⟨xs, m1, G1, x1, z, E1, rv⟩
  refine wpAny_Call_method (T := "dict") (id := "dict.values") hbase rfl hline F.plainAttrs_dict F.slot_dict_values F.type_dict_values (thn d fun u s1 ⟨v, H1, I1, ru, xs, m1, G1, x1, z, E1, rv⟩ => ?_)
  cases rv with | dat rv =>
  cases rv with | @dk a _ vs ob hg rr =>
  obtain rfl : u = Value.ref a := ru
  obtain ⟨hs, hgd, hx, es, ep, us, hdt, hsz, kv, hm⟩ := I1.frzK (E1.sub _ _ hg)
  refine ⟨hm.dictOf.typeIs, hm.dictOf.mapOf.noDict, ?_⟩
  have hn : H1 s1.heap.objs.size = none := I1.hok.fresh (Nat.le_refl _)
  have I2 : Inv X pins τ (L2.upd H1 s1.heap.objs.size (vwO s1.heap.objs.size a)) { s1 with heap := s1.heap.push { cls := .type "dict_values", data := .fields #[.ref a] } } :=
    I1.laid (t' := s1.toks) (fun b ob q => Heap.get?_push_of_some _ q) (Nat.le_refl _) ⟨⟨_, Heap.get?_push_size _ rfl⟩, ⟨_, Heap.get?_push_size _ rfl⟩, fun h1 h2 ⟨sl, e⟩ kp => ⟨sl, kp _ e⟩⟩
  have fin : EP X pins τ Q (.ref s1.heap.objs.size) { s1 with heap := s1.heap.push { cls := .type "dict_values", data := .fields #[.ref a] } } :=
    ⟨.ref s1.heap.objs.size, _, I2, rfl, q _ _ G1 _ _ (z _ a) x1 (E1.new hn (.vw (.dk hg rr))) .own⟩
  show wpAny _ _ (callWith cpos (.builtin "dict.values") [.ref a] [] []) _ X.xe s1
  exact method_meetsIn F.slot_dict_values F.entry_dict_values rfl (PySem.evalArgs_none ⟨rfl, hm.dictOf.typeIs, F.args_dict_values_1 _, _, meets_dict_values (mixKind X.prog X.w) a hs, ⟨us, hm.dictOf⟩, fin⟩)
theorem kv_vals {kvs : List (Key × V)} {us : List (Key × Value)} (h : KV kvs us) : ∀ {acc : List Value}, acc.length = us.length → (∀ (j : Nat) (v : Value), acc[j]? = some v → ∃ k : Key, us[j]? = some (k, v)) → Vals (kvs.map (·.2)) acc := by
  induction h with
  | nil => intro acc hl _; rw [List.length_eq_zero_iff.mp hl]; exact .nil
  | @cons p q kvs us h1 _ ih =>
    intro acc hl ha
    cases acc with
    | nil => simp at hl
    | cons u acc =>
      obtain ⟨k, e⟩ := ha 0 u rfl
      simp at e
      subst e
      exact .cons h1.2 (ih (by simpa using hl) fun j v ej => ha (j + 1) v ej)
/-- list of a dict's values -/
theorem call_listV (hc : X.calm = true) : CallR X (.type "list") (fun xs H Q => ∃ (v a : Addr) (ob : Obj) (kvs : List (Key × V)), xs = [.ref v] ∧ H v = some (vwO v a) ∧ H a = some (.frz ob (.dK kvs)) ∧ ∀ p, H p = none → Q (.ref p) (L2.upd H p (.lst (kvs.map (·.2))))) := by
  intro pins s τ H xs us Q I r ⟨v, a, ob, kvs, ex, hv, ha, q⟩
  subst ex
  obtain ⟨u, eu, rx⟩ := vals1 r
  subst eu
  cases rx
  obtain ⟨hs, hgd, hx, es, ep, ws, hdt, hsz, kv, hm⟩ := I.frzK ha
  obtain ⟨⟨sl, hvo⟩, _, _⟩ := I.hok v _ hv
  have hlen : kvs.length = ws.length := Paired.length kv
  have hz : kvs.length ≤ sizeLine := (I.hok a _ ha).2.1
  refine PySem.W.kdl_call (PySem.W.kdl_values (knd := mixKind X.prog X.w) (kvs := ws) (ep := ep) (r := v) (d := a)) (I.ok.hd hc) ⟨⟨_, hvo, rfl, rfl⟩, hm⟩ (by rw [← hlen]; exact hz) fun h' tk acc c' hk hD hacc => ?_
  have hvals : Vals (kvs.map (·.2)) acc.toList := kv_vals kv (by rw [Array.length_toList]; exact hacc.1) fun j w e => hacc.2 j w (by rw [← Array.getElem?_toList]; exact e)
  exact ⟨.ref s.heap.objs.size, _, I.laid (t' := tk) hk (Nat.le_refl _) (show ObjOk X.prog X.w _ _ _ (.lst (kvs.map (·.2))) from ⟨by rw [List.length_map]; exact hz, acc.toList, c', hvals, by rw [Array.toArray_toList]; exact hD⟩), rfl, q _ (I.hok.fresh (Nat.le_refl _))⟩
theorem repk_snd {Kf : PySem.W.Frag} {G : Hp} : ∀ {xs : List (Key × D)} {vs : List (Key × V)}, Repk Kf G xs vs → Reps Kf G (xs.map (·.2)) (vs.map (·.2))
  | [], _, .nil => .nil
  | _ :: _, _, .cons h t => .cons h (repk_snd t)
theorem d_listV (L : Live X c k) (hg : Gl X "list") (hm : X.mg "list" = none) (h : DE X c σ m e (fun r m1 => ∃ v a xs m2, r = .own v ∧ Has m1 v (.vw v a xs) m2 ∧ ∀ p, K (.own p) ((p, .lst (xs.map fun x => R.dat x.2)) :: m2)))
    (hst : starEach [e] X.env = (false, eval e X.env) :: starEach [] X.env := by rfl) : DE X c σ m (.Call (.Name "list" p) [e] [] pos) K :=
  de_callT (call_listV L.calm) hg hm (by decide +kernel) (da_cons (h.imp fun r m1 ⟨v, a, xs, m2, er, hh, z⟩ => da_nil fun τ H G vs Q E rv q => by
    subst er
    obtain ⟨w, rfl, r1⟩ := one_of rv
    cases r1
    obtain ⟨_, ho, hho, ro⟩ := E.mem _ hh.mem
    cases ro with | vw ro =>
    cases ro with | @dk _ _ us ob hg rr =>
    refine ⟨v, a, ob, us, rfl, hho, E.sub _ _ hg, fun p hp => ?_⟩
    have er : (xs.map fun x => R.dat x.2) = (xs.map (·.2)).map R.dat := by rw [List.map_map]; rfl
    have z2 := z p
    rw [er] at z2
    exact q _ _ G _ _ z2 (Ex.refl G) ((E.rest hh).new hp (.lst (repk_snd rr).rel)) .own) hst) (he := hst)
end
/-! ### max(xs, default=d), xs not empty -/
section
variable {X : Cx} {c : Ct} {σ : Sl} {m : Mem} {k : Nat} {K : R → Mem → Prop} {e e2 : Expr} {p pos kpos : Pos}
theorem dp_ints {Kf : PySem.W.Frag} {H : Hp} : ∀ ns : List Int, DpAll Kf H (ns.map V.int) (ns.map PyData.int)
  | [] => .nil
  | n :: ns => .cons (.int n) (dp_ints ns)
theorem foldl_max (n : Int) : ∀ ns : List Int, (ns.foldl max n) ∈ n :: ns ∧ ∀ y ∈ n :: ns, y ≤ ns.foldl max n
  | [] => ⟨List.mem_cons_self, fun y hy => by rw [List.mem_singleton.mp hy]; exact Int.le_refl _⟩
  | a :: ns => by
    obtain ⟨h1, h2⟩ := foldl_max (max n a) ns
    rw [List.foldl_cons]
    have g := h2 _ List.mem_cons_self
    refine ⟨?_, fun y hy => ?_⟩
    · rcases List.mem_cons.mp h1 with q | q
      · rw [q]
        rcases Int.le_total n a with z | z
        · rw [Int.max_eq_right z]; exact List.mem_cons_of_mem _ List.mem_cons_self
        · rw [Int.max_eq_left z]; exact List.mem_cons_self
      · exact List.mem_cons_of_mem _ (List.mem_cons_of_mem _ q)
    · rcases List.mem_cons.mp hy with q | q
      · subst q; have := Int.le_max_left y a; omega
      · rcases List.mem_cons.mp q with q | q
        · subst q; have := Int.le_max_right n y; omega
        · exact h2 y (List.mem_cons_of_mem _ q)
theorem call_maxDf (hc : X.calm = true) (hu : X.A.units + 64 < cLine) : CallRK X (.builtin "max") [("default" : Str)] (fun xs zs H Q => ∃ (a : Addr) (ns : List Int) (d : V), xs = [.ref a] ∧ zs = [d] ∧ SqL X.K H a (ns.map V.int) ∧ ns ≠ [] ∧ ∀ M, M ∈ ns → (∀ y ∈ ns, y ≤ M) → Q (.int M) H) := by
  intro pins s τ H xs zs us ws Q I r rz ⟨a, ns, d, ex, ez, hS, hne, q⟩
  subst ex ez
  obtain ⟨u, eu, rx⟩ := vals1 r
  subst eu
  cases rx
  obtain ⟨dv, ed, rd⟩ := vals1 rz
  subst ed
  obtain ⟨its, rv, pl, hz⟩ := I.list hS
  obtain ⟨as, rr⟩ := Dp.readsAll I _ _ _ (dp_ints ns) rv
  have hd : PyData.depthAll (ns.map PyData.int) = 0 := PySem.W.depth_ints ns
  refine PySem.W.max_list_default (xs := ns.map PyData.int) (I.ok.hd hc) pl.isList (by simpa using rr) ⟨fun x hx y hy => ?_, fun x hx => ?_⟩ (by rw [hd]; omega) (fun e => absurd (List.map_eq_nil_iff.mp e) hne) fun y ys i v h' tk bs ey hv hr hk => ?_
  · obtain ⟨i, _, rfl⟩ := List.mem_map.mp hx
    obtain ⟨j, _, rfl⟩ := List.mem_map.mp hy
    rfl
  · obtain ⟨i, _, rfl⟩ := List.mem_map.mp hx
    exact fun z => by cases z
  · cases ns with
    | nil => exact absurd rfl hne
    | cons n ns =>
      rw [List.map_cons] at ey
      cases ey
      rw [PySem.W.maxD_ints] at hr
      cases hr with | int M t =>
      obtain ⟨h1, h2⟩ := foldl_max n ns
      exact ⟨.int _, H, I.kept (t' := tk) hk, ⟨_, rfl⟩, q _ h1 h2⟩
theorem de_maxD (L : Live X c k) (hg : Gl X "max") (hm : X.mg "max" = none) (h : DE X c σ m e (fun r m1 => DE X c σ m1 e2 (fun _ m2 => ∃ ns : List Int, VI m2 r ns ∧ ns ≠ [] ∧ ∀ M, M ∈ ns → (∀ y ∈ ns, y ≤ M) → K (rI M) m2)))
    (he : backTo pos (starEach [e] X.env) = (false, eval e X.env) :: backTo pos (starEach [] X.env) := by rfl) (hst : starEach [e] X.env = (false, eval e X.env) :: starEach [] X.env := by rfl) (hpl : (backTo pos (starEach [e] X.env)).any (·.1) = false := by rfl)
    (hall : (backToKw pos (keywordEach [⟨some "default", e2, kpos⟩] X.env)).all (·.1.isSome) = true := by rfl) (hnone : (backToKw pos (keywordEach [⟨some "default", e2, kpos⟩] X.env)).any (·.1.isNone) = false := by rfl) (hks : (backToKw pos (keywordEach [⟨some "default", e2, kpos⟩] X.env)).filterMap (·.1) = ([("default" : Str)] : List Str) := by rfl) :
    DE X c σ m (.Call (.Name "max" p) [e] [⟨some "default", e2, kpos⟩] pos) K := by
  refine de_of (pe_callBK (call_maxDf L.calm (by have := L.room.units; omega)) hg hm (by decide +kernel) (pa_cons (pe_t (c := c)) pa_nil hst) (pk_cons (pe_t (c := c)) pk_nil) (he := he) (hpl := hpl) (hall := hall) (hnone := hnone) (hks := hks)) fun τ H G Q E q => ?_
  refine ⟨σ, m, G, _, E, h, fun r m1 G1 H1 v d x1 E1 rv => ⟨σ, m1, G1, _, E1, d, fun r2 m2 G2 H2 v2 ⟨ns, hv, hne, z⟩ x2 E2 rv2 => ?_⟩⟩
  obtain ⟨a, us, rfl, hs, rr⟩ := VL.at hv E2 (rv.mono x2)
  have eu : us = ns.map V.int := by
    clear hne z hs hv
    induction ns generalizing us with
    | nil => cases rr; rfl
    | cons n ns ih =>
      cases rr with | cons h1 h2 =>
      cases int_of h1
      rw [ih _ h2]; rfl
  subst eu
  exact ⟨a, ns, v2, rfl, rfl, hs, hne, fun M h1 h2 => q _ m2 G2 H2 _ (z M h1 h2) (x1.trans x2) E2 (.dat .int)⟩
end
end D2
/-! ## D2X -/
/-! the truth of a list -/
namespace D2
open PySem PySem.Spec PyProof.Rows L2
section
variable {X : Cx} {c : Ct} {σ : Sl} {m : Mem} {e : Expr} {pos : Pos}
theorem dt_lst {K : Bool → Mem → Prop} (h : DE X c σ m e (fun r m1 => ∃ rs, VL m1 r rs ∧ K (decide (0 < rs.length)) m1)) (he : ∀ whole, isTrue e X.env whole = (do let v ← whole; standAt e.pos; holding [v] (truthy v)) := by intro _; rfl) : DT X c σ m e K :=
  fun wh pins s τ H G Q hw I E k => by
    subst hw
    refine (pt_truth (pe_t (c := c)) he).run pins s τ H Q I ⟨σ, m, G, _, E, h, fun r m1 G1 H1 v ⟨rs, hv, z⟩ x1 E1 rv => ?_⟩
    obtain ⟨a, us, rfl, hs, rr⟩ := VL.at hv E1 rv
    refine ⟨!us.isEmpty, .inl ⟨us, hs, rfl⟩, k _ _ _ _ ?_ x1 E1⟩
    have hl := rr.length
    cases us with
    | nil => cases rr; exact z
    | cons u us => cases rr; exact z
theorem dt_I {K : Bool → Mem → Prop} (h : DE X c σ m e (fun r m1 => ∃ ns : List Int, VI m1 r ns ∧ K (decide (0 < ns.length)) m1)) (he : ∀ whole, isTrue e X.env whole = (do let v ← whole; standAt e.pos; holding [v] (truthy v)) := by intro _; rfl) : DT X c σ m e K :=
  dt_lst (h.imp fun r m1 ⟨ns, hv, z⟩ => ⟨_, hv, by rw [List.length_map]; exact z⟩) he
end
end D2
namespace D2
open PySem PySem.Spec PyProof.Rows L2
/-! ### constants of the module -/
section
variable {X : Cx} {c : Ct} {σ : Sl} {m : Mem} {x : Str} {K : R → Mem → Prop} {px pos : Pos}
def TupG (Kf : PySem.W.Frag) (mg : Str → Option Value) (x : Str) (ss : List (List Nat)) : Prop := ∃ a, mg x = some (.ref a) ∧ ∀ H, SqT Kf H a (ss.map fun s => V.str (sOf s))
def IntG (mg : Str → Option Value) (x : Str) (i : Int) : Prop := ∃ t, mg x = some (.int i t)
theorem reps_S {Kf : PySem.W.Frag} {G : Hp} : ∀ ss : List (List Nat), Reps Kf G (dS ss) (ss.map fun s => V.str (sOf s))
  | [] => .nil
  | _ :: ss => .cons .str (reps_S ss)
theorem de_tupG {ss : List (List Nat)} (hg : Gl X x) (hm : TupG X.K X.mg x ss) (kk : K (.dat (.tup (dS ss))) m) (hd : (x == ("__debug__" : Str)) = false := by decide) : DE X c σ m (.Name x px) K := by
  obtain ⟨a, ha, hs⟩ := hm
  exact de_of (pe_glob (v := .ref a) hg ha rfl hd) fun τ H G Q E q => q.now kk E (.dat (.tup (hs G) (reps_S ss)))
theorem o_ninS {k : Nat} {s : List Nat} {ss : List (List Nat)} (L : Live X c k) (z : K (rB (!decide (s ∈ ss))) m) : OP X c σ m (compareOp .NotIn) (rS s) (.dat (.tup (dS ss))) K := by
  have h : OP X c σ m (compareOp .NotIn) (rN (.text (sOf s))) (.dat (.tup (nDs (ss.map fun t => NestedKey.text (sOf t))))) K := o_ninT L (by rw [NestedKey.depth]; omega) (by
    have e : decide (NestedKey.text (sOf s) ∈ ss.map fun t => NestedKey.text (sOf t)) = decide (s ∈ ss) := by
      rw [Bool.eq_iff_iff, decide_eq_true_eq, decide_eq_true_eq, List.mem_map]
      constructor
      · rintro ⟨t, ht, e⟩
        have e2 : sOf t = sOf s := NestedKey.text.inj e
        have e3 : t = s := by rw [← lit_sOf t, e2, lit_sOf]
        rw [← e3]; exact ht
      · exact fun h => ⟨s, h, rfl⟩
    rw [e]; exact z)
  rw [nDs_map, List.map_map] at h
  exact h
/-- {} -/
theorem d_new0 (h : ∀ p, K (.own p) ((p, .dk []) :: m)) : DE X c σ m (.Dict [] [] pos) K :=
  de_of pe_dnewK fun τ H G Q E q p hp => q _ _ G _ _ (h p) (Ex.refl G) (E.new hp (.dk .nil)) .own
end
/-! ### str.strip(of signs) -/
theorem tw_all {g : Nat → Bool} : ∀ l : List Nat, (l.takeWhile g).length = l.length ↔ ∀ c ∈ l, g c = true
  | [] => by simp
  | c :: l => by
    by_cases h : g c = true
    · simp [h, tw_all l]
    · simp [h]
theorem tw_head {g : Nat → Bool} : ∀ l : List Nat, (∀ c ∈ l.drop (l.takeWhile g).length, g c = true) → ∀ c ∈ l, g c = true
  | [], _ => by simp
  | c :: l, h => by
    by_cases hc : g c = true
    · have h2 : ∀ d ∈ l.drop (l.takeWhile g).length, g d = true := by simpa [hc] using h
      intro d hd
      rcases List.mem_cons.mp hd with rfl | hd
      · exact hc
      · exact tw_head l h2 d hd
    · have h2 := h c (by simp [hc])
      exact absurd h2 hc
theorem strip_nil (s t : List Nat) : lit (Txt.stripChars (sOf s) (sOf t)) = [] ↔ ∀ c ∈ s, c ∈ t := by
  have e : Txt.stripChars (sOf s) (sOf t) = PySem.Builtin.Str.strSub (sOf s) (stripLo (sOf t).cps.contains true (sOf s)) (stripHi (sOf t).cps.contains true (sOf s) (stripLo (sOf t).cps.contains true (sOf s))) := stripBy_eq _ _ _ _
  have hg : ∀ c : Nat, (sOf t).cps.contains c = true ↔ c ∈ t := fun c => by simp [sOf]
  generalize (sOf t).cps.contains = g at e hg
  have e1 : stripLo g true (sOf s) = (s.takeWhile g).length := rfl
  rw [e1] at e
  have e2 : stripHi g true (sOf s) (s.takeWhile g).length = s.length - ((s.drop (s.takeWhile g).length).reverse.takeWhile g).length := by
    unfold stripHi
    rw [if_pos rfl]
    show (sOf s).length - _ = _
    rw [sOf_len]
  rw [e2] at e
  have e3 : lit (PySem.Builtin.Str.strSub (sOf s) (s.takeWhile g).length (s.length - ((s.drop (s.takeWhile g).length).reverse.takeWhile g).length)) = (s.take (s.length - ((s.drop (s.takeWhile g).length).reverse.takeWhile g).length)).drop (s.takeWhile g).length := by
    simp [PySem.Builtin.Str.strSub, lit, sOf]
    rw [List.drop_take]
  rw [e, e3, ← List.length_eq_zero_iff]
  have hl : (s.takeWhile g).length ≤ s.length := (List.takeWhile_sublist g).length_le
  have h2 := tw_all (g := g) (s.drop (s.takeWhile g).length).reverse
  have h3 : ((s.drop (s.takeWhile g).length).reverse.takeWhile g).length ≤ (s.drop (s.takeWhile g).length).reverse.length := (List.takeWhile_sublist g).length_le
  simp only [List.length_drop, List.length_take, List.length_reverse] at h2 h3 ⊢
  constructor
  · intro h
    have h4 := h2.mp (by omega)
    have h5 := tw_head s fun c hc => h4 c (List.mem_reverse.mpr hc)
    exact fun c hc => (hg c).mp (h5 c hc)
  · intro h
    have h6 := (tw_all (g := g) s).mpr fun c hc => (hg c).mpr (h c hc)
    omega
end D2
/-! ## D2Con -/
/-! constants of the module: texts, whole numbers -/
namespace D2
open PySem PySem.Spec PyProof.Rows L2
def StrG (mg : Str → Option Value) (x : Str) (s : List Nat) : Prop := ∃ t, mg x = some (.str (sOf s) t)
theorem strG_of {mg : Str → Option Value} {x z : Str} {s : List Nat} (h : ∃ t, mg x = some (.str z t)) (e : z = sOf s := by decide +kernel) : StrG mg x s := by
  subst e; exact h
section
variable {X : Cx} {c : Ct} {σ : Sl} {m : Mem} {x : Str} {K : R → Mem → Prop} {px : Pos}
theorem de_strG {s : List Nat} (hg : Gl X x) (hm : StrG X.mg x s) (kk : K (rS s) m) (hd : (x == ("__debug__" : Str)) = false := by decide) : DE X c σ m (.Name x px) K := by
  obtain ⟨t, ha⟩ := hm
  exact de_of (pe_glob (v := .str (sOf s)) hg ha ⟨t, rfl⟩ hd) fun τ H G Q E q => q.now kk E (.dat .str)
theorem de_intG {i : Int} (hg : Gl X x) (hm : IntG X.mg x i) (kk : K (rI i) m) (hd : (x == ("__debug__" : Str)) = false := by decide) : DE X c σ m (.Name x px) K := by
  obtain ⟨t, ha⟩ := hm
  exact de_of (pe_glob (v := .int i) hg ha ⟨t, rfl⟩ hd) fun τ H G Q E q => q.now kk E (.dat .int)
end
end D2
/-! ## D2Enum -/
/-! for i, ch in enumerate(a text) -/
namespace D2
open PySem PySem.Spec PyProof.Rows L2
/-- the signs of x, each in a new pair with its place -/
def Ites (x : Str) : It :=
  ⟨fun i _ => i < x.cps.size, fun i H v H' => ∃ T c, v = .ref T ∧ H T = none ∧ H' = upd H T (.tup [.int (i : Nat), .str ⟨#[c]⟩]) ∧ x.cps[i]? = some c, fun i _ => x.cps.size ≤ i⟩
theorem nextOf_str_end {prog : Program} {w : World} {A : Around} {E : Value → Shared → Prop} {s : Shared} {it : Addr} {x : Str} {t : Tok} {i : Nat} {Q : Value → Shared → Prop} (hh : A.handled = none) (hit : s.heap.IsStrIter it (strIterType x) x t i) (hx : x.cps[i]? = none)
    (hE : ∀ h' e, Heap.ExtBut it s.heap h' → (∃ o, h'.get? e = some o ∧ o.cls = .type "StopIteration") → E (.ref e) { s with heap := h' }) : wpAny (model prog w) A (Builtin.SmallTypes.nextOf (.ref it)) Q E s := by
  cases ha : x.cps.all (· < 128)
  · simp only [strIterType, ha, Bool.false_eq_true, if_false] at hit
    exact wpAny_nextOf_wide_end hh hit hx hE
  · simp only [strIterType, ha, if_true] at hit
    exact wpAny_nextOf_ascii_end hh hit hx hE
theorem next_enumS_end {prog : Program} {w : World} {A : Around} {E : Value → Shared → Prop} {s : Shared} {e it : Addr} {x : Str} {t : Tok} {i : Nat} {j : Int} {old : Value} {Q : Option Value → Shared → Prop} (hh : A.in1.handled = none) (he : IsEnum s.heap e it j old) (hit : s.heap.IsStrIter it (strIterType x) x t i) (hx : x.cps[i]? = none)
    (hQ : ∀ h', Heap.ExtBut it s.heap h' → Q none { s with heap := h' }) : wpAny (model prog w) A (pyNext (.ref e)) Q E s := by
  have hT : s.TypeIs (.ref e) "enumerate" := ⟨_, he, rfl⟩
  unfold pyNext
  refine wpAny_bind (wpAny_attempt (wpAny_callSpecial?_slot (name := Str.ofString "__next__") hT F.slot_enumerate_next
    (wpAny_call_entry F.slot_enumerate_next hT F.entry_enumerate_next ?_ (F.args_enumerate_next_1 _))))
  show wpAny _ _ (field (.ref e) 2 >>= _) _ _ _
  refine wpAny_bind (wpAny_field he rfl (x := .ref it) rfl ?_)
  refine wpAny_bind (nextOf_str_end hh hit hx fun h' x he' hx' => ?_)
  obtain ⟨o, ho, hc⟩ := hx'
  refine wpAny_bind (wpAny_isInstance (T := "StopIteration") (b := true) ⟨o, ho, hc⟩ isSubtype_stop ?_)
  exact wpAny_pure (hQ _ he')
theorem turn_enumS {P : Program} {w : World} {K : PySem.W.Frag} {elts : List Expr} {kk : Nat} {tpos : Pos} (x : Str) (t : Tok) (e it : Addr) :
    Turn P w K (.Tuple elts kk tpos) (Ites x) [e, it] e (fun i h => (∃ old, IsEnum h e it ((i : Nat) : Int) old) ∧ h.IsStrIter it (strIterType x) x t i ∧ e ≠ it) where
  mem := by simp
  obj := fun i h st b hb => by
    obtain ⟨⟨old, he⟩, ⟨o, ho, hc, hd⟩, _⟩ := st
    have e' : b = e ∨ b = it := by simpa using hb
    rcases e' with z | z
    · rw [z]; exact ⟨_, he, fun v q => nomatch q⟩
    · rw [z]; exact ⟨o, ho, fun v q => by rw [hd] at q; cases q⟩
  keep := fun i h h' st k => let ⟨⟨old, he⟩, ⟨o, ho, r⟩, hne⟩ := st; ⟨⟨old, k e (by simp) _ he⟩, ⟨o, k it (by simp) o ho, r⟩, hne⟩
  item := by
    intro X hP hw hK hc i pins s σ H E I hf st hg
    subst hP hw hK
    obtain ⟨⟨old, he⟩, hit, hne⟩ := st
    have hel : e < s.heap.objs.size := Heap.lt_size he
    have hil : it < s.heap.objs.size := by obtain ⟨_, q, _⟩ := hit; exact Heap.lt_size q
    have Dr := Draws.text (prog := X.prog) (w := X.w) (A := X.A.in1) (I.ok.hd hc) it x t
    refine wpAny_pyNext_enum_itemD Dr he hit hg hne (by simpa using hne) fun u h' tk hu ho hit' hT hsz hk => ?_
    obtain ⟨c, tc, hcx, eu⟩ := hu
    refine ⟨_, rfl, wpAny_letOwnedTupleGo_enum (s := { s with heap := h', toks := tk + 1 }) ho fun h'' he' sb => ?_⟩
    have hT2 : h''.get? s.heap.objs.size = some { cls := .type "tuple", data := .seq #[.int i tk, u] } := (sb.2 _ (Nat.ne_of_gt hel)).trans hT
    have new : ObjOk X.prog X.w (upd H s.heap.objs.size (.tup [.int (i : Nat), .str ⟨#[c]⟩])) h'' s.heap.objs.size (.tup [.int (i : Nat), .str ⟨#[c]⟩]) :=
      ⟨by show 2 ≤ sizeLine; decide, [.int i tk, u], .cons ⟨_, rfl⟩ (.cons ⟨tc, eu⟩ .nil), ⟨_, hT2, rfl, _, rfl⟩⟩
    have I1 : Inv X pins σ (upd H s.heap.objs.size (.tup [.int (i : Nat), .str ⟨#[c]⟩])) { s with heap := h'', toks := tk + 1 } :=
      I.turnedNew (ch := [e, it]) (fun b ob hb q => (sb.2 b (fun z => hb (by simp [z]))).trans (hk b ob (fun z => hb (by simp [z])) (fun z => hb (by simp [z])) q)) hf (Nat.le_refl _) new
    refine ⟨.ref s.heap.objs.size, _, I1, rfl, ⟨_, c, rfl, I.hok.fresh (Nat.le_refl _), rfl, hcx⟩, ⟨⟨u, ?_⟩, ?_, hne⟩, fun b hb => ?_⟩
    · have e1 : ((i + 1 : Nat) : Int) = (i : Int) + 1 := by omega
      rw [e1]; exact he'
    · obtain ⟨oi, q1, q2⟩ := hit'
      exact ⟨oi, (sb.2 it (Ne.symm hne)).trans q1, q2⟩
    · have hb' : b < s.heap.objs.size := by
        have e' : b = e ∨ b = it := by simpa using hb
        rcases e' with z | z
        · rw [z]; exact hel
        · rw [z]; exact hil
      rw [upd_ne (Nat.ne_of_lt hb')]
      exact (hf b hb).1
  done := by
    intro X hP hw hK hc i pins s σ H E I hf st hg
    subst hP hw hK
    obtain ⟨⟨old, he⟩, hit, hne⟩ := st
    obtain ⟨f0, f1, f2, f3, f4, f5⟩ := hf it (by simp)
    have hx : x.cps[i]? = none := Array.getElem?_eq_none hg
    have hh : X.A.handled = none := I.ok.hd hc
    have hh1 : X.A.in1.handled = none := hh
    exact next_enumS_end hh1 he hit hx fun h' eb => ⟨rfl, I.turned (t' := s.toks) (fun b o hb q => eb b o hb q) f0 f1 f3 f4 f5⟩
  self := fun A i s Q E st h => let ⟨⟨_, he⟩, _⟩ := st; wpAny_pyIter_enum he h
def iEnumS (ta : TA) : TI := fun σ H R => ta σ H fun vs H1 => ∃ x, vs = [.str x] ∧ R (Ites x) H1
theorem pi_enumS {X : Cx} {e : Expr} {ta : TA} {p pos tpos : Pos} {elts : List Expr} {kk : Nat} (hg : Gl X "enumerate") (hm : X.mg "enumerate" = none) (ha : PA X [e] ta) (hs : starEach [e] X.env = [(false, eval e X.env)] := by rfl) :
    PI X (.Tuple elts kk tpos) (.Call (.Name "enumerate" p) [e] [] pos) (iEnumS ta) := by
  refine ⟨fun pins s σ H R I h => ?_⟩
  refine Call_ (ld_blt I hg hm boot_enumerate (PyProof.Rows.callWith_type1 (thn (ha.run pos pins s σ H _ I h) fun us s1 ⟨vs, H1, I1, r1, q1⟩ => ?_) hs rfl))
  obtain ⟨x, ex, q⟩ := q1
  subst ex
  cases r1 with
  | cons r rr =>
    cases rr
    obtain ⟨t, rfl⟩ := r
    refine call_enumerate_str fun h' he hit hsz hk => wpAny_pyIter_enum he ?_
    have I2 : Inv X pins σ H1 { s1 with heap := h' } := I1.kept (t' := s1.toks) hk
    refine ⟨s1.heap.objs.size + 1, [s1.heap.objs.size + 1, s1.heap.objs.size], _, _, H1, rfl, I2, turn_enumS x t (s1.heap.objs.size + 1) s1.heap.objs.size, ⟨⟨.none, he⟩, hit, Nat.succ_ne_self _⟩, fun b hb => ?_, q⟩
    have e' : b = s1.heap.objs.size + 1 ∨ b = s1.heap.objs.size := by simpa using hb
    have hle : s1.heap.objs.size ≤ b := by
      rcases e' with z | z
      · rw [z]; exact Nat.le_add_right _ _
      · rw [z]; exact Nat.le_refl _
    exact I1.fpOk hle (I1.hok.fresh hle)
section
variable {X : Cx} {c : Ct} {σ : Sl} {m : Mem} {elts : List Expr} {kk : Nat} {tpos p pos : Pos} {e : Expr} {K : List D → Mem → Prop}
/-- the pairs of a text's places and signs -/
def enumS (s : List Nat) : List D := (List.range s.length).map fun (i : Nat) => .tup [.int (i : Int), .str [s.getD i 0]]
theorem enumS_at {s : List Nat} {i : Nat} {d : D} (h : (enumS s)[i]? = some d) : ∃ hi : i < s.length, d = .tup [.int (i : Int), .str [s[i]]] := by
  unfold enumS at h
  rw [List.getElem?_map] at h
  by_cases hi : i < s.length
  · rw [List.getElem?_range hi] at h
    cases h
    exact ⟨hi, by show D.tup [D.int (i : Int), D.str [s.getD i 0]] = _; rw [List.getD_eq_getElem?_getD, List.getElem?_eq_getElem hi]; rfl⟩
  · rw [List.getElem?_eq_none (by simpa using Nat.le_of_not_lt hi)] at h
    cases h
theorem enumS_len (s : List Nat) : (enumS s).length = s.length := by simp [enumS]
theorem it_enumS (hg : Gl X "enumerate") (hm : X.mg "enumerate" = none) (h : DE X c σ m e (fun r m1 => ∃ s, r = rS s ∧ K (enumS s) m1)) (hs : starEach [e] X.env = [(false, eval e X.env)] := by rfl) : DIt X c σ m (.Tuple elts kk tpos) (.Call (.Name "enumerate" p) [e] [] pos) K := by
  refine ⟨_, pi_enumS hg hm (pa_t (c := c)) hs, fun τ H G R' E q => ⟨σ, m, G, fun rs m1 => ∃ s, rs = [rS s] ∧ K (enumS s) m1, E, ?_, ?_⟩⟩
  · exact da_cons (h.imp fun r m1 ⟨s, e, z⟩ => da_nil ⟨s, by rw [e], z⟩) hs
  · intro rs m1 G1 H1 vs ⟨s, e, z⟩ x1 E1 rv
    subst e
    obtain ⟨v, rfl, r1⟩ := one_of rv
    cases str_of r1
    refine ⟨sOf s, rfl, q _ m1 G1 H1 _ z x1 E1 fun i H2 ex => ⟨fun d hd => ?_, fun hl => ?_⟩⟩
    · obtain ⟨hi, rfl⟩ := enumS_at hd
      refine ⟨by show i < (sOf s).cps.size; simpa [sOf] using hi, fun x H' hy => .inr ?_⟩
      obtain ⟨T, ch, ex', hT, eH, hc⟩ := hy
      have hc' : s[i]? = some ch := by simpa [sOf] using hc
      have hce : s[i] = ch := by
        rw [List.getElem?_eq_getElem hi] at hc'
        exact Option.some.inj hc'
      subst ex' eH
      refine ⟨T, .tup [.int (i : Nat), .str ⟨#[ch]⟩], hT, rfl, ?_⟩
      refine .tup (.inl (.inl upd_same)) (.cons .int (.cons ?_ .nil))
      rw [hce]
      exact Rep.str (s := [ch])
    · show (sOf s).cps.size ≤ i
      rw [enumS_len] at hl
      simpa [sOf] using hl
end
end D2
/-! ## D2Bit -/
/-! 1 << k, a | b of numbers not below 0 -/
namespace D2
open PySem PySem.Spec PyProof.Rows L2
section
variable {X : Cx} {c : Ct} {σ : Sl} {m : Mem} {K : R → Mem → Prop}
theorem o_shl1 {k : Nat} (h : k ≤ 1000000) (z : K (rI ((2 ^ k : Nat) : Int)) m) : OP X c σ m (binaryOp .LShift) (rI 1) (rI (k : Int)) K :=
  o_shl ⟨by omega, by omega, by decide⟩ (by rw [Int.one_mul, Int.toNat_natCast]; rw [Int.natCast_pow] at z; exact z)
theorem o_orN {a b : Nat} (z : K (rI ((a ||| b : Nat) : Int)) m) : OP X c σ m (binaryOp .BitOr) (rI (a : Int)) (rI (b : Int)) K := by
  have e : Builtin.bitOr (a : Int) (b : Int) = ((a ||| b : Nat) : Int) := by rw [bitOr_nn (by omega) (by omega), Int.toNat_natCast, Int.toNat_natCast]
  exact opI0 L2.op_or (by rw [e]; exact z)
variable {m' : Mem} {a : Addr} {kvs : List (Key × R)} {rk : R} {kk : Key} {k : Nat}
theorem o_ninK (L : Live X c k) (hh : Has m a (.dk kvs) m') (hk : IsKey rk kk) (z : K (rB (!(valR kvs kk).isSome)) m) : OP X c σ m (compareOp .NotIn) rk (.own a) K := fun pins s τ H G v1 v2 u1 u2 Q I E q1 q2 p1 p2 q => by
  cases q2
  obtain rfl : u2 = Value.ref a := p2
  obtain ⟨_, ho, hho, ro⟩ := E.mem _ hh.mem
  cases ro with | @dk _ vs ro =>
  rw [hk.v q1] at p1
  have e : (valV vs kk).isSome = (valR kvs kk).isSome := by
    cases hv : valR kvs kk with
    | none => rw [(relK_val ro kk).2 hv]; rfl
    | some r =>
      obtain ⟨v, e1, _⟩ := (relK_val ro kk).1 r hv
      rw [e1]; rfl
  refine d_notIn (by have := L.room.units; omega) I (DGet.k hho) p1 fun s' I' => ⟨.bl _, H, I', rfl, ?_⟩
  rw [e]
  exact q.now z E (.dat .bl)
end
end D2
namespace D2
open PySem PySem.Spec PyProof.Rows L2
section
variable {X : Cx} {c : Ct} {σ : Sl} {m : Mem} {K : R → Mem → Prop} {k : Nat} {e e2 : Expr} {p pos : Pos}
/-- max(a, b) -/
theorem d_max2 (L : Live X c k) (hg : Gl X "max") (hm : X.mg "max" = none) (h : DA X c σ m [e, e2] (fun rs m1 => ∃ i j, rs = [rI i, rI j] ∧ K (rI (if j > i then j else i)) m1))
    (he : starEach [e, e2] X.env = (false, eval e X.env) :: starEach [e2] X.env := by rfl) (hpl : (backTo pos (starEach [e2] X.env)).any (·.1) = false := by rfl) : DE X c σ m (.Call (.Name "max" p) [e, e2] [] pos) K := by
  refine de_callB (call_max2 L.calm) hg hm (by decide +kernel) (fun ps pins s τ H G Q I E q => h ps pins s τ H G Q I E fun rs m1 G1 H1 vs ⟨i, j, er, z⟩ x1 E1 rv => q rs m1 G1 H1 vs ?_ x1 E1 rv) (he := he) (hpl := hpl)
  intro τ H G vs Q E rv q
  subst er
  cases rv with | cons r1 t =>
  cases t with | cons r2 t =>
  cases t
  cases int_of r1
  cases int_of r2
  exact ⟨i, j, rfl, q.now z E (.dat .int)⟩
end
end D2
namespace D2
open PySem PySem.Spec PyProof.Rows L2
section
variable {X : Cx} {c : Ct} {σ : Sl} {m m' : Mem} {en : En} {sts : List Stmt} {x : Str} {a : Addr} {f : R → Sl} {d : D}
/-- x's list is read only from here on -/
theorem dss_frzL (hx : Lk σ x (.own a)) (hp : PutF σ x f) (hz : Frz m (.own a) d m') (h : DSs X c (f (.dat d)) m' sts en) : DSs X c σ m sts en := fun F pins s τ H G D I E fx ft => by
  obtain ⟨i, v, h1, h2, h3, hv⟩ := E.get hx
  obtain ⟨G2, x1, E3, rep⟩ := hz.env E h3
  obtain ⟨j, hj, E4⟩ := E3.put (hp.put (.dat d)) hv (.dat rep)
  have ij : i = j := nodup_ix E.nm.nd h1 hj
  subst ij
  have et : τ.set i (some v) = τ := by
    refine List.ext_getElem? fun n => ?_
    by_cases e : i = n
    · subst e
      have hl : i < τ.length := by
        by_cases q : i < τ.length
        · exact q
        · rw [List.getElem?_eq_none (by omega)] at h2; cases h2
      rw [List.getElem?_set_self hl, h2]
    · rw [List.getElem?_set_ne e]
  rw [et] at E4
  exact h F pins s τ H _ D I E4 (fx.trans x1) ft
end
end D2
namespace D2
open PySem PySem.Spec PyProof.Rows L2
/-- a test that tells False on all its roads -/
theorem dt_no {X : Cx} {c : Ct} {σ : Sl} {m : Mem} {e : Expr} {K : Bool → Mem → Prop} (h : DT X c σ m e (fun b m1 => b = false ∧ m1 = m)) (k : K false m) : DT X c σ m e K :=
  fun wh pins s τ H G Q hw I E kq => h wh pins s τ H G Q hw I E (fun b m1 G1 H1 ⟨e1, e2⟩ x E1 => by subst e1 e2; exact kq _ _ _ _ k x E1)
end D2
namespace D2
open PySem PySem.Spec PyProof.Rows L2
/-- one statement, then the rest from a middle -/
theorem dss_mid {X : Cx} {c : Ct} {σ : Sl} {m : Mem} {st : Stmt} {sts : List Stmt} {en : En} (I : Sl → Mem → Prop) (h1 : DS X c σ m st (nxTo en I)) (h2 : ∀ σ' m', I σ' m' → DSs X c σ' m' sts en) : DSs X c σ m (st :: sts) en :=
  dss_cons fun F pins s τ H G D Iv E fx ft => h1 F pins s τ H G D Iv E fx ⟨fun σ' m' G' τ' H' hI x E' => ft.nx σ' m' G' τ' H' (h2 σ' m' hI) x E', ft.rt, ft.bk, ft.ct⟩
end D2
/-! ## D2Isi -/
/-! isinstance of built-in types, told -/
namespace D2
open PySem PySem.Spec PyProof.Rows L2
theorem kitb_NoneType_int : kitB "NoneType" "int" = some false := by decide +kernel
theorem kitb_NoneType_bool : kitB "NoneType" "bool" = some false := by decide +kernel
theorem kitb_NoneType_str : kitB "NoneType" "str" = some false := by decide +kernel
theorem kitb_NoneType_list : kitB "NoneType" "list" = some false := by decide +kernel
theorem kitb_NoneType_tuple : kitB "NoneType" "tuple" = some false := by decide +kernel
theorem kitb_NoneType_dict : kitB "NoneType" "dict" = some false := by decide +kernel
theorem kitb_bool_int : kitB "bool" "int" = some true := by decide +kernel
theorem kitb_bool_bool : kitB "bool" "bool" = some true := by decide +kernel
theorem kitb_bool_str : kitB "bool" "str" = some false := by decide +kernel
theorem kitb_bool_list : kitB "bool" "list" = some false := by decide +kernel
theorem kitb_bool_tuple : kitB "bool" "tuple" = some false := by decide +kernel
theorem kitb_bool_dict : kitB "bool" "dict" = some false := by decide +kernel
theorem kitb_int_int : kitB "int" "int" = some true := by decide +kernel
theorem kitb_int_bool : kitB "int" "bool" = some false := by decide +kernel
theorem kitb_int_str : kitB "int" "str" = some false := by decide +kernel
theorem kitb_int_list : kitB "int" "list" = some false := by decide +kernel
theorem kitb_int_tuple : kitB "int" "tuple" = some false := by decide +kernel
theorem kitb_int_dict : kitB "int" "dict" = some false := by decide +kernel
theorem kitb_str_int : kitB "str" "int" = some false := by decide +kernel
theorem kitb_str_bool : kitB "str" "bool" = some false := by decide +kernel
theorem kitb_str_str : kitB "str" "str" = some true := by decide +kernel
theorem kitb_str_list : kitB "str" "list" = some false := by decide +kernel
theorem kitb_str_tuple : kitB "str" "tuple" = some false := by decide +kernel
theorem kitb_str_dict : kitB "str" "dict" = some false := by decide +kernel
theorem kitb_list_int : kitB "list" "int" = some false := by decide +kernel
theorem kitb_list_bool : kitB "list" "bool" = some false := by decide +kernel
theorem kitb_list_str : kitB "list" "str" = some false := by decide +kernel
theorem kitb_list_list : kitB "list" "list" = some true := by decide +kernel
theorem kitb_list_tuple : kitB "list" "tuple" = some false := by decide +kernel
theorem kitb_list_dict : kitB "list" "dict" = some false := by decide +kernel
theorem kitb_tuple_int : kitB "tuple" "int" = some false := by decide +kernel
theorem kitb_tuple_bool : kitB "tuple" "bool" = some false := by decide +kernel
theorem kitb_tuple_str : kitB "tuple" "str" = some false := by decide +kernel
theorem kitb_tuple_list : kitB "tuple" "list" = some false := by decide +kernel
theorem kitb_tuple_tuple : kitB "tuple" "tuple" = some true := by decide +kernel
theorem kitb_tuple_dict : kitB "tuple" "dict" = some false := by decide +kernel
theorem kitb_dict_int : kitB "dict" "int" = some false := by decide +kernel
theorem kitb_dict_bool : kitB "dict" "bool" = some false := by decide +kernel
theorem kitb_dict_str : kitB "dict" "str" = some false := by decide +kernel
theorem kitb_dict_list : kitB "dict" "list" = some false := by decide +kernel
theorem kitb_dict_tuple : kitB "dict" "tuple" = some false := by decide +kernel
theorem kitb_dict_dict : kitB "dict" "dict" = some true := by decide +kernel
section
variable {X : Cx} {c : Ct} {σ : Sl} {m : Mem} {k : Nat} {K : R → Mem → Prop} {e e2 : Expr} {p pos : Pos}
/-- min(a, b) -/
theorem d_min2 (L : Live X c k) (hg : Gl X "min") (hm : X.mg "min" = none) (h : DA X c σ m [e, e2] (fun rs m1 => ∃ i j, rs = [rI i, rI j] ∧ K (rI (if j < i then j else i)) m1))
    (he : starEach [e, e2] X.env = (false, eval e X.env) :: starEach [e2] X.env := by rfl) (hpl : (backTo pos (starEach [e2] X.env)).any (·.1) = false := by rfl) : DE X c σ m (.Call (.Name "min" p) [e, e2] [] pos) K := by
  refine de_callB (call_min2 L.calm) hg hm (by decide +kernel) (fun ps pins s τ H G Q I E q => h ps pins s τ H G Q I E fun rs m1 G1 H1 vs ⟨i, j, er, z⟩ x1 E1 rv => q rs m1 G1 H1 vs ?_ x1 E1 rv) (he := he) (hpl := hpl)
  intro τ H G vs Q E rv q
  subst er
  cases rv with | cons r1 t =>
  cases t with | cons r2 t =>
  cases t
  cases int_of r1
  cases int_of r2
  exact ⟨i, j, rfl, q.now z E (.dat .int)⟩
end
end D2
/-! ## D2S -/
/-! sorted(a tuple of data) -/
namespace D2
open PySem PySem.Spec PyProof.Rows L2
section
open PySem.W
variable {prog : Program} {w : World} {A : Around} {E : Value → Shared → Prop} {s : Shared} {β : Type} {vs : List Value} {bs : List β} {enc : β → PyData} {RR : Value → β → Prop}
theorem sorted_tupD {t : Addr} {o : Obj} {n : Nat} {Q : Value → Shared → Prop} (ho : s.heap.get? t = some o) (hc : o.cls = .type "tuple") (hd : o.data = .seq vs.toArray n) (e : EachIs RR vs bs)
    (er : EachIs (fun v b => ∃ as, Reads s.heap v (enc b) as) vs bs) (hal : AllAlike (bs.map enc)) (hk : Sortable (bs.map enc)) (hL : bs.length ≤ sizeLine) (hu : ∀ b, b ∈ bs → A.units + 2 + (enc b).depth < cLine)
    (h : ∀ (hp : Heap) (out : List Value), (∀ b u, s.heap.get? b = some u → hp.get? b = some u) → EachIs RR out (bs.mergeSort (dataLe false enc)) → Q (.ref hp.objs.size) { s with heap := sortedHeap (hp.push (seqObj "list" vs.toArray 0)) hp.objs.size vs out.toArray }) :
    wpAny (model prog w) A (call (.builtin "sorted") [.ref t]) Q E s := by
  have hlen : vs.length ≤ sizeLine := by rw [e.length]; exact hL
  refine call_function_entry_kw kind_sorted plain_sorted entry_sorted (args_sorted1 _) ?_
  unfold Builtin.«sorted»
  refine wpAny_bind (m := checkCount "sorted" 1 1 _) (wpAny_pure (wpAny_bind ?_))
  refine wpAny_collect_seq t (.inr rfl) ho hc hd (fun hp kp => ?_) (by rw [List.size_toArray]; exact hlen)
  refine wpAny_bind (wpAny_newList ?_ (by simpa using hlen))
  have hat : (hp.push (seqObj "list" vs.toArray 0)).get? hp.objs.size = some (seqObj "list" vs.toArray 0) := Heap.get?_push_size _ rfl
  have old : ∀ b u, s.heap.get? b = some u → (hp.push (seqObj "list" vs.toArray 0)).get? b = some u := fun b u q => Heap.get?_push_of_some _ (kp b u q)
  have hlt : ∀ b u, s.heap.get? b = some u → b ≠ hp.objs.size := fun b u q => Nat.ne_of_lt (Heap.lt_size (kp b u q))
  have er' : EachIs (fun v b => ∃ as, Reads (sortingHeap (hp.push (seqObj "list" vs.toArray 0)) hp.objs.size vs) v (enc b) as) vs bs := er.mono fun _ _ ⟨as, r⟩ => ⟨as, PyProof.Rows.Reads.keeps (fun b u q => sortingHeap_old (hlt b u q) (old b u q)) r⟩
  refine wpAny_bind (wpAny_holding (wpAny_call_entry_kw slot_list_sort ⟨_, hat, rfl⟩ entry_list_sort ?body (args_list_sort _)))
  refine wpAny_mono (list_sort_vals (P := fun f s' => f = .done (.ret .none) ∧ Q (.ref hp.objs.size) s') (s := { s with heap := hp.push (seqObj "list" vs.toArray 0) }) (E := fun _ _ => False) hat (SortsAt.data (s := { s with heap := sortingHeap (hp.push (seqObj "list" vs.toArray 0)) hp.objs.size vs }) (each_map (R := fun v d => ∃ as, Reads (sortingHeap (hp.push (seqObj "list" vs.toArray 0)) hp.objs.size vs) v d as) enc er') hal hk (bound_map hu)) hlen ⟨rfl, h hp _ kp (sortVals_data false e er' hal)⟩) (fun f s' hf => ?_) fun _ _ z => z.elim
  obtain ⟨rfl, hq⟩ := hf
  exact ⟨_, rfl, wpAny_pure ⟨_, rfl, hq⟩⟩
end
section
variable {X : Cx}
def rSortedT (K : PySem.W.Frag) : List V → Hp → VK → Prop := fun xs H Q => ∃ (a : Addr) (ys : List (V × PyData)), xs = [.ref a] ∧ SqT K H a (ys.map (·.1)) ∧ DpAll K H (ys.map (·.1)) (ys.map (·.2)) ∧ PySem.W.AllAlike (ys.map (·.2)) ∧ PySem.W.Sortable (ys.map (·.2)) ∧ ys.length ≤ 1000000 ∧ (∀ y ∈ ys, y.2.depth ≤ 60) ∧
  ∀ p, H p = none → Q (.ref p) (L2.upd H p (.lst ((ys.mergeSort (PySem.W.dataLe false (·.2))).map (·.1))))
theorem call_sortedTu (hu : X.A.units + 64 < cLine) : CallR X (.builtin "sorted") (rSortedT X.K) := by
  intro pins s τ H xs us Q I r h
  obtain ⟨a, ys, ex, hq, hdp, hal, hso, hl, hdep, q⟩ := h
  subst ex
  obtain rfl := Vals.ref1 r
  obtain ⟨its, rv, pl, hz⟩ := I.tuple hq
  obtain ⟨as, rd⟩ := Dp.readsAll I _ _ _ hdp rv
  have e1 : ∀ {ys : List (V × PyData)} {its : List Value} {as : List Addr}, Vals (ys.map (·.1)) its → ReadsAll s.heap its (ys.map (·.2)) as →
      PySem.W.EachIs (fun u y => L2.RelV y.1 u) its ys ∧ PySem.W.EachIs (fun u y => ∃ as, Reads s.heap u y.2 as) its ys := by
    intro ys
    induction ys with
    | nil => intro its as r1 r2; cases r1; exact ⟨.nil, .nil⟩
    | cons y ys ih =>
      intro its as r1 r2
      cases r1 with | cons p ps =>
      cases r2 with | cons t ts =>
      obtain ⟨i1, i2⟩ := ih ps ts
      exact ⟨.cons p i1, .cons ⟨_, t⟩ i2⟩
  obtain ⟨g1, g2⟩ := e1 rv rd
  obtain ⟨ob, n, ho, hc, hd⟩ : ∃ (ob : Obj) (n : Nat), s.heap.get? a = some ob ∧ ob.cls = .type "tuple" ∧ ob.data = .seq its.toArray n := by
    obtain ⟨ob, h1, h2, n, h3⟩ := pl
    exact ⟨ob, n, h1, h2, h3⟩
  refine sorted_tupD (bs := ys) (enc := (·.2)) (RR := fun u y => L2.RelV y.1 u) ho hc hd g1 g2 hal hso (Nat.le_trans hl (by decide)) (fun y hy => by have := hdep y hy; omega) fun hp out kp eo => ?_
  have g3 : ∀ {ys : List (V × PyData)} {out : List Value}, PySem.W.EachIs (fun u y => L2.RelV y.1 u) out ys → Vals (ys.map (·.1)) out := by
    intro ys
    induction ys with
    | nil => intro out r; cases r; exact .nil
    | cons y ys ih => intro out r; cases r with | cons p ps => exact .cons p (ih ps)
  have hlen : ((ys.mergeSort (PySem.W.dataLe false (·.2))).map (·.1)).length ≤ sizeLine := by
    rw [List.length_map, List.length_mergeSort]; exact Nat.le_trans hl (by decide)
  have hat : (hp.push (seqObj "list" its.toArray 0)).get? hp.objs.size = some (seqObj "list" its.toArray 0) := Heap.get?_push_size _ rfl
  obtain ⟨cn, hcn⟩ := sortedHeap_at (vs := its) (out := out.toArray) hat
  have hg : s.heap.get? hp.objs.size = none := by
    cases q0 : s.heap.get? hp.objs.size with
    | none => rfl
    | some u => exact absurd (Heap.lt_size (kp _ _ q0)) (Nat.lt_irrefl _)
  have hn : H hp.objs.size = none := HOk.fresh (HOk.kept I.hok kp) (Nat.le_refl _)
  exact ⟨.ref hp.objs.size, _, L2.Inv.laidN I (a := hp.objs.size) (o := .lst ((ys.mergeSort (PySem.W.dataLe false (·.2))).map (·.1))) (t' := s.toks) (fun b o e => by
    have hb := kp b o e
    rw [sortedHeap_old (Nat.ne_of_lt (Heap.lt_size hb)) (by rw [size_push']; exact Nat.lt_succ_of_lt (Heap.lt_size hb))]
    exact Heap.get?_push_of_some _ hb) hg hn ⟨hlen, out, cn, g3 eo, hcn⟩, rfl, q _ hn⟩
variable {c : Ct} {σ : Sl} {m : Mem} {k : Nat} {e : Expr} {K : R → Mem → Prop} {px pos : Pos} {β : Type} {f : β → D} {g : β → PyData}
theorem d_sortedT (L : Live X c k) (hg : Gl X "sorted") (hm : X.mg "sorted" = none)
    (h : DE X c σ m e (fun r m1 => ∃ xs : List β, r = .dat (.tup (xs.map f)) ∧ (∀ x, PV m1 (.dat (f x)) (g x)) ∧ PySem.W.AllAlike (xs.map g) ∧ PySem.W.Sortable (xs.map g) ∧ xs.length ≤ 1000000 ∧ (∀ x ∈ xs, (g x).depth ≤ 60) ∧
      ∀ p, K (.own p) ((p, .lst ((xs.mergeSort (PySem.W.dataLe false g)).map fun x => .dat (f x))) :: m1)))
    (hst : starEach [e] X.env = (false, eval e X.env) :: starEach [] X.env := by rfl) : DE X c σ m (.Call (.Name "sorted" px) [e] [] pos) K :=
  de_callB (call_sortedTu L.room.units) hg hm (by decide +kernel) (da_cons (h.imp fun r m1 ⟨xs, er, hp, hal, hso, hl, hd, z⟩ => da_nil fun τ H G vs Q E rv q => by
    subst er
    obtain ⟨v, rfl, r1⟩ := one_of rv
    obtain ⟨a, us, rfl, hs, rr⟩ : ∃ (a : Addr) (us : List V), v = .ref a ∧ SqT X.K H a us ∧ RelRs X.K G (xs.map fun x => .dat (f x)) us := by
      cases r1 with | dat r1 =>
      cases r1 with | @tup a _ us hs rr =>
      refine ⟨a, us, rfl, ex_t E.sub hs, ?_⟩
      have := rr.rel
      rwa [List.map_map] at this
    have hlen : us.length = xs.length := by rw [← rr.length, List.length_map]
    have pvs : ∀ xs : List β, PVs m1 (xs.map fun x => .dat (f x)) (xs.map g) := fun xs => by
      induction xs with
      | nil => exact .nil
      | cons x xs ih => exact .cons (hp x) ih
    let zs : List (V × β) := us.zip xs
    let ys : List (V × PyData) := zs.map fun z => (z.1, g z.2)
    have y1 : ys.map (·.1) = us := by
      show ((us.zip xs).map fun z => (z.1, g z.2)).map (·.1) = us
      rw [List.map_map]
      show (us.zip xs).map Prod.fst = us
      rw [List.map_fst_zip]
      omega
    have y2 : ys.map (·.2) = xs.map g := by
      show ((us.zip xs).map fun z => (z.1, g z.2)).map (·.2) = _
      rw [List.map_map]
      show (us.zip xs).map (g ∘ Prod.snd) = _
      rw [← List.map_map, List.map_snd_zip]
      omega
    refine ⟨a, ys, rfl, by rw [y1]; exact hs, by rw [y1, y2]; exact PVs.dp E (pvs xs) rr, by rw [y2]; exact hal, by rw [y2]; exact hso, ?_, ?_, fun p hp' => ?_⟩
    · have hy : us.length = ys.length := by rw [← y1]; simp only [List.length_map]
      rw [← hy, hlen]
      exact hl
    · intro y hy
      obtain ⟨w, hw, rfl⟩ := List.mem_map.mp hy
      exact hd w.2 (List.of_mem_zip hw).2
    · have srt : (ys.mergeSort (PySem.W.dataLe false (·.2))).map (·.1) = (zs.mergeSort (PySem.W.dataLe false fun z => g z.2)).map (·.1) := by
        have q1 : (zs.mergeSort (PySem.W.dataLe false fun z => g z.2)).map (fun z => (z.1, g z.2)) = ys.mergeSort (PySem.W.dataLe false (·.2)) := List.map_mergeSort fun _ _ _ _ => rfl
        rw [← q1, List.map_map]
        rfl
      have srt2 : (zs.mergeSort (PySem.W.dataLe false fun z => g z.2)).map (·.2) = xs.mergeSort (PySem.W.dataLe false g) := by
        have q1 : (zs.mergeSort (PySem.W.dataLe false fun z => g z.2)).map (·.2) = (zs.map (·.2)).mergeSort (PySem.W.dataLe false g) := List.map_mergeSort fun _ _ _ _ => rfl
        rw [q1]
        congr 1
        show (us.zip xs).map Prod.snd = xs
        rw [List.map_snd_zip]
        omega
      have rel : ∀ {l : List (V × β)}, (∀ z ∈ l, RelR X.K G (.dat (f z.2)) z.1) → RelRs X.K G ((l.map (·.2)).map fun x => .dat (f x)) (l.map (·.1)) := fun {l} hl => by
        induction l with
        | nil => exact .nil
        | cons z l ih => exact .cons (hl z List.mem_cons_self) (ih fun w hw => hl w (List.mem_cons_of_mem _ hw))
      have allz : ∀ {us : List V} {xs : List β}, RelRs X.K G (xs.map fun x => .dat (f x)) us → ∀ z ∈ us.zip xs, RelR X.K G (.dat (f z.2)) z.1 := fun {us xs} h => by
        intro z hz
        induction xs generalizing us with
        | nil => simp at hz
        | cons x xs ih =>
          cases h with | cons h1 h2 =>
          rw [List.zip_cons_cons] at hz
          rcases List.mem_cons.mp hz with rfl | hz
          · exact h1
          · exact ih h2 hz
      have R1 := rel (l := zs.mergeSort (PySem.W.dataLe false fun z => g z.2)) fun z hz => allz rr z ((List.mergeSort_perm _ _).mem_iff.mp hz)
      rw [srt2] at R1
      rw [srt]
      exact q _ _ G _ _ (z p) (Ex.refl G) (E.new hp' (.lst R1)) .own) hst) (he := hst)
end
end D2
/-! ## D2Nx -/
/-! dicts with nested keys: setdefault; sorted(d) -/
namespace D2
open PySem PySem.Spec PyProof.Rows L2
section
open PySem.W
variable {prog : Program} {w : World} {A : Around} {E : Value → Shared → Prop} {s : Shared} {β : Type} {vs : List Value} {bs : List β} {enc : β → PyData} {RR : Value → β → Prop}
theorem sorted_rawD {d : Addr} {es : Array DictEntry} {ep : Nat} {Q : Value → Shared → Prop} (hm : s.heap.DictRaw d es ep) (lo : (d == sysModules) = false) (hh : A.handled = none) (hn : es.size ≤ sizeLine) (hv : es.toList.map (·.key) = vs) (e : EachIs RR vs bs)
    (er : EachIs (fun v b => ∃ as, Reads s.heap v (enc b) as) vs bs) (hal : AllAlike (bs.map enc)) (hk : Sortable (bs.map enc)) (hL : bs.length ≤ sizeLine) (hu : ∀ b, b ∈ bs → A.units + 2 + (enc b).depth < cLine)
    (h : ∀ (hp : Heap) (tk : Nat) (out : List Value), (∀ b u, s.heap.get? b = some u → hp.get? b = some u) → EachIs RR out (bs.mergeSort (dataLe false enc)) → Q (.ref hp.objs.size) { s with heap := sortedHeap (hp.push (seqObj "list" vs.toArray 0)) hp.objs.size vs out.toArray, toks := tk }) :
    wpAny (model prog w) A (call (.builtin "sorted") [.ref d]) Q E s := by
  have hlen : vs.length ≤ sizeLine := by rw [e.length]; exact hL
  refine call_function_entry_kw kind_sorted plain_sorted entry_sorted (args_sorted1 _) ?_
  unfold Builtin.«sorted»
  refine wpAny_bind (m := checkCount "sorted" 1 1 _) (wpAny_pure (wpAny_bind ?_))
  refine kdu_collect (A := A.in1) (KdlSrc.rawDict (es := es) (ep := ep) lo) hh hm hn fun hp tk acc kp hacc => ?_
  have ev : acc.toList = vs := by
    have hl2 : acc.toList.length = vs.length := by rw [Array.length_toList, hacc.1, ← hv, List.length_map, Array.length_toList]
    refine List.ext_getElem hl2 fun i h1 h2 => ?_
    obtain ⟨hi, e1⟩ := hacc.2 i acc.toList[i] (by rw [← Array.getElem?_toList, List.getElem?_eq_getElem h1])
    rw [e1]
    subst hv
    simp
  rw [ev]
  refine wpAny_bind (wpAny_newList ?_ (by simpa using hlen))
  have hat : (hp.push (seqObj "list" vs.toArray 0)).get? hp.objs.size = some (seqObj "list" vs.toArray 0) := Heap.get?_push_size _ rfl
  have old : ∀ b u, s.heap.get? b = some u → (hp.push (seqObj "list" vs.toArray 0)).get? b = some u := fun b u q => Heap.get?_push_of_some _ (kp b u q)
  have hlt : ∀ b u, s.heap.get? b = some u → b ≠ hp.objs.size := fun b u q => Nat.ne_of_lt (Heap.lt_size (kp b u q))
  have er' : EachIs (fun v b => ∃ as, Reads (sortingHeap (hp.push (seqObj "list" vs.toArray 0)) hp.objs.size vs) v (enc b) as) vs bs := er.mono fun _ _ ⟨as, r⟩ => ⟨as, PyProof.Rows.Reads.keeps (fun b u q => sortingHeap_old (hlt b u q) (old b u q)) r⟩
  refine wpAny_bind (wpAny_holding (wpAny_call_entry_kw slot_list_sort ⟨_, hat, rfl⟩ entry_list_sort ?body (args_list_sort _)))
  refine wpAny_mono (list_sort_vals (P := fun f s' => f = .done (.ret .none) ∧ Q (.ref hp.objs.size) s') (s := { s with heap := hp.push (seqObj "list" vs.toArray 0), toks := tk }) (E := fun _ _ => False) hat (SortsAt.data (s := { s with heap := sortingHeap (hp.push (seqObj "list" vs.toArray 0)) hp.objs.size vs, toks := tk }) (each_map (R := fun v d => ∃ as, Reads (sortingHeap (hp.push (seqObj "list" vs.toArray 0)) hp.objs.size vs) v d as) enc er') hal hk (bound_map hu)) hlen ⟨rfl, h hp tk _ kp (sortVals_data false e er' hal)⟩) ?_ (fun _ _ z => z.elim)
  rintro f s' hf
  obtain ⟨rfl, hq⟩ := hf
  exact ⟨_, rfl, wpAny_pure ⟨_, rfl, hq⟩⟩
end
mutual
theorem rep_dp {K : PySem.W.Frag} {G H : Hp} (sub : Ex G H) : ∀ {k : NestedKey} {v : V}, Rep K G (nD k) v → Dp K H v k.data
  | .none, _, h => by
    cases h; exact .non
  | .num i, _, h => by
    cases h; exact .int _
  | .text x, _, h => by
    have h2 : Rep K G (.str (lit x)) _ := h
    cases h2
    rw [sOf_lit]
    exact .str _
  | .tup ks, _, h => by
    have h2 : Rep K G (.tup (nDs ks)) _ := h
    cases h2 with | tup hs rr => exact .tup (ex_t sub hs) (rep_dps sub rr)
theorem rep_dps {K : PySem.W.Frag} {G H : Hp} (sub : Ex G H) : ∀ {ks : List NestedKey} {vs : List V}, Reps K G (nDs ks) vs → DpAll K H vs (NestedKey.datas ks)
  | [], _, h => by
    cases h; exact .nil
  | k :: ks, _, h => by
    have h2 : Reps K G (nD k :: nDs ks) _ := h
    cases h2 with | cons a b => exact .cons (rep_dp sub a) (rep_dps sub b)
end
/-- a key's data are read -/
theorem rep_reads {X : Cx} {pins : List (Addr × Obj)} {τ : L2.St} {H G : Hp} {s : Shared} (I : Inv X pins τ H s) (sub : Ex G H) {k : NestedKey} {b : Addr} (h : Rep X.K G (nD k) (.ref b)) : ∃ as, Reads s.heap (.ref b) k.data as := by
  exact Dp.reads I k.data (.ref b) (.ref b) (rep_dp sub h) rfl
section
variable {X : Cx} {c : Ct} {σ : Sl} {m m' : Mem} {k : Nat} {K : R → Mem → Prop} {e o ke : Expr} {px pos apos cpos : Pos}
/-- d.setdefault(k, v) -/
theorem mt_setdef (L : Live X c k) : MtR X "dict.setdefault" (fun x xs H Q => ∃ (a b : Addr) (kk : NestedKey) (v : V) (ns : List (NestedKey × Addr × V)) (G : Hp) (kvs : List (NestedKey × R)), x = .ref a ∧ xs = [.ref b, v] ∧ H a = some (dnO X.prog X.w a ns) ∧ Ex G H ∧ RelN X.K G kvs ns ∧ KeyAt X.K G kk b ∧ kvs.length < 1000000 ∧
    (∀ b2 v2, findA ns kk = some (kk, b2, v2) → Q v2 H) ∧ (findA ns kk = none → Q v (upd H a (dnO X.prog X.w a (putA ns kk b v))))) := by
  intro pins s τ H x xs v us Q I r r2 h
  obtain ⟨a, b, kk, dv, ns, G, kvs, ex, exs, hH, sub, rel, hk, hl, q1, q2⟩ := h
  subst ex exs
  cases (show v = Value.ref a from r)
  cases r2 with | cons p r2 =>
  cases r2 with | @cons _ du _ _ p2 r2 =>
  cases r2
  cases p
  obtain ⟨hs, ys, hp, dd⟩ := dnO_of I sub hH rel
  have hlen : ns.length = ys.length := Paired.length hp
  refine call_setdefault_heap (roomN L) (hk.is I sub) hs dd (fun p e => ?_) (fun e h' hm' hsb => ?_) (by rw [← hlen, ← relN_len rel]; exact Nat.le_of_lt (Nat.lt_of_lt_of_le hl (by decide)))
  · have hsm := (pair_find hp kk).1
    rw [e] at hsm
    cases hf : findA ns kk with
    | none => rw [hf] at hsm; cases hsm
    | some z =>
      obtain ⟨k2, b2, v2⟩ := z
      have e2 : k2 = kk := by
        have := List.find?_some hf
        simpa using this
      subst e2
      obtain ⟨u, hu, ru⟩ := (pair_find hp k2).2 b2 v2 hf
      rw [e] at hu
      cases hu
      exact ⟨v2, H, I.tok _, ru, q1 b2 v2 hf⟩
  · have hsm := (pair_find hp kk).1
    rw [e] at hsm
    have hf : findA ns kk = none := by
      cases hf : findA ns kk with
      | none => rfl
      | some z => rw [hf] at hsm; cases hsm
    obtain ⟨o', es, ep, ho', _⟩ := id hm'
    exact ⟨dv, _, d_write I (by rw [hH]; exact True.intro) hsb ⟨_, ho'⟩ (dnO_new hs (pair_put hp p2) hm'), p2, q2 hf⟩
/-- what is asked behind the arguments of setdefault -/
def SetDefPost (X : Cx) (K : R → Mem → Prop) (q : Addr) (rs : List R) (m3 : Mem) : Prop := ∃ ks kvs rv, rs = [.dat (.tup (nDs ks)), rv] ∧ (NestedKey.tup ks).depth ≤ 8 ∧ kvs.length < 1000000 ∧ (∃ m4, Has m3 q (.dn X.prog X.w q kvs) m4) ∧
    (∀ r, valR kvs (.tup ks) = some r → K r m3) ∧ (valR kvs (.tup ks) = none → ∃ m4, Chg m3 q (.dn X.prog X.w q kvs) (.dn X.prog X.w q (putN kvs (.tup ks) rv)) m4 ∧ K rv m4)
theorem d_setdefN (L : Live X c k) (h : DE X c σ m o (fun ro m1 => ∃ q kvs0 m0, ro = .own q ∧ Has m1 q (.dn X.prog X.w q kvs0) m0 ∧ DA X c σ m1 [ke, e] (fun rs m3 => SetDefPost X K q rs m3)))
    (hbase : attributeBase o "setdefault" X.env (eval o X.env) = eval o X.env := by rfl)
    (hfew : ((backTo cpos (starEach [ke, e] X.env)).all (fun x => !x.1) && (backToKw cpos (keywordEach [] X.env)).all (fun x => x.1.isSome)
      && decide ([ke, e].length + ([] : List Keyword).length + (if ([] : List Keyword).isEmpty then 0 else 1) < 30)) = true := by rfl) (hline : (apos.endLine == cpos.line) = true := by rfl)
    (hst : starEach [ke, e] X.env = (false, eval ke X.env) :: starEach [e] X.env := by rfl) (hpl : (backTo cpos (starEach [e] X.env)).any (·.1) = false := by rfl) : DE X c σ m (.Call (.Attribute o "setdefault" apos) [ke, e] [] cpos) K :=
  fun pins s τ H G Q I E q => by
  refine wpAny_Call_method_late hbase hfew hline rfl (thn (h pins s τ H G (fun v H1 => ∃ ro m1 G1, Ex G G1 ∧ EnvOk X c σ m1 G1 τ H1 ∧ RelR X.K G1 ro v ∧ ∃ q kvs0 m0, ro = .own q ∧ Has m1 q (.dn X.prog X.w q kvs0) m0 ∧ DA X c σ m1 [ke, e] (fun rs m3 => SetDefPost X K q rs m3)) I E fun ro m1 G1 H1 v z x1 E1 rv => ⟨ro, m1, G1, x1, E1, rv, z⟩) fun v s1 ⟨x, H1, I1, r1, ro, m1, G1, x1, E1, rr, a, kvs0, m0, er, hh0, d⟩ => ?_)
  subst er
  cases rr
  obtain rfl : v = Value.ref a := r1
  obtain ⟨_, ho, hho, ro⟩ := E1.mem _ hh0.mem
  cases ro with | @dn _ _ _ _ ns rel =>
  obtain ⟨hs, ys, hp, ob, es, ep, hob, hx, _⟩ := dnO_of I1 E1.sub hho rel
  refine ⟨"dict", "dict.setdefault", PySem.F.plainAttrs_dict, PySem.F.slot_dict_setdefault, PySem.F.type_dict_setdefault, ⟨ob, hob, hx.1⟩, fun a' e => by cases e; exact ⟨ob, hob, hx.2.1⟩, ?_⟩
  have hA := d cpos pins s1 τ H1 G1 (fun vs H2 => ∃ rs m2 G2, Ex G1 G2 ∧ EnvOk X c σ m2 G2 τ H2 ∧ RelRs X.K G2 rs vs ∧ SetDefPost X K a rs m2) I1 E1 fun rs m2 G2 H2 vs z x2 E2 rvs => ⟨rs, m2, G2, x2, E2, rvs, z⟩
  rw [hst] at hA ⊢
  refine Calls.callWith_builtin (by show (false || (backTo cpos (starEach [e] X.env)).any (·.1)) = false; rw [hpl] <;> rfl) (Calls.evalArgs_plain ?_)
  refine thn hA fun us s2 ⟨vs, H2, I2, r2, rs, m2, G2, x2, E2, rvs, ks, kvs, rv, ers, hd, hl, ⟨m4, hh⟩, k1, k2⟩ => ?_
  subst ers
  cases rvs with | cons q1 rvs =>
  cases rvs with | @cons _ dv _ _ q2 rvs =>
  cases rvs
  obtain ⟨b, rfl, hk⟩ := keyAt_of hd q1
  obtain ⟨_, ho2, hho2, ro2⟩ := E2.mem _ hh.mem
  cases ro2 with | @dn _ _ _ _ ns2 rel2 =>
  refine mt_setdef L pins s2 τ H2 (.ref a) _ (.ref a) us Q I2 rfl r2 ⟨a, b, .tup ks, dv, ns2, G2, kvs, rfl, rfl, hho2, E2.sub, rel2, hk, hl, fun b2 v2 hf => ?_, fun hf => ?_⟩
  · have hsm : (valR kvs (.tup ks)).isSome = true := by rw [relN_some rel2, hf]; rfl
    cases hv : valR kvs (.tup ks) with
    | none => rw [hv] at hsm; cases hsm
    | some r =>
      obtain ⟨b3, v3, hf3, rv3⟩ := relN_val rel2 hv
      rw [hf] at hf3
      cases hf3
      exact q r m2 G2 H2 _ (k1 r hv) (x1.trans x2) E2 rv3
  · have hn : valR kvs (.tup ks) = none := by
      have := relN_some rel2 (.tup ks)
      rw [hf] at this
      cases hv : valR kvs (.tup ks) with
      | none => rfl
      | some r => rw [hv] at this; cases this
    obtain ⟨m5, hc, kz⟩ := k2 hn
    exact q rv m5 G2 _ dv kz (x1.trans x2) (E2.chg hc (.dn (relN_put rel2 hk q2))) q2
/-! ### sorted(d) -/
def rSortedN (X : Cx) : List V → Hp → VK → Prop := fun xs H Q => ∃ (a : Addr) (ns : List (NestedKey × Addr × V)) (G : Hp) (kvs : List (NestedKey × R)), xs = [.ref a] ∧ H a = some (dnO X.prog X.w a ns) ∧ Ex G H ∧ RelN X.K G kvs ns ∧
  PySem.W.AllAlike (kvs.map (·.1.data)) ∧ PySem.W.Sortable (kvs.map (·.1.data)) ∧ kvs.length ≤ 1000000 ∧
  ∀ p, H p = none → Q (.ref p) (L2.upd H p (.lst ((ns.mergeSort (PySem.W.dataLe false (·.1.data))).map fun y => .ref y.2.1)))
theorem call_sortedN (hu : X.A.units + 64 < cLine) (hcalm : X.calm = true) : CallR X (.builtin "sorted") (rSortedN X) := by
  intro pins s τ H xs us Q I r h
  obtain ⟨a, ns, G, kvs, ex, hH, sub, rel, hal, hso, hl, q⟩ := h
  subst ex
  obtain rfl := Vals.ref1 r
  obtain ⟨hs, ys, hp, dd⟩ := dnO_of I sub hH rel
  obtain ⟨es, ep, raw, hsz, hat⟩ := dd.raw
  have hlen : ns.length = ys.length := Paired.length hp
  have hkl := relN_len rel
  have hv : es.toList.map (·.key) = ns.map fun y => Value.ref y.2.1 := by
    refine List.ext_getElem (by rw [List.length_map, List.length_map, Array.length_toList, hsz, hlen]) fun i h1 h2 => ?_
    rw [List.getElem_map, List.getElem_map, Array.getElem_toList]
    have hi : i < es.size := by simpa using h1
    obtain ⟨y, hy, e1, _⟩ := hat i hi
    rw [e1]
    have hni : i < ns.length := by rw [hlen, ← hsz]; exact hi
    have pr : ∀ {ns : List (NestedKey × Addr × V)} {ys : List (NestedKey × Addr × Value)}, Paired PairN ns ys → ∀ {i : Nat} {y}, ys[i]? = some y → ∀ {z}, ns[i]? = some z → z.2.1 = y.2.1 := by
      intro ns ys hp
      induction hp with
      | nil => intro i y e; simp at e
      | cons h1 _ ih =>
        intro i y e z e2
        cases i with
        | zero => simp at e e2; subst e e2; exact h1.2.1
        | succ i => exact ih (by simpa using e) (by simpa using e2)
    rw [pr hp hy (List.getElem?_eq_getElem hni)]
  have e1 : ∀ {kvs : List (NestedKey × R)} {ns : List (NestedKey × Addr × V)}, RelN X.K G kvs ns → PySem.W.EachIs (fun u (y : NestedKey × Addr × V) => u = Value.ref y.2.1) (ns.map fun y => Value.ref y.2.1) ns ∧ PySem.W.EachIs (fun u (y : NestedKey × Addr × V) => ∃ as, Reads s.heap u y.1.data as) (ns.map fun y => Value.ref y.2.1) ns := by
    intro kvs ns rel
    induction rel with
    | nil => exact ⟨.nil, .nil⟩
    | cons h1 _ _ ih => exact ⟨.cons rfl ih.1, .cons (rep_reads I sub h1.1) ih.2⟩
  obtain ⟨g1, g2⟩ := e1 rel
  have hmap : kvs.map (·.1.data) = ns.map (·.1.data) := by
    clear g1 g2 hv hat q hal hso hl dd hH hp hlen hkl
    induction rel with
    | nil => rfl
    | cons _ _ _ ih => rw [List.map_cons, List.map_cons, ih]
  have hdep : ∀ y ∈ ns, y.1.data.depth ≤ 8 := by
    clear g1 g2 hv hat q hal hso hl dd hH hp hlen hkl hmap
    induction rel with
    | nil => intro y hy; cases hy
    | cons h1 _ _ ih =>
      intro y hy
      rcases List.mem_cons.mp hy with rfl | hy
      · rw [depth_key]; exact h1.2
      · exact ih y hy
  rw [hmap] at hal hso
  have h16 : (1000000 : Nat) ≤ sizeLine := by decide
  refine sorted_rawD (bs := ns) (enc := (·.1.data)) (RR := fun u (y : NestedKey × Addr × V) => u = Value.ref y.2.1) raw hs (I.ok.hd hcalm) (by omega) hv g1 g2 hal hso (by omega) (fun y hy => by have := hdep y hy; omega) fun hp' tk out kp eo => ?_
  have g3 : ∀ {ys : List (NestedKey × Addr × V)} {out : List Value}, PySem.W.EachIs (fun u (y : NestedKey × Addr × V) => u = Value.ref y.2.1) out ys → Vals (ys.map fun y => V.ref y.2.1) out := by
    intro ys
    induction ys with
    | nil => intro out r; cases r; exact .nil
    | cons y ys ih => intro out r; cases r with | cons p ps => exact .cons p (ih ps)
  have hlen2 : ((ns.mergeSort (PySem.W.dataLe false (·.1.data))).map fun y => V.ref y.2.1).length ≤ sizeLine := by
    rw [List.length_map, List.length_mergeSort]; omega
  have hat2 : (hp'.push (seqObj "list" (ns.map fun y => Value.ref y.2.1).toArray 0)).get? hp'.objs.size = some (seqObj "list" (ns.map fun y => Value.ref y.2.1).toArray 0) := Heap.get?_push_size _ rfl
  obtain ⟨cn, hcn⟩ := sortedHeap_at (vs := ns.map fun y => Value.ref y.2.1) (out := out.toArray) hat2
  have hg : s.heap.get? hp'.objs.size = none := by
    cases q0 : s.heap.get? hp'.objs.size with
    | none => rfl
    | some u => exact absurd (Heap.lt_size (kp _ _ q0)) (Nat.lt_irrefl _)
  have hn : H hp'.objs.size = none := HOk.fresh (HOk.kept I.hok kp) (Nat.le_refl _)
  exact ⟨.ref hp'.objs.size, _, L2.Inv.laidN I (a := hp'.objs.size) (o := .lst ((ns.mergeSort (PySem.W.dataLe false (·.1.data))).map fun y => .ref y.2.1)) (t' := tk) (fun b o e => by
    have hb := kp b o e
    rw [sortedHeap_old (Nat.ne_of_lt (Heap.lt_size hb)) (by rw [size_push']; exact Nat.lt_succ_of_lt (Heap.lt_size hb))]
    exact Heap.get?_push_of_some _ hb) hg hn ⟨hlen2, out, cn, g3 eo, hcn⟩, rfl, q _ hn⟩
theorem d_sortedN (L : Live X c k) (hg : Gl X "sorted") (hm : X.mg "sorted" = none)
    (h : DE X c σ m e (fun r m1 => ∃ a kvs m2, r = .own a ∧ Has m1 a (.dn X.prog X.w a kvs) m2 ∧ PySem.W.AllAlike (kvs.map (·.1.data)) ∧ PySem.W.Sortable (kvs.map (·.1.data)) ∧ kvs.length ≤ 1000000 ∧
      ∀ p, K (.own p) ((p, .lst (((kvs.map (·.1)).mergeSort (PySem.W.dataLe false NestedKey.data)).map rN)) :: m1)))
    (hst : starEach [e] X.env = (false, eval e X.env) :: starEach [] X.env := by rfl) : DE X c σ m (.Call (.Name "sorted" px) [e] [] pos) K :=
  de_callB (call_sortedN L.room.units L.calm) hg hm (by decide +kernel) (da_cons (h.imp fun r m1 ⟨a, kvs, m2, er, hh, hal, hso, hl, z⟩ => da_nil fun τ H G vs Q E rv q => by
    subst er
    obtain ⟨v, rfl, r1⟩ := one_of rv
    cases r1
    obtain ⟨_, ho, hho, ro⟩ := E.mem _ hh.mem
    cases ro with | @dn _ _ _ _ ns rel =>
    refine ⟨a, ns, G, kvs, rfl, hho, E.sub, rel, hal, hso, hl, fun p hp' => ?_⟩
    have all : ∀ {kvs : List (NestedKey × R)} {ns : List (NestedKey × Addr × V)}, RelN X.K G kvs ns → kvs.map (·.1) = ns.map (·.1) ∧ ∀ y ∈ ns, RelR X.K G (rN y.1) (.ref y.2.1) := by
      intro kvs ns rel
      induction rel with
      | nil => exact ⟨rfl, fun y hy => by cases hy⟩
      | cons h1 _ _ ih =>
        refine ⟨by rw [List.map_cons, List.map_cons, ih.1], fun y hy => ?_⟩
        rcases List.mem_cons.mp hy with rfl | hy
        · exact .dat h1.1
        · exact ih.2 y hy
    obtain ⟨a1, a2⟩ := all rel
    have srt : ((kvs.map (·.1)).mergeSort (PySem.W.dataLe false NestedKey.data)) = (ns.mergeSort (PySem.W.dataLe false (·.1.data))).map (·.1) := by
      rw [a1]
      have q1 : (ns.mergeSort (PySem.W.dataLe false (·.1.data))).map (fun y => y.1) = (ns.map (fun y => y.1)).mergeSort (PySem.W.dataLe false NestedKey.data) := List.map_mergeSort fun _ _ _ _ => rfl
      exact q1.symm
    have rl : ∀ {l : List (NestedKey × Addr × V)}, (∀ y ∈ l, RelR X.K G (rN y.1) (.ref y.2.1)) → RelRs X.K G ((l.map (·.1)).map rN) (l.map fun y => .ref y.2.1) := fun {l} hl => by
      induction l with
      | nil => exact .nil
      | cons y l ih => exact .cons (hl y List.mem_cons_self) (ih fun w hw => hl w (List.mem_cons_of_mem _ hw))
    have R1 := rl (l := ns.mergeSort (PySem.W.dataLe false (·.1.data))) fun y hy => a2 y ((List.mergeSort_perm _ _).mem_iff.mp hy)
    rw [← srt] at R1
    exact q _ _ G _ _ (z p) (Ex.refl G) (E.new hp' (.lst R1)) .own) hst) (he := hst)
end
end D2
/-! ## D2MkF -/
set_option pp.maxSteps 1500
/-! an own exception class whose message is f'.. {y} ..' of a whole number -/
namespace D2
open PySem PySem.Spec PyProof.Rows L2 NdefX
section
variable {P : Program} {w : World} {K : PySem.W.Frag} {mg : Str → Option Value} {base : Heap} {d : IniD} {C : Addr} {y : Str}
def SmallI (vs : List V) : Prop := ∃ i : Int, vs = [V.int i] ∧ -1000000 ≤ i ∧ i ≤ 1000000
theorem IniOk.mkcF {pl : Env → Sem Bool} {ar : Arg} {m1 m2 : Str} {k1 k2 : Nat} {p0 p1 p2 p3 p4 p5 p6 p7 p8 p9 q1 q2 q3 q4 : Pos} (I : IniOk P K d C) (hg : mg d.cls = some (.ref C)) (hm : mg "super" = none) (S : nscB ["self", y, "__class__"] ["self", y] ["__class__"] (defScope d.st) = true)
    (hy : ((defArgs d.st).posonlyargs ++ (defArgs d.st).args).head? = some ar) (hy2 : ar.arg = "self") (hsu : (defScope d.st).names.lookup ("super" : Str) = some .globalImplicit) (hvy : (defScope d.st).names.lookup y = some .local)
    (hbd : defBody d.st = [.Expr (.Call (.Attribute (.Call (.Name "super" p0) [] [] p1) "__init__" p2) [.JoinedStr [.Constant (.str m1) k1 p5, .FormattedValue (.Name y p6) (-1) none p7, .Constant (.str m2) k2 p8] p9] [] p3) p4, .Assign [.Attribute (.Name "self" q1) d.fld q2] (.Name y q3) q4])
    (hev : ∀ env : Env, eval (.Call (.Attribute (.Call (.Name "super" p0) [] [] p1) "__init__" p2) [.JoinedStr [.Constant (.str m1) k1 p5, .FormattedValue (.Name y p6) (-1) none p7, .Constant (.str m2) k2 p8] p9] [] p3) env = (do
      let ov ← attributeBase (.Call (.Name "super" p0) [] [] p1) "__init__" env (eval (.Call (.Name "super" p0) [] [] p1) env)
      standAt p2.atName
      let (f, first) ← holding [ov] (getMethod ov "__init__" (pl env))
      callWith p3 f first (backTo p3 (starEach [.JoinedStr [.Constant (.str m1) k1 p5, .FormattedValue (.Name y p6) (-1) none p7, .Constant (.str m2) k2 p8] p9] env)) []))
    (hyd : (y == ("__debug__" : Str)) = false ∧ (y == ("__classdict__" : Str)) = false) (hl1 : m1.length ≤ 1000) (hl2 : m2.length ≤ 1000)
    (hb : ∀ (cl : List (Str × Addr)) (c : Addr) (doc pm ctv : Value) (us : List Value), us.length = 2 → bindArgs (PySem.W.fnX "__init__" d.qual (defArgs d.st) (defBody d.st) (defScope d.st) cl .none .none doc pm none (.ref c) ctv) ⟨us, []⟩ = pure (([("self" : Str), y]).zip us)) : MkC P w K mg base d.cls C 1 1 [(d.fld, 0)] SmallI := by
  obtain ⟨f, F, fd, D, h1, h2⟩ := I.sup
  refine ⟨hg, I.oex, f, fd, ["self", y], h1, h2, ?_, ?_⟩
  · refine ini1 D (nscope_by S) hy hy2 hsu hm hbd I.no hev (fun env => rfl) (fun env => rfl) hyd fun A0 outer s H Q E a v hr ⟨i, ei, hi1, hi2⟩ => ?_
    cases ei
    have v1 : Vis (ncx (L2N.CX P w) P w K mg base ["self", y, "__class__"] F f A0 outer s H E).env.scope y := .inl (by show F.scope.names.lookup _ = _; rw [D.nf.2.2.2.2]; exact hvy)
    refine ⟨_, pe_joined (.cons pe_str (.cons (pe_fmt (pe_var (i := 1) rfl v1 hyd.1 hyd.2)) (.cons pe_str .nil))), fun Q' h => ?_⟩
    have hlog : i.natAbs.log2 < 1920 := by
      by_cases h0 : i.natAbs = 0
      · rw [h0]; decide
      · rw [Nat.log2_lt h0]
        exact Nat.lt_of_le_of_lt (by omega : i.natAbs ≤ 1000000) (by decide +kernel)
    have hlen := int_text_len_1921 hlog
    have ha : ∀ a b : Str, (a ++ b).length = a.length + b.length := fun a b => by
      show (a.cps ++ b.cps).size = a.cps.size + b.cps.size
      simp
    have h0 : Str.empty.length = 0 := rfl
    have hs : 1000000 ≤ sizeLine := by decide
    exact ⟨m1, rfl, by rw [ha, h0]; omega, V.int i, rfl, .inr ⟨i, rfl, hlog, _, rfl, by rw [ha, ha, h0]; omega, m2, rfl, by rw [ha, ha, ha, h0]; omega, h _⟩⟩
  · obtain ⟨doc, pm, ctv, rfl⟩ := D.fd
    obtain ⟨n1, n2, n3, n4, n5⟩ := D.nf
    refine Binds.all fun us hl => ?_
    have z := hb F.cl F.c doc pm ctv us hl
    show bindArgs (PySem.W.fnX F.name F.qual F.params F.body F.scope F.cl .none .none doc pm none (.ref F.c) ctv) ⟨us, []⟩ = _
    rw [n1, n2, n3, n4, n5]
    exact z
end
end D2
/-! ## D2KwOf -/
set_option pp.maxSteps 1500
/-! defs with keyword-only parameters, from the head's facts -/
namespace D2
open PySem PySem.Spec PyProof.Rows L2
section
variable {P : Program} {w : World} {K : PySem.W.Frag} {mg : Str → Option Value} {base : Heap} {x qual : Str} {params : Arguments} {body : List Stmt} {scope : Scope} {f : Addr} {fd : FuncData} {k : Nat} {ps : List Str} {kws : List (Str × V)} {S : Sp2}
theorem calleeK_of (F : FunD K x qual params body scope [] kws f fd) (g : mg x = some (.ref f)) (ok : FnOk P w K mg base (L2N.CX P w) k f fd ps (spOf K S)) (hk : kws ≠ []) (n : Nat) (ks : List Str)
    (h : ∀ (D : Addr) (doc pm : Value) (an : Option Addr) (cdv ct : Value) (us ws : List Value), us.length = n → ws.length = ks.length → bindArgs (PySem.W.fnOf x qual params body scope .none (.ref D) doc pm an cdv ct) ⟨us, ks.zip ws⟩ = pure (ps.zip (us ++ ws))) : CalleeK P w K mg base x k n ks (fun rs zs => rs ++ zs) S := by
  obtain ⟨mv, hb⟩ := F.kbinds0 n ks [] (fun us mz ws => us ++ ws) hk (fun q hq => by cases hq) (fun h1 h2 h3 => h1.append h3) fun D doc pm an cdv ct us mv ws l1 l2 l3 => by
    cases mv with
    | nil => exact h D doc pm an cdv ct us ws l1 l3
    | cons a b => cases l2
  exact ⟨f, fd, ps, _, _, g, F.kp, hb, ok, fun G rs zs vs ws l1 l2 r1 r2 => r1.append r2⟩
theorem calleeD_of {drs : List R} (F : FunD K x qual params body scope [] kws f fd) (g : mg x = some (.ref f)) (ok : FnOk P w K mg base (L2N.CX P w) k f fd ps (spOf K S)) (hk : kws ≠ []) (n : Nat) (hn : n + kws.length = ps.length)
    (h : ∀ (D : Addr) (doc pm : Value) (an : Option Addr) (cdv ct : Value) (us ks : List Value), us.length = n → ks.length = kws.length → KwChain D ((kws.map (·.1)).zip ks) (bindArgs (PySem.W.fnOf x qual params body scope .none (.ref D) doc pm an cdv ct) ⟨us, []⟩) (ps.zip (us ++ ks)))
    (hd : ∀ G : Hp, RelRs K G drs (kws.map (·.2))) : CalleeD P w K mg base x k drs S := by
  obtain ⟨ds, hv, hb⟩ := F.binds0 n hk hn h
  exact ⟨f, fd, ps, ds, _, g, F.kp, hb, hv, ok, hd⟩
/-- a def with positional defaults, all left out -/
theorem calleeP_of {drs : List R} {dvs : List V} (F : FunD K x qual params body scope dvs kws f fd) (g : mg x = some (.ref f)) (ok : FnOk P w K mg base (L2N.CX P w) k f fd ps (spOf K S)) (hd : dvs ≠ []) (n : Nat) (hn : n + dvs.length = ps.length)
    (h : ∀ (T : Addr) (kV doc pm : Value) (an : Option Addr) (cdv ct : Value) (us its : List Value), us.length = n → its.length = dvs.length →
      ∃ k, bindArgs (PySem.W.fnOf x qual params body scope (.ref T) kV doc pm an cdv ct) ⟨us, []⟩ = seqItems? (.ref T) >>= k ∧ k (some its.toArray) = pure (ps.zip (us ++ its)))
    (hr : ∀ G : Hp, RelRs K G drs dvs) : CalleeD P w K mg base x k drs S := by
  obtain ⟨ds, hv, hb⟩ := F.binds1 n 0 hd (by rw [Nat.sub_zero]; exact hn) fun T kV doc pm an cdv ct us its l1 l2 => by
    rw [List.drop_zero]
    exact h T kV doc pm an cdv ct us its l1 l2
  rw [List.drop_zero] at hv
  exact ⟨f, fd, ps, ds, _, g, F.kp, hb, hv, ok, hr⟩
end
/-- a constant tuple of strs -/
theorem tupG_of {K : PySem.W.Frag} {mg : Str → Option Value} {x : Str} {ss : List (List Nat)} (g : mg x = some (.ref (He.ga K x))) (h : He.tupB K x (ss.map fun s => He.Dv.str (sOf s)) = true) : TupG K mg x ss := by
  refine ⟨_, g, fun H => ?_⟩
  have := He.tupB_ok h H
  rwa [List.map_map] at this
end D2
/-! ## D2Chain -/
/-! a < b < c -/
namespace D2
open PySem PySem.Spec PyProof.Rows L2
section
variable {X : Cx} {c : Ct} {σ : Sl} {m : Mem} {a b e3 : Expr} {pos : Pos}
/-- a < b < c of ints, as a test -/
theorem dt_chainI {op op' : CmpOp} {g g' : Int → Int → Bool} {K : Bool → Mem → Prop} (ho : OpR X (compareOp op) (L2.rI0 fun i j => .bl (g i j))) (ho' : OpR X (compareOp op') (L2.rI0 fun i j => .bl (g' i j)))
    (h : DE X c σ m a (fun r1 m1 => ∃ i, r1 = rI i ∧ DE X c σ m1 b (fun r2 m2 => ∃ j, r2 = rI j ∧ ((g i j = true → DE X c σ m2 e3 (fun r3 m3 => ∃ k, r3 = rI k ∧ K (g' j k) m3)) ∧ (g i j = false → K false m2)))))
    (hm : lastMarks [op, op'] [b, e3] = false := by with_unfolding_all rfl) : DT X c σ m (.Compare a [op, op'] [b, e3] pos) K :=
  fun wh pins s τ H G Q hw I E k => by
    subst hw
    refine (pt_chain ho ho' (pe_t (c := c)) (pe_t (c := c)) (pe_t (c := c)) hm).run pins s τ H Q I ⟨σ, m, G, _, E, h, fun r1 m1 G1 H1 v ⟨i, e, z⟩ x1 E1 rv => ⟨σ, m1, G1, _, E1, z, fun r2 m2 G2 H2 v2 ⟨j, e2, zt, zf⟩ x2 E2 rv2 => ?_⟩⟩
    subst e e2
    cases int_of rv
    cases int_of rv2
    refine ⟨i, j, rfl, rfl, g i j, rfl, ?_⟩
    cases hg : g i j with
    | false =>
      rw [if_neg (by decide)]
      exact ⟨false, rfl, k _ _ _ _ (zf hg) (x1.trans x2) E2⟩
    | true =>
      rw [if_pos rfl]
      refine ⟨σ, m2, G2, _, E2, zt hg, fun r3 m3 G3 H3 v3 ⟨kk, e3, z3⟩ x3 E3 rv3 => ?_⟩
      subst e3
      cases int_of rv3
      exact ⟨j, kk, rfl, rfl, g' j kk, rfl, k _ _ _ _ z3 ((x1.trans x2).trans x3) E3⟩
end
end D2
/-! ## D2MaxD -/
set_option pp.maxSteps 1500
/-! max(a list of whole numbers, default=d), the list may be empty -/
namespace D2
open PySem PySem.Spec PyProof.Rows L2
section
variable {X : Cx} {c : Ct} {σ : Sl} {m : Mem} {k : Nat} {K : R → Mem → Prop} {o e e2 : Expr} {apos cpos p pos kpos : Pos}
theorem call_maxD2 (hc : X.calm = true) (hu : X.A.units + 64 < cLine) : CallRK X (.builtin "max") [("default" : Str)] (fun xs zs H Q => ∃ (a : Addr) (ns : List Int) (d : Int), xs = [.ref a] ∧ zs = [.int d] ∧ SqL X.K H a (ns.map V.int) ∧ ∀ M, (ns = [] → M = d) → (ns ≠ [] → M ∈ ns ∧ ∀ y ∈ ns, y ≤ M) → Q (.int M) H) := by
  intro pins s τ H xs zs us ws Q I r rz ⟨a, ns, d, ex, ez, hS, q⟩
  subst ex ez
  obtain ⟨u, eu, rx⟩ := vals1 r
  subst eu
  cases rx
  obtain ⟨dv, ed, rd⟩ := vals1 rz
  subst ed
  obtain ⟨its, rv, pl, hz⟩ := I.list hS
  obtain ⟨as, rr⟩ := Dp.readsAll I _ _ _ (dp_ints ns) rv
  have hd : PyData.depthAll (ns.map PyData.int) = 0 := PySem.W.depth_ints ns
  refine PySem.W.max_list_default (xs := ns.map PyData.int) (I.ok.hd hc) pl.isList (by simpa using rr) ⟨fun x hx y hy => ?_, fun x hx => ?_⟩ (by rw [hd]; omega) (fun e h' tk hk => ⟨.int d, H, I.kept (t' := tk) hk, rd, q d (fun _ => rfl) fun z => absurd (List.map_eq_nil_iff.mp e) z⟩) fun y ys i v h' tk bs ey hv hr hk => ?_
  · obtain ⟨i, _, rfl⟩ := List.mem_map.mp hx
    obtain ⟨j, _, rfl⟩ := List.mem_map.mp hy
    rfl
  · obtain ⟨i, _, rfl⟩ := List.mem_map.mp hx
    exact fun z => by cases z
  · cases ns with
    | nil => cases ey
    | cons n ns =>
      rw [List.map_cons] at ey
      cases ey
      rw [PySem.W.maxD_ints] at hr
      cases hr with | int M t =>
      obtain ⟨h1, h2⟩ := foldl_max n ns
      exact ⟨.int _, H, I.kept (t' := tk) hk, ⟨_, rfl⟩, q _ (fun z => by cases z) fun _ => ⟨h1, h2⟩⟩
theorem de_maxD2 (L : Live X c k) (hg : Gl X "max") (hm : X.mg "max" = none) (h : DE X c σ m e (fun r m1 => DE X c σ m1 e2 (fun r2 m2 => ∃ (ns : List Int) (d : Int), VI m2 r ns ∧ r2 = rI d ∧ ∀ M, (ns = [] → M = d) → (ns ≠ [] → M ∈ ns ∧ ∀ y ∈ ns, y ≤ M) → K (rI M) m2)))
    (he : backTo pos (starEach [e] X.env) = (false, eval e X.env) :: backTo pos (starEach [] X.env) := by rfl) (hst : starEach [e] X.env = (false, eval e X.env) :: starEach [] X.env := by rfl) (hpl : (backTo pos (starEach [e] X.env)).any (·.1) = false := by rfl)
    (hall : (backToKw pos (keywordEach [⟨some "default", e2, kpos⟩] X.env)).all (·.1.isSome) = true := by rfl) (hnone : (backToKw pos (keywordEach [⟨some "default", e2, kpos⟩] X.env)).any (·.1.isNone) = false := by rfl) (hks : (backToKw pos (keywordEach [⟨some "default", e2, kpos⟩] X.env)).filterMap (·.1) = ([("default" : Str)] : List Str) := by rfl) :
    DE X c σ m (.Call (.Name "max" p) [e] [⟨some "default", e2, kpos⟩] pos) K := by
  refine de_of (pe_callBK (call_maxD2 L.calm (by have := L.room.units; omega)) hg hm (by decide +kernel) (pa_cons (pe_t (c := c)) pa_nil hst) (pk_cons (pe_t (c := c)) pk_nil) (he := he) (hpl := hpl) (hall := hall) (hnone := hnone) (hks := hks)) fun τ H G Q E q => ?_
  refine ⟨σ, m, G, _, E, h, fun r m1 G1 H1 v d x1 E1 rv => ⟨σ, m1, G1, _, E1, d, fun r2 m2 G2 H2 v2 ⟨ns, d, hv, e2, z⟩ x2 E2 rv2 => ?_⟩⟩
  subst e2
  cases int_of rv2
  obtain ⟨a, us, rfl, hs, rr⟩ := VL.at hv E2 (rv.mono x2)
  have eu : us = ns.map V.int := by
    clear z hs hv
    induction ns generalizing us with
    | nil => cases rr; rfl
    | cons n ns ih =>
      cases rr with | cons h1 h2 =>
      cases int_of h1
      rw [ih _ h2]; rfl
  subst eu
  exact ⟨a, ns, d, rfl, rfl, hs, fun M h1 h2 => q _ m2 G2 H2 _ (z M h1 h2) (x1.trans x2) E2 (.dat .int)⟩
end
end D2
/-! ## D2Dc -/
/-! a dict of the module, texts to texts: dict(X) -/
namespace D2
open PySem PySem.Spec PyProof.Rows L2
theorem txtO_of {v : Value} {x : Str} (h : txtO v = some x) : ∃ t, v = .str x t := by
  unfold txtO at h
  split at h
  · cases h; exact ⟨_, rfl⟩
  · cases h
structure DicK (K : PySem.W.Frag) (w : World) (a : Addr) (es : Array DictEntry) (n : Nat) (kvs : Tab2) : Prop where
  k : KDict K w a es n
  e : es.toList.map (fun e => (txtO e.key, txtO e.val)) = kvs.map fun q => (some (sOf q.1), some (sOf q.2))
  nd : (kvs.map fun q => (Sum.inr (sOf q.1) : Key)).Nodup
  sm : kvs.length ≤ sizeLine
def DicG (K : PySem.W.Frag) (w : World) (mg : Str → Option Value) (x : Str) (kvs : Tab2) : Prop := ∃ a es n, mg x = some (.ref a) ∧ DicK K w a es n kvs
theorem dicG_of {K : PySem.W.Frag} {w : World} {mg : Str → Option Value} {x : Str} {kvs : Tab2} (g : mg x = some (.ref (He.ga K x))) (h : ∃ es n, KDict K w (He.ga K x) es n) (he : entB K (He.ga K x) kvs = true)
    (nd : (kvs.map fun q => (Sum.inr (sOf q.1) : Key)).Nodup := by decide +kernel) (sm : kvs.length ≤ sizeLine := by decide) : DicG K w mg x kvs := by
  obtain ⟨es, n, k⟩ := h
  refine ⟨_, es, n, g, k, ?_, nd, sm⟩
  unfold entB at he
  rw [k.at_] at he
  exact of_decide_eq_true he
def kvT (kvs : Tab2) : List (Key × R) := kvs.map fun q => (Sum.inr (sOf q.1), rS q.2)
theorem dic_pairs {P : Program} {w : World} : ∀ {es : List DictEntry} {kvs : Tab2}, PySem.W.KeysLit w.params es → es.map (fun e => (txtO e.key, txtO e.val)) = kvs.map (fun q => (some (sOf q.1), some (sOf q.2))) →
    ∃ vs : List (Key × Value), Pairs (mixKind P w) es vs ∧ KV (kvs.map fun q => ((Sum.inr (sOf q.1) : Key), V.str (sOf q.2))) vs ∧ vs.map (·.1) = kvs.map (fun q => (Sum.inr (sOf q.1) : Key)) ∧ ∀ e ∈ es, ∃ k, (mixKind P w).is k e.key = true ∧ e.hash = (mixKind P w).hash k
  | [], [], _, _ => ⟨[], .nil, .nil, rfl, fun e h => by cases h⟩
  | e :: es, [], _, h => by cases h
  | [], q :: kvs, _, h => by cases h
  | e :: es, q :: kvs, ⟨⟨x, t, e1, e2⟩, hr⟩, h => by
    rw [List.map_cons, List.map_cons] at h
    injection h with h1 h2
    obtain ⟨h3, h4⟩ := Prod.mk.inj h1
    obtain ⟨vs, a, b, c, d⟩ := dic_pairs (P := P) hr h2
    obtain ⟨t2, ev⟩ := txtO_of h4
    have hx : x = sOf q.1 := by rw [e1] at h3; exact Option.some.inj h3
    subst hx
    refine ⟨(Sum.inr (sOf q.1), e.val) :: vs, .cons ?_ rfl a, .cons ⟨rfl, t2, ev⟩ b, by rw [List.map_cons, List.map_cons, c], fun e' he => ?_⟩
    · show keyIs (Sum.inr (sOf q.1)) e.key = true
      rw [e1]
      exact strKind_is P w _ t
    · rcases List.mem_cons.mp he with rfl | he
      · refine ⟨Sum.inr (sOf q.1), ?_, e2⟩
        show keyIs (Sum.inr (sOf q.1)) e'.key = true
        rw [e1]
        exact strKind_is P w _ t
      · exact d e' he
theorem DicK.of {P : Program} {w : World} {K : PySem.W.Frag} {a : Addr} {es : Array DictEntry} {n : Nat} {kvs : Tab2} {h : Heap} (D : DicK K w a es n kvs) (X : K.In h) :
    ∃ vs, KV (kvs.map fun q => ((Sum.inr (sOf q.1) : Key), V.str (sOf q.2))) vs ∧ h.DictOf (mixKind P w) a vs := by
  obtain ⟨vs, a1, b1, c1, d1⟩ := dic_pairs (P := P) D.k.lit D.e
  refine ⟨vs, b1, _, es, n, X _ _ D.k.at_, ⟨rfl, rfl, rfl⟩, rfl, fun e he => d1 e (Array.mem_toList_iff.mpr he), a1, by rw [c1]; exact D.nd⟩
section
variable {X : Cx} {c : Ct} {σ : Sl} {m : Mem} {x : Str} {K : R → Mem → Prop} {px p pos : Pos}
/-- dict(x), x a dict of the module -/
theorem call_dictK {a : Addr} {es : Array DictEntry} {n : Nat} {kvs : Tab2} (D : DicK X.K X.w a es n kvs) : CallR X (.type "dict") (fun xs H Q => xs = [.ref a] ∧ ∀ p, H p = none → Q (.ref p) (upd H p (.dK (kvs.map fun q => ((Sum.inr (sOf q.1) : Key), V.str (sOf q.2)))))) := by
  intro pins s σ H xs us Q I r q
  obtain ⟨ex, q⟩ := q
  subst ex
  obtain ⟨u, eu, rx⟩ := vals1 r
  subst eu
  cases rx
  obtain ⟨vs, rel, dd⟩ := D.of (P := X.prog) I.kIn
  have z : (kvs.map fun q => ((Sum.inr (sOf q.1) : Key), V.str (sOf q.2))).length ≤ sizeLine := by rw [List.length_map]; exact D.sm
  refine kt_call_dict D.k.low dd (by rw [← rel.length]; exact z) fun h' d' hs => ?_
  have hm : (s.heap.objs.size == sysModules) = false := beq_eq_false_iff_ne.mpr (Nat.ne_of_gt I.big)
  exact ⟨.ref s.heap.objs.size, upd H s.heap.objs.size (.dK (kvs.map fun q => ((Sum.inr (sOf q.1) : Key), V.str (sOf q.2)))), I.laid (t' := s.toks) (fun b u e => (hs.2 b (Nat.ne_of_lt (Heap.lt_size e))).trans (Heap.get?_push_of_some _ e)) (Nat.le_refl _)
    (show ObjOk X.prog X.w _ _ _ (.dK (kvs.map fun q => ((Sum.inr (sOf q.1) : Key), V.str (sOf q.2)))) from ⟨z, hm, vs, rel, d'⟩), rfl, q _ (I.hok.fresh (Nat.le_refl _))⟩
theorem de_rawG {v : Value} {u : V} (hg : Gl X x) (hm : X.mg x = some v) (ru : RelV u v) (kk : K (.dat (.raw u)) m) (hd : (x == ("__debug__" : Str)) = false := by decide) : DE X c σ m (.Name x px) K :=
  de_of (pe_glob (v := u) hg hm ru hd) fun τ H G Q E q => q.now kk E (.dat .raw)
theorem relK_T {Kf : PySem.W.Frag} {G : Hp} : ∀ kvs : Tab2, RelK Kf G (kvT kvs) (kvs.map fun q => ((Sum.inr (sOf q.1) : Key), V.str (sOf q.2)))
  | [] => .nil
  | q :: kvs => .cons (.dat .str) (relK_T kvs)
theorem d_dictC {kvs : Tab2} (hg : Gl X "dict") (hm : X.mg "dict" = none) (hg2 : Gl X x) (D : DicG X.K X.w X.mg x kvs) (kk : ∀ q, K (.own q) ((q, .dk (kvT kvs)) :: m)) (hd : (x == ("__debug__" : Str)) = false := by decide)
    (hst : starEach [.Name x px] X.env = (false, eval (.Name x px) X.env) :: starEach [] X.env := by rfl) : DE X c σ m (.Call (.Name "dict" p) [.Name x px] [] pos) K := by
  obtain ⟨a, es, n, hx, D⟩ := D
  refine de_callT (call_dictK D) hg hm (by decide +kernel) (da_cons (de_rawG (u := .ref a) hg2 hx rfl (da_nil ?_) hd) hst) (he := hst)
  intro τ H G vs Q E rv q
  obtain ⟨v, rfl, r1⟩ := one_of rv
  cases r1 with | dat r1 =>
  cases r1
  exact ⟨rfl, fun l hl => q _ _ _ _ _ (kk l) (Ex.refl G) (E.new hl (.dk (relK_T kvs))) .own⟩
end
end D2
/-! ## D2Non -/
/-! is None, s in a list of texts -/
namespace D2
open PySem PySem.Spec PyProof.Rows L2
section
variable {X : Cx} {c : Ct} {σ : Sl} {m : Mem} {K : R → Mem → Prop}
theorem o_isNon (k : K (rB true) m) : OP X c σ m (compareOp .Is) (.dat .non) (.dat .non) K := fun pins s τ H G v1 v2 u1 u2 Q I E q1 q2 rx ry q => by
  cases q1 with | dat q1 => cases q2 with | dat q2 =>
  cases q1; cases q2
  cases (show u1 = Value.none from rx)
  cases (show u2 = Value.none from ry)
  exact wpAny_is_self rfl ⟨.bl true, H, I, rfl, q.now k E (.dat .bl)⟩
theorem o_isnNon (k : K (rB false) m) : OP X c σ m (compareOp .IsNot) (.dat .non) (.dat .non) K := fun pins s τ H G v1 v2 u1 u2 Q I E q1 q2 rx ry q => by
  cases q1 with | dat q1 => cases q2 with | dat q2 =>
  cases q1; cases q2
  cases (show u1 = Value.none from rx)
  cases (show u2 = Value.none from ry)
  exact wpAny_isNot_self rfl ⟨.bl false, H, I, rfl, q.now k E (.dat .bl)⟩
theorem o_isNonI {i : Int} (k : K (rB false) m) : OP X c σ m (compareOp .Is) (rI i) (.dat .non) K := fun pins s τ H G v1 v2 u1 u2 Q I E q1 q2 rx ry q => by
  cases q1 with | dat q1 => cases q2 with | dat q2 =>
  cases q1; cases q2
  obtain ⟨t, ht, rfl⟩ := rx
  cases (show u2 = Value.none from ry)
  exact wpAny_is_other rfl (fun z => by cases z) ⟨.bl false, H, I, rfl, q.now k E (.dat .bl)⟩
theorem o_isnNonI {i : Int} (k : K (rB true) m) : OP X c σ m (compareOp .IsNot) (rI i) (.dat .non) K := fun pins s τ H G v1 v2 u1 u2 Q I E q1 q2 rx ry q => by
  cases q1 with | dat q1 => cases q2 with | dat q2 =>
  cases q1; cases q2
  obtain ⟨t, ht, rfl⟩ := rx
  cases (show u2 = Value.none from ry)
  exact wpAny_isNot_other rfl (fun z => by cases z) ⟨.bl true, H, I, rfl, q.now k E (.dat .bl)⟩
theorem o_inL {kk : Nat} {k : NestedKey} {ks : List NestedKey} {r2 : R} (L : Live X c kk) (hd : k.depth ≤ 60) (hv : VL m r2 ((nDs ks).map .dat)) (z : K (rB (decide (k ∈ ks))) m) : OP X c σ m (compareOp .In) (rN k) r2 K := fun pins s τ H G v1 v2 u1 u2 Q I E q1 q2 rx ry q => by
  obtain ⟨as, a1⟩ := Dp.reads I k.data v1 u1 ((pv_nD m k).dp E q1) rx
  obtain ⟨bs, a2⟩ := Dp.reads I (.list (NestedKey.datas ks)) v2 u2 (PV.dp E (PV.lst hv (pvs_nD m ks)) q2) ry
  refine SeqAt.in_list_data a2 a1 (plain_keys ks) (plain_key k) (by have := L.room.units; have := depth_key k; have := Nat.min_le_right (PyData.depthAll (NestedKey.datas ks)) k.data.depth; omega) ⟨.bl _, H, I, rfl, ?_⟩
  rw [any_key]
  exact q.now z E (.dat .bl)
theorem txt_mem {s : List Nat} {ss : List (List Nat)} : decide (NestedKey.text (sOf s) ∈ ss.map fun t => NestedKey.text (sOf t)) = decide (s ∈ ss) := by
  rw [Bool.eq_iff_iff, decide_eq_true_eq, decide_eq_true_eq, List.mem_map]
  constructor
  · rintro ⟨t, ht, e⟩
    have e2 : sOf t = sOf s := NestedKey.text.inj e
    have e3 : t = s := by rw [← lit_sOf t, e2, lit_sOf]
    rw [← e3]; exact ht
  · intro h
    exact ⟨s, h, rfl⟩
theorem o_inLS {kk : Nat} {s : List Nat} {ss : List (List Nat)} {r2 : R} (L : Live X c kk) (hv : VL m r2 (ss.map rS)) (z : K (rB (decide (s ∈ ss))) m) : OP X c σ m (compareOp .In) (rS s) r2 K := by
  have h : OP X c σ m (compareOp .In) (rN (.text (sOf s))) r2 K := o_inL (ks := ss.map fun t => NestedKey.text (sOf t)) L (by rw [NestedKey.depth]; omega) (by
    rw [nDs_map, List.map_map, List.map_map]
    exact hv) (by rw [txt_mem]; exact z)
  exact h
end
end D2
/-! ## D2Cat -/
/-! list + list, any of them read only -/
namespace D2
open PySem PySem.Spec PyProof.Rows L2
theorem op_catL {X : L2.Cx} : OpR X (binaryOp .Add) (fun x y H Q => ∃ l b xs zs, x = .ref l ∧ y = .ref b ∧ SqL X.K H l xs ∧ SqL X.K H b zs ∧ xs.length + zs.length ≤ sizeLine ∧ ∀ p, H p = none → Q (.ref p) (upd H p (.lst (xs ++ zs)))) := by
  intro pins s σ H x y v u Q I rx ry h
  obtain ⟨l, b, xs, zs, rfl, rfl, hH, hB, hz, q⟩ := h
  cases rx
  cases ry
  obtain ⟨its, r, hl, _⟩ := I.list hH
  obtain ⟨its2, r2, hb, _⟩ := I.list hB
  obtain ⟨⟨cls, dd, data, sl⟩, ho, hc, n, hd⟩ := hl.isList
  obtain ⟨⟨cls2, dd2, data2, sl2⟩, ho2, hc2, n2, hd2⟩ := hb.isList
  simp only at hc hd hc2 hd2
  subst hc hd hc2 hd2
  have e : its.toArray ++ its2.toArray = (its ++ its2).toArray := by simp
  refine concat_meets ⟨_, ho, rfl⟩ ⟨_, ho2, rfl⟩ noFill_list_add seq_list_add PySem.F.slot_list_add PySem.F.entry_list_add (PySem.F.args_list_add_2 _ _) (list_addW l b its.toArray its2.toArray n n2 dd dd2 sl sl2 (by rw [List.size_toArray, List.size_toArray, ← r.length, ← r2.length]; exact hz)) ⟨ho, ho2, ?_⟩
  rw [e]
  exact ⟨.ref _, _, I.lnew (t' := s.toks) (r.append r2) (by rw [List.length_append]; omega), rfl, q _ I.fresh⟩
section
variable {X : Cx} {c : Ct} {σ : Sl} {m : Mem} {K : R → Mem → Prop} {r1 r2 : R}
theorem o_catL {rs1 rs2 : List R} (h1 : VL m r1 rs1) (h2 : VL m r2 rs2) (hl : rs1.length + rs2.length ≤ 1000000) (k : ∀ p, K (.own p) ((p, .lst (rs1 ++ rs2)) :: m)) : OP X c σ m (binaryOp .Add) r1 r2 K := op_of op_catL fun τ H G v1 v2 Q E q1 q2 q => by
  obtain ⟨a, vs, rfl, ha, ra⟩ := h1.at E q1
  obtain ⟨b, us, rfl, hb, rb⟩ := h2.at E q2
  refine ⟨a, b, vs, us, rfl, rfl, ha, hb, by rw [← ra.length, ← rb.length]; exact Nat.le_trans hl (by decide), fun p hp => ?_⟩
  exact q _ _ G _ _ (k p) (Ex.refl G) (E.new hp (.lst (ra.append rb))) .own
end
end D2
/-! ## D2Lend -/
/-! an own list is lent to a def that only reads it -/
namespace D2
open PySem PySem.Spec PyProof.Rows L2
/-- a walk stops here -/
def Held (p : Prop) : Prop := p
theorem held {p : Prop} (h : Held p) : p := h
theorem Held.of {p : Prop} (h : p) : Held p := h
inductive Flat : R → Prop
  | non : Flat (.dat .non)
  | bl {b} : Flat (rB b)
  | int {i} : Flat (rI i)
  | str {s} : Flat (rS s)
theorem Flat.any {K : PySem.W.Frag} {G G' : Hp} {r : R} {v : V} (f : Flat r) (h : RelR K G r v) : RelR K G' r v := by
  cases f <;> (cases h with | dat h => cases h <;> constructor <;> constructor)
theorem reps_of {K : PySem.W.Frag} {G : Hp} : ∀ {ds : List D} {vs : List V}, RelRs K G (ds.map .dat) vs → Reps K G ds vs
  | [], _, h => by cases h; exact .nil
  | d :: ds, _, h => by
    cases h with | cons h1 h2 =>
    cases h1 with | dat h1 => exact .cons h1 (reps_of h2)
/-- the promise with the first argument lent -/
def lend (S : Sp2) : Sp2 := fun rs m Kr Ke => ∃ (a : Addr) (ds : List D) (rest : List R), rs = .own a :: rest ∧ m = [(a, .lst (ds.map .dat))] ∧ S (.dat (.lst ds) :: rest) [] (fun r m' => Flat r ∧ m' = [] ∧ Kr r [(a, .lst (ds.map .dat))]) (fun _ _ _ => False)
theorem spOf_lend {K : PySem.W.Frag} {S : Sp2} {vs : List V} {H : Hp} {Q : VK} {E : XK} (h : spOf K (lend S) vs H Q E) : spOf K S vs H Q E := by
  obtain ⟨rs, m, G, Kr, Ke, ⟨a, ds, rest, rfl, rfl, hS⟩, xg, nd, mo, rv, kq, ke⟩ := h
  obtain ⟨ga, ho, hh, ro⟩ := mo _ List.mem_cons_self
  cases ro with | @lst _ us ro =>
  cases rv with | @cons _ v _ vs r1 r2 =>
  cases r1
  let G1 : Hp := fun b => if b = a then some (.lst us) else G b
  have x1 : Ex G G1 := fun b o hb => by
    show (if b = a then _ else _) = _
    by_cases e : b = a
    · subst e
      have ga' : G b = none := ga
      rw [ga'] at hb; cases hb
    · rw [if_neg e]; exact hb
  have x2 : Ex G1 H := fun b o hb => by
    have hb' : (if b = a then some (HO.lst us) else G b) = some o := hb
    by_cases e : b = a
    · rw [if_pos e] at hb'
      cases hb'
      rw [e]; exact hh
    · rw [if_neg e] at hb'
      exact xg b o hb'
  have g1a : G1 a = some (.lst us) := if_pos rfl
  refine ⟨_, [], G1, _, _, hS, x2, List.nodup_nil, (fun p hp => by cases hp), .cons (.dat (.lst (SqL.of g1a) (reps_of (ro.mono x1)))) (r2.mono x1), fun r m' G' H' v ⟨fl, em, kr⟩ out rv' => ?_, fun C fs m' G' H' d z _ _ => z.elim⟩
  subst em
  have ha' : H' a = some (.lst us) := out.fr a _ hh fun p hp => by cases hp
  refine kq r _ G H' v kr ⟨Ex.refl G, fun b o hb => out.sub b o (out.up b o (x1 b o hb)), by simp, fun p hp => ?_, fun b o hb _ => out.fr b o hb (fun p hp => by cases hp), fun p hp => ?_, fun p hp => .inl ⟨p, hp, rfl⟩, fun _ _ hb => .inl hb⟩ (fl.any rv')
  · rw [List.mem_singleton.mp hp]
    exact ⟨ga, _, ha', .lst ro⟩
  · rw [List.mem_singleton.mp hp]
    show H' a ≠ none
    rw [ha']; simp
theorem CalleeG.lend {P : Program} {w : World} {K : PySem.W.Frag} {mg : Str → Option Value} {base : Heap} {x : Str} {k : Nat} {S : Sp2} (h : CalleeG P w K mg base x k S) : CalleeG P w K mg base x k (D2.lend S) := by
  obtain ⟨f, fd, ps, h1, h2, h3, h4⟩ := h
  exact ⟨f, fd, ps, h1, h2, h3, h4.imp fun vs H Q E z => spOf_lend z⟩
end D2
/-! ## NErr -/
/-! the package's exceptions -/
namespace NC
open PySem PySem.Spec PyProof.Rows L2 D2
abbrev abc3 : List Nat := [97, 98, 99]
/-- letters a, b, c only -/
def Abc (s : List Nat) : Prop := ∀ c ∈ s, c ∈ abc3
instance (s : List Nat) : Decidable (Abc s) := inferInstanceAs (Decidable (∀ c ∈ s, c ∈ abc3))
theorem alph_len {l : List Nat} (h : l ∈ alphabets) : 0 < l.length ∧ l.length ≤ 3 ∧ Abc l := by
  simp only [alphabets, List.mem_cons, List.not_mem_nil, or_false] at h
  rcases h with rfl | rfl | rfl <;> exact ⟨by decide, by decide, by decide⟩
theorem abc_nil : Abc (lit "") := fun c h => by cases h
theorem abc_app {s t : List Nat} (h1 : Abc s) (h2 : Abc t) : Abc (s ++ t) := fun c hc => (List.mem_append.mp hc).elim (h1 c) (h2 c)
theorem abc_one {l : List Nat} (h : Abc l) {i : Nat} (hi : i < l.length) : Abc [l.getD i 0] := fun c hc => by
  rw [List.mem_singleton.mp hc, List.getD_eq_getElem?_getD, List.getElem?_eq_getElem hi]
  exact h _ (List.getElem_mem hi)
theorem abc_cut {s : List Nat} (h : Abc s) {lo hi : Option Int} : Abc (cutL s lo hi) := fun c hc => h c (by
  unfold cutL at hc
  exact List.mem_of_mem_drop (List.mem_of_mem_take hc))
theorem log_small {n : Int} (h0 : 0 ≤ n) (h : n < 9000) : n.natAbs.log2 < 9000 := Nat.lt_of_le_of_lt (Nat.log2_le_self _) (by omega)
/-- a word that is told as good, or its fault -/
abbrev WOk (n : Nat) (s : List Nat) : Prop := Abc s ∧ s.length ≤ n
structure WEr (CW CL : Addr) (Ke : Addr → List (Str × D2.D) → Mem → Prop) (m : Mem) (n : Nat) (s : List Nat) : Prop where
  word : ¬ Abc s → Ke CW [("word", .str s)] m
  large : Abc s → n < s.length → Ke CL [("many", .int s.length)] m
theorem WEr.no {CW CL : Addr} {Ke : Addr → List (Str × D2.D) → Mem → Prop} {m : Mem} {n : Nat} {s : List Nat} (h : WOk n s) : WEr CW CL Ke m n s := ⟨fun q => absurd h.1 q, fun _ q => absurd h.2 (by omega)⟩
end NC
/-! ## D2HotRg -/
set_option pp.maxSteps 1500
/-! a list comprehension over range(n) within an except suite -/
namespace D2
open PySem PySem.Spec PyProof.Rows L2
section
variable {X : Cx} {c : Ct} {σ σb : Sl} {m : Mem} {scope : Scope} {own : List (Str × Nat)} {iter elt : Expr} {ifs : List Expr} {K : R → Mem → Prop} {k j : Nat} {pos py : Pos} {p : Addr × Obj} {y : Str} {f : R → Sl}
theorem range_h {n : Nat} {ea : Expr} {pr ppos : Pos} {P : Mem → Prop} {pins : List (Addr × Obj)} {s : Shared} {τ : L2.St} {H G : Hp} (hg : Gl X "range") (hm : X.mg "range" = none) (I : Inv X pins τ H s) (hit : DE X c σ m ea (fun r m1 => r = rI (n : Int) ∧ n ≤ 1000 ∧ P m1)) (E : EnvOk X c σ m G τ H) (hsa : starEach [ea] X.env = [(false, eval ea X.env)]) :
    wpAny (model X.prog X.w) X.A (eval (.Call (.Name "range" pr) [ea] [] ppos) X.env) (fun v s1 => wpAny (model X.prog X.w) X.A (pyIter v) (fun itv s2 => ∃ it m2 G2 H1, itv = .ref it ∧ Inv X pins τ H1 s2 ∧ IsRangeIter s2.heap it 0 n 1 ∧ FpOk X pins H1 it ∧ it < s2.heap.objs.size ∧ EnvOk X c σ m2 G2 τ H1 ∧ Ex G G2 ∧ P m2 ∧ n ≤ 1000) X.xe s1) X.xe s := by
  have da : DA X c σ m [ea] (fun rs m1 => rs = [rI (n : Int)] ∧ n ≤ 1000 ∧ P m1) := da_cons (hit.imp fun r m1 ⟨er, hn, hP⟩ => da_nil ⟨by rw [er], hn, hP⟩) hsa
  refine Call_ (ld_blt I hg hm boot_range (PyProof.Rows.callWith_type1 (thn (da ppos pins s τ H G (fun vs H1 => ∃ m2 G2, vs = [V.int (n : Int)] ∧ EnvOk X c σ m2 G2 τ H1 ∧ Ex G G2 ∧ P m2 ∧ n ≤ 1000) I E fun rs m1 G1 H1 vs ⟨er, hn, hP⟩ x1 E1 rv => ?_) fun us s1 ⟨vs, H1, I1, ru, m2, G2, ev, E2, x2, hP, hn⟩ => ?_) hsa rfl))
  · subst er
    cases rv with | cons r1 t =>
    cases t
    exact ⟨m1, G1, by rw [int_of r1], E1, x1, hP, hn⟩
  · subst ev
    cases ru with | cons r1 rr =>
    cases rr
    obtain ⟨t, rfl⟩ := r1
    refine call_range_1 ?_
    refine wpAny_pyIter_range (IsRange.new ..) (small_one (by omega) (by omega) (by omega) (by omega)) ?_
    have J : Inv X pins τ H1 { s1 with heap := s1.heap.push { cls := .type "range", data := .fields #[.int 0 s1.toks, .int (n : Int) t, .int 1 (s1.toks + 1)] }, toks := s1.toks + 1 + 1 } := I1.kept fun b o e => Heap.get?_push_of_some _ e
    refine ⟨_, m2, G2, H1, rfl, J.kept (t' := s1.toks + 1 + 1) fun b o e => Heap.get?_push_of_some _ e, ?_, J.fpOk (Nat.le_refl _) (J.hok.fresh (Nat.le_refl _)), ?_, E2, x2, hP, hn⟩
    · have e2 : Builtin.Range.rangeSize 0 (n : Int) 1 = (n : Int) := by rw [rangeSize_one]; split <;> omega
      rw [e2]
      exact Heap.get?_push_size _ rfl
    · exact Heap.lt_size (Heap.get?_push_size _ rfl)
theorem de_lcHR {n : Nat} {ea : Expr} {pr ppos : Pos} (P : Nat → List R → Mem → Prop) (L : LiveH X c k p) (nd : X.N.Nodup) (ok : BlkOk X.N X.env.scope scope own) (hown : ∀ p ∈ own, scope.names.lookup p.1 = some .local) (hb : Blk scope σ σb) (hf : PutF σb y f) (hj : (y, j) ∈ own) (hgr : Gl X "range") (hmr : X.mg "range" = none)
    (hit : DE X c σ m ea (fun r m1 => r = rI (n : Int) ∧ n ≤ 1000 ∧ P 0 [] m1))
    (turn : ∀ i rs m', i < n → P i rs m' → TurnH1 X scope k p (f (rI (i : Int))) m' ifs elt (fun r m3 => P (i + 1) (rs ++ [r]) m3) (fun m2 => P (i + 1) rs m2))
    (hend : ∀ rs m' p, P n rs m' → K (.own p) ((p, .lst rs) :: m')) (hsa : starEach [ea] X.env = [(false, eval ea X.env)] := by rfl) (hs : ∀ x, foldedSetIterable (.Call (.Name "range" pr) [ea] [] ppos) X.env x = pure x := by intro _; rfl) : DE X c σ m (.ListComp elt [⟨.Name y py, .Call (.Name "range" pr) [ea] [] ppos, ifs, 0⟩] scope pos) K := by
  intro pins s τ H G Q I E q
  have hfree : ∀ z ∈ scope.names, z.2 = .free → ∃ b, X.env.cells.lookup z.1 = some b := fun z hz e => (ok.free z hz e).elim (fun h => I.ok.has _ (.inl h)) fun h => I.ok.has _ (.inr h)
  rw [eval_ListComp]
  refine wpAny_comprehension_free (use := none) rfl hs (closure_ok hfree) ok.kind (fun z hz e => by rw [ok.uniq z hz, e]) ?_
  refine thn (range_h hgr hmr I hit E hsa) fun v s1' h1' => thn h1' fun itv s2 ⟨it, m2, G2, H1, eit, I2, it0, itf, itlt, E2, x2, hP, hn1⟩ => ?_
  subst eit
  refine wpAny_newObj_type (newEnv_comp ?_) (by show 0 ≤ sizeLine; decide)
  generalize hD : s2.heap.objs.size = Dl
  have hDn : H1 Dl = none := I2.hok.fresh (Nat.le_of_eq hD)
  have itD : it ≠ Dl := by rw [← hD]; exact Nat.ne_of_lt itlt
  generalize hs3 : ({ s2 with heap := s2.heap.push { cls := .type "list", data := .seq ([] : List Value).toArray } } : Shared) = s3
  have hs3h : s3.heap = s2.heap.push { cls := .type "list", data := .seq ([] : List Value).toArray } := by rw [← hs3]
  have I3 : Inv X pins τ (L2.upd H1 Dl (.lst [])) s3 := by
    rw [← hs3]
    refine I2.laid (t' := s2.toks) (fun b o e => Heap.get?_push_of_some _ e) (Nat.le_of_eq hD) ⟨Nat.zero_le _, [], 0, .nil, ?_⟩
    rw [← hD]
    exact Heap.get?_push_size _ rfl
  have E3 : EnvOk X c σ ((Dl, .lst []) :: m2) G2 τ (L2.upd H1 Dl (.lst [])) := E2.new hDn (.lst .nil)
  have fit : FpOk X pins (L2.upd H1 Dl (.lst [])) it := ⟨by rw [L2.upd_ne itD]; exact itf.1, itf.2⟩
  have itlt3 : it < s3.heap.objs.size := by rw [hs3h, Heap.size_push]; exact Nat.lt_succ_of_lt itlt
  have it3 : IsRangeIter s3.heap it 0 n 1 := by
    show s3.heap.get? it = _
    rw [hs3h]; exact Heap.get?_push_of_some _ it0
  -- the block begins
  have I4b := block_start I3 ok nd (fp := [it]) fun b hb => by rw [List.mem_singleton.mp hb]; exact ⟨fit, itlt3⟩
  generalize hcl : cellsFrom (s3.heap.objs.size + 1) scope.names (cloFrom X.env.cells scope.names []) = cl at I4b ⊢
  generalize hC : s3.heap.objs.size = C at I4b ⊢
  generalize hs4 : ({ s3 with heap := pushCells (s3.heap.push { cls := .type "dict", data := .dict #[] }) scope.names } : Shared) = s4 at I4b
  have up34 : ∀ b o, s3.heap.get? b = some o → s4.heap.get? b = some o := fun b o e => by rw [← hs4]; exact pushCells_keeps _ _ _ _ (Heap.get?_push_of_some _ e)
  generalize hH3 : L2.upd H1 Dl (.lst []) = H3 at I3 E3 fit I4b
  have I4 : Inv (bh X scope s3 H3 C cl [it]) [] (wipe τ (own.map (·.2))) H3 s4 := inv_bh I4b fun z hz => by
    obtain ⟨z1, z2, z3, z4, z5⟩ := I3.pin z (List.mem_append_left _ hz)
    refine ⟨up34 _ _ z1, z2, ?_, fun hm => (List.mem_cons.mp (I3.stkSub z.1 hm)).elim z3 z4, z5⟩
    rw [← hC]; exact Nat.ne_of_lt (Heap.lt_size z1)
  show codeAny _ _ (.compStart (.ListComp elt [⟨.Name y py, .Call (.Name "range" pr) [ea] [] ppos, ifs, 0⟩] scope pos) 0 (.ref it) (.ref Dl) (compEnvC scope cl C X.env)) (compPost (model X.prog X.w) X.A X.xe none (EP X pins τ Q) (.ref Dl) C) _
  have it4 : IsRangeIter s4.heap it 0 n 1 := up34 _ _ it3
  -- what holds of the iterator in the block
  have stat : ∀ {τ' : L2.St} {H' : Hp} {s' : Shared}, Inv (bh X scope s3 H3 C cl [it]) [] τ' H' s' → H' it = none → FpOk (bh X scope s3 H3 C cl [it]) [] H' it := fun {τ' H' s'} I' hn =>
    ⟨hn, (I'.ok.exf it (List.mem_singleton.mpr rfl)).1, I'.ok.exfs it (List.mem_singleton.mpr rfl), .inl (List.mem_singleton.mpr rfl), fun x c e => (I'.ok.exf it (List.mem_singleton.mpr rfl)).2 x c e, fun z hz => by
      have hz : z ∈ X.pn := by simpa using (show z ∈ X.pn ++ [] from hz)
      exact itf.2.2.2.2.2 z (List.mem_append_left _ hz)⟩
  have loop : codeAny (model X.prog X.w) X.A (.compLoop (.ListComp elt [⟨.Name y py, .Call (.Name "range" pr) [ea] [] ppos, ifs, 0⟩] scope pos) 0 (.ref it) (.ref Dl) (compEnvC scope cl C X.env)) (compPost (model X.prog X.w) X.A X.xe none (EP X pins τ Q) (.ref Dl) C) s4 := by
    refine compLoop_any (fun nn s' => ∃ i H' rs m' G', nn = n - i ∧ i ≤ n ∧ Inv (bh X scope s3 H3 C cl [it]) [] (wipe τ (own.map (·.2))) H' s' ∧ IsRangeIter s'.heap it (i : Int) ((n : Int) - (i : Int)) 1 ∧ H' it = none ∧
      P i rs m' ∧ rs.length ≤ i ∧ EnvOk X c σ ((Dl, .lst rs) :: m') G' τ H' ∧ Ex G2 G') ?_ n ⟨0, H3, [], m2, G2, rfl, Nat.zero_le _, I4, (by simpa using it4), fit.1, hP, Nat.le_refl _, E3, Ex.refl G2⟩
    rintro nn s5 ⟨i, H5, rs, m5, G5, rfl, hi, I5, it5, n5, hP5, hrs, E5, x5⟩
    obtain ⟨f0, f1, f2, f3, f4, f5⟩ := stat I5 n5
    by_cases hlt : i < n
    · refine wpAny_pyNext_range_item it5 (by omega) fun h' st' sb => ?_
      have I6 := I5.turned (t' := s5.toks + 1) (fun b o hb e => (sb.2 b hb).trans e) f0 f1 f3 f4 f5
      have st2 : IsRangeIter h' it ((i + 1 : Nat) : Int) ((n : Int) - ((i + 1 : Nat) : Int)) 1 := by
        rw [show ((i + 1 : Nat) : Int) = (i : Int) + 1 by omega, show (n : Int) - ((i : Int) + 1) = (n : Int) - (i : Int) - 1 by omega]
        exact st'
      refine go_of (s := { s5 with heap := h', toks := s5.toks + 1 }) (n := "range_iterator") st2 rfl rfl (by decide) ?_
      generalize hoit : ({ cls := .type "range_iterator", dict := none, data := .fields #[rawInt ((i + 1 : Nat) : Int), rawInt ((n : Int) - ((i + 1 : Nat) : Int)), rawInt 1] } : Obj) = oit
      have eit : h'.get? it = some oit := by rw [← hoit]; exact st2
      have dit : ∀ v, oit.data ≠ .cell v := fun v z => by rw [← hoit] at z; cases z
      have I6p : Inv (bh X scope s3 H3 C cl [it]) [(it, oit)] (wipe τ (own.map (·.2))) H5 { s5 with heap := h', toks := s5.toks + 1 } := I6.pins_of fun z hz => by
        rw [List.mem_singleton.mp hz]
        exact ⟨eit, n5, f1, f2, fun v e => dit v e⟩
      -- over data, in the block's part
      have sp : Split ((Dl, .lst rs) :: m5) m5 [(Dl, .lst rs)] := split_back _ _
      have Eb := (E5.into sp (ex := fun _ _ _ _ => False)).blk hb ok hown
      obtain ⟨j', hj', E6⟩ := Eb.put (hf.put (rI (i : Int))) (.inl (own_z hown hj)) (.dat .int)
      have ej : j = j' := nodup_ix nd (ok.ix _ hj) hj'
      subst ej
      have bk : ∀ {σ2 : Sl} {τ2 : L2.St} {m2 : Mem} {G2 H2 : Hp}, EB X scope (ctSub c H5 G5 m5 fun _ _ _ _ => False) σ2 m2 G2 τ2 H2 → EnvOk X c σ ((Dl, .lst rs) :: m2) G2 τ H2 := fun {σ2 τ2 m2 G2 H2} e => by
        have A := E5.after sp (show OutOk X.K _ _ _ _ _ _ from e.outK)
        refine A.drop (fun z hz => ?_) ?_
        · rcases List.mem_cons.mp hz with rfl | hz
          · exact List.mem_append_right _ List.mem_cons_self
          · exact List.mem_append_left _ hz
        · have pm : (m2 ++ [(Dl, O.lst rs)]).Perm ((Dl, .lst rs) :: m2) := List.perm_append_comm
          exact (pm.map _).nodup_iff.mp A.nd
      have LB : LiveH (bh X scope s3 H3 C cl [it]) (ctSub c H5 G5 m5 fun _ _ _ _ => False) k p := IsBlkH.live ⟨s3, H3, C, cl, [it], rfl⟩ L fun _ _ _ _ z => z
      have T := turn i rs m5 hlt hP5 _ _ ⟨s3, H3, C, cl, [it], rfl⟩ LB
      have ow : Own (bh X scope s3 H3 C cl [it]) y := own_at (X := X) hown hj s3 H3 C cl [it]
      refine thnF ((pg_name (X := bh X scope s3 H3 C cl [it]) nd (ok.ix _ hj) ow.1 ow.2).run _ _ _ H5 (.int (i : Int)) (.int (i : Int) s5.toks) (fun τ8 H8 => τ8 = (wipe τ (own.map (·.2))).set j (some (V.int (i : Int))) ∧ H8 = H5) I6p ⟨_, rfl⟩ ⟨rfl, rfl⟩) fun _ s8 ⟨τ8, H8, I8, e8, eH8⟩ => ?_
      subst e8 eH8
      have fin : ∀ {s' : Shared} {H' : Hp} {rs' : List R} {m' : Mem} {G' : Hp}, Inv (bh X scope s3 H3 C cl [it]) [(it, oit)] ((wipe τ (own.map (·.2))).set j (some (V.int (i : Int)))) H' s' → P (i + 1) rs' m' → rs'.length ≤ i + 1 → EnvOk X c σ ((Dl, .lst rs') :: m') G' τ H' → Ex G5 G' →
          ∃ m, m < n - i ∧ ∃ i H' rs m' G', m = n - i ∧ i ≤ n ∧ Inv (bh X scope s3 H3 C cl [it]) [] (wipe τ (own.map (·.2))) H' s' ∧ IsRangeIter s'.heap it (i : Int) ((n : Int) - (i : Int)) 1 ∧ H' it = none ∧ P i rs m' ∧ rs.length ≤ i ∧ EnvOk X c σ ((Dl, .lst rs) :: m') G' τ H' ∧ Ex G2 G' := fun {s' H' rs' m' G'} I' hP' hl' E' x' => by
        obtain ⟨z1, z2, _⟩ := I'.pin (it, oit) (List.mem_append_right _ (List.mem_singleton.mpr rfl))
        refine ⟨n - (i + 1), by omega, i + 1, H', rs', m', G', rfl, hlt, (I'.pins_of fun z hz => by cases hz).weak (by rw [List.length_set]) fun w v e => ?_, (by show s'.heap.get? it = _; rw [← hoit] at z1; exact z1), z2, hP', hl', E', x5.trans x'⟩
        have e2 : (wipe ((wipe τ (own.map (·.2))).set j (some (V.int (i : Int)))) (own.map (·.2)))[w]? = some (some v) := by
          rw [wipe_set (List.mem_map_of_mem (f := (·.2)) hj), wipe_wipe]
          exact e
        exact (wipe_some e2).1
      refine thnF (dts_at T I8 (EB.toH E6) (Q := fun b H' => ∃ m6 G6, Ex G5 G6 ∧ EB X scope (ctSub c H8 G5 m5 fun _ _ _ _ => False) (f (rI (i : Int))) m6 G6 ((wipe τ (own.map (·.2))).set j (some (V.int (i : Int)))) H' ∧ ((b = true → DE (bh X scope s3 H3 C cl [it]) (ctSub c H8 G5 m5 fun _ _ _ _ => False) (f (rI (i : Int))) m6 elt fun r m3 => P (i + 1) (rs ++ [r]) m3) ∧ (b = false → P (i + 1) rs m6))) fun b m' G' H' z x E' => ⟨m', G', x, EB.ofH E', z⟩) fun b s9 ⟨H9, I9, m9, G9, x9, E9, y1, y2⟩ => ?_
      cases b with
      | false =>
        simp only [Bool.false_eq_true, if_false]
        exact fin I9 (y2 rfl) (by omega) (bk E9) x9
      | true =>
        simp only [if_true]
        refine thnF (y1 rfl _ s9 _ H9 G9 (fun v H' => ∃ r m6 G6, P (i + 1) (rs ++ [r]) m6 ∧ Ex G9 G6 ∧ EB X scope (ctSub c H8 G5 m5 fun _ _ _ _ => False) (f (rI (i : Int))) m6 G6 ((wipe τ (own.map (·.2))).set j (some (V.int (i : Int)))) H' ∧ RelR X.K G6 r v) I9 (EB.toH E9) fun r m' G' H' v z x E' rv => ⟨r, m', G', z, x, EB.ofH E', rv⟩) fun z s10 ⟨yv, H10, I10, r10, r, m10, G10, hP10, x10, E10, rr10⟩ => ?_
        have E11 := bk E10
        obtain ⟨_, ho, hh, ro⟩ := E11.mem (Dl, .lst rs) List.mem_cons_self
        cases ro with | @lst _ acc ro =>
        have hacc : acc.length < sizeLine := by rw [← ro.length]; exact Nat.lt_of_le_of_lt (by omega : rs.length ≤ 1000000) (by decide)
        exact app_ok (X := bh X scope s3 H3 C cl [it]) I10 hh hacc r10 fun s11 I11 => fin I11 hP10 (by rw [List.length_append]; simp; omega) (E11.chg .here (.lst (ro.append (.cons rr10 .nil)))) (x9.trans x10)
    · have e : i = n := by omega
      have hot : HotX.HotAt X.A p.1 s5.heap := by
        obtain ⟨hh, v1, e1, c1⟩ := L.hot
        exact ⟨hh, p.2, v1, (I5.pin p (by show p ∈ X.pn ++ []; rw [List.append_nil]; exact L.pin)).1, e1, c1⟩
      have npit : p.1 ≠ it := f5 p (by show p ∈ X.pn ++ []; rw [List.append_nil]; exact L.pin)
      refine HotX.pyNext_range_end_hot (x1 := p.1) hot it5 (by omega) fun h' eb => ?_
      have I6 := I5.turned (t' := s5.toks) (fun b o hb e => eb b o e) f0 f1 f3 f4 f5
      have I7 : Inv X pins τ H5 { s5 with heap := h' } := I3.call' (ch := [it]) I6.os I6.base I6.hok I6.bare fun b hb => by
        rw [List.mem_singleton.mp hb]
        exact ⟨fit.2.2.2.1, fit.2.1, fit.2.2.2.2.1, fit.2.2.2.2.2⟩
      obtain ⟨mm, hmm, _⟩ := I6.loc
      have nC : H5 C = none := I6.free
      obtain ⟨g0, g1, g2, g3, g4, g5⟩ := I3.fpOk (H' := H5) (b := C) (Nat.le_of_eq hC) nC
      subst e
      exact ⟨mm, hmm, fun h'' sb => ⟨.ref Dl, H5, I7.turned (t' := s5.toks) (fun b o hb e => (sb.2 b hb).trans e) g0 g1 g3 g4 g5, rfl, q _ _ G5 _ _ (hend rs m5 Dl hP5) (x2.trans x5) E5 .own⟩⟩
  exact codeAny_compStart_list loop (wpAny_pyIter_rangeiter it4 loop)
end
end D2
namespace D2
open PySem PySem.Spec PyProof.Rows L2
/-- e.f of the handled exception, anywhere behind the suite -/
theorem d_fldP {X : Cx} {c : Ct} {σ : Sl} {m : Mem} {e : Expr} {K : R → Mem → Prop} {pos : Pos} {p : Addr × Obj} {C : Addr} {fs : List (Str × D)} {f : Str} {d : D} (hp : p ∈ X.pn) (T : XfC X.K C) (hno : PySem.W.findIn X.K (.ref C) f = some none) (Cg : Caught X.K c.G0 p C fs) (hf : fs.lookup f = some d)
    (h : DE X c σ m e (fun r m1 => r = rExc p ∧ K (.dat d) m1)) (hb : attributeBase e f X.env (eval e X.env) = eval e X.env := by rfl) : DE X c σ m (.Attribute e f pos) K := fun pins s τ H G Q I E q => by
  obtain ⟨da, hz, ⟨dvs, hdv⟩, hd⟩ := Cg
  rcases hd with ⟨e0, _⟩ | ⟨dd, ws, e1, e2, e3⟩
  · subst e0; cases hf
  obtain ⟨v, hv2, rv⟩ := repf_at e3 hf
  refine attr_of hb (thn (h pins s τ H G (fun u H1 => ∃ m1 G1, u = .ref p.1 ∧ K (.dat d) m1 ∧ Ex G G1 ∧ EnvOk X c σ m1 G1 τ H1) I E ?_) fun u s1 hu => ?_)
  · intro r m1 G1 H1 u ⟨er, z⟩ x1 E1 ru
    subst er
    cases ru with | dat ru =>
    cases ru
    exact ⟨m1, G1, rfl, z, x1, E1⟩
  obtain ⟨x, H1, I1, rx, m1, G1, ex, z, x1, E1⟩ := hu
  subst ex e1
  obtain rfl : u = Value.ref p.1 := rx
  have hob := I1.hok dd _ (E1.sub _ _ (E1.g0 _ _ e2))
  obtain ⟨mA, hns, hr⟩ := hob
  obtain ⟨od, ho, hl⟩ := lookIn_ns hns
  obtain ⟨uu, hu, ru⟩ := RelO.some_of (v := v) (o := mA f) (by rw [← hv2]; exact hr f)
  have inst : PySem.W.InstAt s1.heap p.1 p.2 C (some od) := by
    refine ⟨(I1.pin p (List.mem_append_left _ hp)).1, hz.1, ?_, ?_⟩
    · unfold PySem.W.notCls
      rw [hdv]
    · rw [hz.2]; exact ho
  exact HandSPX.exc_get I1.kIn inst T.ga T.gg T.exC (PySem.W.findObj_own T.hdC hno rfl (by rw [hl, hu])) (handed_of ru) ⟨v, H1, I1.tok _, ru, q _ m1 G1 H1 v z x1 E1 (.dat (rv.mono E1.g0))⟩
end D2
namespace D2
open PySem PySem.Spec PyProof.Rows L2
section
variable {X : Cx} {c : Ct} {σ : Sl} {m : Mem} {K : R → Mem → Prop} {k : Nat} {p : Addr × Obj}
/-- == of lists of strs, within the suite -/
theorem o_eqLSH {r1 r2 : R} {xs ys : List (List Nat)} (L : LiveH X c k p) (h1 : VS m r1 xs) (h2 : VS m r2 ys) (kk : K (rB (decide (xs = ys))) m) : OP X c σ m (compareOp .Eq) r1 r2 K :=
  fun pins s τ H G v1 v2 u1 u2 Q I E q1 q2 rx ry q => by
    obtain ⟨as, a1⟩ := Dp.reads I (.list (xs.map fun s => .str (sOf s))) v1 u1 ((PV.lst h1 (pvs_str m xs)).dp E q1) rx
    obtain ⟨bs, a2⟩ := Dp.reads I (.list (ys.map fun s => .str (sOf s))) v2 u2 ((PV.lst h2 (pvs_str m ys)).dp E q2) ry
    have e1 := eqok_strs xs
    have e2 := eqok_strs ys
    refine SeqAt.eq_plain a1 a2 e1.1 e2.1 (by have := L.room.un; have := e1.2; have := e2.2; omega) ⟨.bl _, H, I, rfl, ?_⟩
    rw [PyData.eqv, eqv_strs]
    exact q.now kk E (.dat .bl)
end
end D2
/-! ## NX -/
/-! own exceptions caught, told apart -/
namespace NC
open PySem PySem.Spec PyProof.Rows L2 D2
/-- what the law's tests wish of the class C, named cn, with the field fld -/
structure ExcN (K : PySem.W.Frag) (mg : Str → Option Value) (C : Addr) (cn fld : Str) : Prop where
  ex : ExcC K C
  xf : XfC K C
  no : PySem.W.findIn K (.ref C) fld = some none
  cls : ∀ x ∈ nms, ∃ a, mg x = some (.ref a) ∧ PySem.W.kitOne K (.ref C) (.ref a) = some (decide (x = cn))
  base : ∃ a, mg "NocountersError" = some (.ref a) ∧ PySem.W.exmOne K (.ref C) (.ref a) = some true
  bas : ∃ a, mg "NocountersError" = some (.ref a) ∧ PySem.W.kitOne K (.ref C) (.ref a) = some true
  ver : PySem.W.kitOne K (.ref C) (.type "ValueError") = some true
  one : ∀ x ∈ nms, ∃ a, mg x = some (.ref a) ∧ PySem.W.exmOne K (.ref C) (.ref a) = some (decide (x = cn))
theorem ExcN.at_ {K : PySem.W.Frag} {mg : Str → Option Value} {C : Addr} {cn fld : Str} (O : ExcN K mg C cn fld) (x : Str) (h : x ∈ nms) : ∃ a, mg x = some (.ref a) ∧ PySem.W.kitOne K (.ref C) (.ref a) = some (decide (x = cn)) := O.cls x h
theorem exc_ok {K : PySem.W.Frag} {h : Heap} {mg : Str → Option Value} {C : Addr} {P : Program} {d : IniD} {cn fld : Str} (X : K.In h) (G : h.Ns mainGlobals mg) (I : IniOk P K d C) (hf : d.fld = fld) (hC : C = iC K cn) (q : excB K cn = true) : ExcN K mg C cn fld := by
  subst hC hf
  unfold excB at q
  obtain ⟨q1, q2⟩ := Bool.and_eq_true_iff.mp q
  obtain ⟨q2, q3⟩ := Bool.and_eq_true_iff.mp q2
  obtain ⟨q3, q4⟩ := Bool.and_eq_true_iff.mp q3
  obtain ⟨q4, q5⟩ := Bool.and_eq_true_iff.mp q4
  have q0 : ∀ y ∈ nms, (He.Fa.glo y).ok K = true ∧ PySem.W.kitOne K (.ref (iC K cn)) (.ref (iC K y)) = some (decide (y = cn)) ∧ PySem.W.exmOne K (.ref (iC K cn)) (.ref (iC K y)) = some (decide (y = cn)) := fun y hy => by
    obtain ⟨z1, z2⟩ := Bool.and_eq_true_iff.mp (List.all_eq_true.mp q1 y hy)
    obtain ⟨z2, z3⟩ := Bool.and_eq_true_iff.mp z2
    exact ⟨z1, of_decide_eq_true z2, of_decide_eq_true z3⟩
  exact ⟨I.ex, I.xf, I.no, fun y hy => ⟨_, He.glo_ok X G (q0 y hy).1, (q0 y hy).2.1⟩, ⟨_, He.glo_ok X G q2, of_decide_eq_true q3⟩, ⟨_, He.glo_ok X G q2, of_decide_eq_true q4⟩, of_decide_eq_true q5, fun y hy => ⟨_, He.glo_ok X G (q0 y hy).1, (q0 y hy).2.2⟩⟩
def InM (m : Mem) (a : Addr) (o : O) : Prop := ∃ m', Has m a o m'
theorem InM.here {m : Mem} {a : Addr} {o : O} : InM ((a, o) :: m) a o := ⟨_, .here⟩
theorem InM.there {m : Mem} {p : Addr × O} {a : Addr} {o : O} (h : InM m a o) : InM (p :: m) a o := h.elim fun _ h => ⟨_, .there h⟩
end NC
/-! ## D2Rep -/
/-! a list repeated -/
namespace D2
open PySem PySem.Spec PyProof.Rows L2
section
variable {X : Cx} {c : Ct} {σ : Sl} {m : Mem} {K : R → Mem → Prop} {r : R} {rs : List R} {n : Int}
theorem relRs_rep {Kf : PySem.W.Frag} {G : Hp} {rs : List R} {vs : List V} (h : RelRs Kf G rs vs) : ∀ n : Nat, RelRs Kf G (List.replicate n rs).flatten (List.replicate n vs).flatten
  | 0 => .nil
  | n + 1 => by
    rw [List.replicate_succ, List.replicate_succ, List.flatten_cons, List.flatten_cons]
    exact h.append (relRs_rep h n)
theorem o_rep (h : VU m r rs) (h0 : 0 ≤ n) (h1 : n ≤ 1000000) (hl : rs.length * n.toNat ≤ 1000000) (k : ∀ p, K (.own p) ((p, .lst (List.replicate n.toNat rs).flatten) :: m)) : OP X c σ m (binaryOp .Mult) r (rI n) K := op_of L2.op_rep fun τ H G v1 v2 Q E q1 q2 q => by
  cases int_of q2
  obtain ⟨a, vs, rfl, ha, rr⟩ := h.at E q1
  have hlen := rr.length
  refine ⟨a, n, vs, rfl, rfl, ha, by omega, by omega, by rw [← hlen, sizeLine_eq]; omega, fun p hp => ?_⟩
  exact q _ _ _ _ _ (k p) (Ex.refl G) (E.new hp (.lst (relRs_rep rr _))) .own
end
end D2
/-! ## NXb -/
/-! a told refusal compared -/
namespace NC
open PySem PySem.Spec PyProof.Rows L2 D2
/-- a text or a whole number -/
def DP (d : D2.D) (pd : PyData) : Prop := (∃ s, d = .str s ∧ pd = .str (sOf s)) ∨ ∃ i, d = .int i ∧ pd = .int i
section
variable {X : Cx} {c : Ct} {σ : Sl} {m m1 m2 : Mem} {K : R → Mem → Prop} {k : Nat} {a b : Addr} {x : List Nat} {d : D2.D} {pd : PyData}
theorem dp_pv (h : DP d pd) : PV m (.dat d) pd ∧ PyData.eqv pd pd = true ∧ pd.plain = true ∧ pd.depth = 0 := by
  rcases h with ⟨s, rfl, rfl⟩ | ⟨i, rfl, rfl⟩
  · exact ⟨.str, by simp [PyData.eqv], rfl, rfl⟩
  · exact ⟨.int, by simp [PyData.eqv], rfl, rfl⟩
theorem pv_pair (hd : DP d pd) (h : Has m a (.lst [rS x, .dat d]) m1) : PV m (.own a) (.list [.str (sOf x), pd]) ∧ EqOk (.list [.str (sOf x), pd]) := by
  obtain ⟨h1, h2, h3, h4⟩ := dp_pv (m := m) hd
  refine ⟨.lst (.own h) (.cons .str (.cons h1 .nil)), ?_, ?_⟩
  · simp [PyData.plain, PyData.plainAll, h3]
  · simp [PyData.depth, PyData.depthAll, h4]
theorem eqv_pair (hd : DP d pd) : PyData.eqv (.list [.str (sOf x), pd]) (.list [.str (sOf x), pd]) = true := by
  obtain ⟨h1, h2, h3, h4⟩ := dp_pv (m := []) hd
  simp [PyData.eqv, PyData.eqvAll, h2]
theorem o_neSame (L : Live X c k) (hd : DP d pd) (ha : Has m a (.lst [rS x, .dat d]) m1) (hb : Has m b (.lst [rS x, .dat d]) m2) (z : K (rB false) m) : OP X c σ m (compareOp .NotEq) (.own a) (.own b) K :=
  o_neD L (pv_pair hd ha).1 (pv_pair hd hb).1 (pv_pair hd ha).2 (pv_pair hd hb).2 (by rw [eqv_pair hd]; exact z)
theorem o_eqSame (L : Live X c k) (hd : DP d pd) (ha : Has m a (.lst [rS x, .dat d]) m1) (hb : Has m b (.lst [rS x, .dat d]) m2) (z : K (rB true) m) : OP X c σ m (compareOp .Eq) (.own a) (.own b) K :=
  o_eqD L (pv_pair hd ha).1 (pv_pair hd hb).1 (pv_pair hd ha).2 (pv_pair hd hb).2 (by rw [eqv_pair hd]; exact z)
end
theorem getD_in {α : Type} {xs : List α} {d : Int} {z : α} (h0 : 0 ≤ d) (h : d < xs.length) : xs.getD d.toNat z ∈ xs := by
  have hl : d.toNat < xs.length := by omega
  rw [List.getD_eq_getElem?_getD, List.getElem?_eq_getElem hl]
  exact List.getElem_mem hl
section
variable {X : Cx} {c : Ct} {σ : Sl} {m : Mem} {K : R → Mem → Prop}
theorem o_p30 (k : K (D2.rI (10 ^ Int.toNat 30)) m) : OP X c σ m (binaryOp .Pow) (D2.rI 10) (D2.rI 30) K := o_pow ⟨by decide, by decide, by decide⟩ k
end
theorem not_abc_mid {a b s : List Nat} (h : ¬ Abc s) : ¬ Abc (a ++ s ++ b) := fun q => h fun c hc => q c (by simp [hc])
end NC
/-! ## NSh0 -/
/-! sheets, plain: items, rows, which rows are needed -/
namespace NC
open PySem PySem.Spec PyProof.Rows L2 D2
inductive It where
  | n (i : Nat) | s (t : List Nat)
def It.d : It → D2.D
  | .n i => .int (i : Int)
  | .s t => .str t
structure Row where
  w : List Nat
  its : List It
def Row.d (r : Row) : D2.D := .tup (.str r.w :: r.its.map It.d)
def rowsD (rs : List Row) : List D2.D := rs.map Row.d
/-- the numbers that a row names -/
def It.ref : It → Option Nat
  | .n i => some i
  | .s _ => none
def Row.refs (r : Row) : List Nat := r.its.filterMap It.ref
/-- an item fits its kind: a number below at, a letter, a variable -/
def It.fits (l : List Nat) (at_ : Nat) : Nat → It → Prop
  | k, .n i => k = 105 ∧ i < at_
  | k, .s t => (k = 97 ∧ ∃ c, t = [c] ∧ c ∈ l) ∨ (k = 118 ∧ t ∈ [[120], [121], [122]])
def shapeOf (sh : Tab2) (w : List Nat) : Option (List Nat) := (sh.find? fun q => decide (q.1 = w)).map (·.2)
def Row.fits (sh : Tab2) (l : List Nat) (at_ : Nat) (r : Row) : Prop := ∃ ks, shapeOf sh r.w = some ks ∧ ks.length = r.its.length ∧ ∀ i (h1 : i < ks.length) (h2 : i < r.its.length), r.its[i].fits l at_ ks[i]
/-- a sheet: each row fits behind the earlier ones -/
def Sheet (sh : Tab2) (l : List Nat) (rs : List Row) : Prop := ∀ i (h : i < rs.length), rs[i].fits sh l i
def shD (sh : Tab2) : List (Key × D2.D) := sh.map fun q => (Sum.inr (sOf q.1), .str q.2)
theorem kvT_shD (sh : Tab2) : kvT sh = (shD sh).map fun p => (p.1, R.dat p.2) := by
  unfold kvT shD
  rw [List.map_map]; rfl
theorem sOf_iff {a b : List Nat} : (Sum.inr (sOf a) : Key) = Sum.inr (sOf b) ↔ a = b :=
  ⟨fun h => by rw [← lit_sOf a, Sum.inr.inj h, lit_sOf], fun h => by rw [h]⟩
theorem valD_shD (sh : Tab2) (w : List Nat) : valD (shD sh) (Sum.inr (sOf w)) = (shapeOf sh w).map D2.D.str := by
  unfold valD shD shapeOf
  induction sh with
  | nil => rfl
  | cons q sh ih =>
    rw [List.map_cons, List.find?_cons, List.find?_cons]
    by_cases h : q.1 = w
    · rw [show decide ((Sum.inr (sOf q.1) : Key) = Sum.inr (sOf w)) = true from decide_eq_true (sOf_iff.mpr h), show decide (q.1 = w) = true from decide_eq_true h]
      rfl
    · rw [show decide ((Sum.inr (sOf q.1) : Key) = Sum.inr (sOf w)) = false from decide_eq_false fun z => h (sOf_iff.mp z), show decide (q.1 = w) = false from decide_eq_false h]
      exact ih
theorem It.fits.up {l : List Nat} {a b k : Nat} {it : It} (h : it.fits l a k) (hab : a ≤ b) : it.fits l b k := by
  cases it with
  | n i => exact ⟨h.1, Nat.lt_of_lt_of_le h.2 hab⟩
  | s t => exact h
theorem Row.fits.refs {sh : Tab2} {l : List Nat} {a : Nat} {r : Row} (h : r.fits sh l a) : ∀ i ∈ r.refs, i < a := by
  obtain ⟨ks, _, hl, hf⟩ := h
  intro i hi
  obtain ⟨it, hit, e⟩ := List.mem_filterMap.mp hi
  obtain ⟨j, hj, rfl⟩ := List.getElem_of_mem hit
  have := hf j (by omega) hj
  cases q : r.its[j] with
  | n i' =>
    rw [q] at this e
    cases e
    exact this.2
  | s t => rw [q] at e; cases e
/-- the rows that the last one needs -/
inductive Reach (rs : List Row) : Nat → Prop
  | last : Reach rs (rs.length - 1)
  | step {p j : Nat} (hp : p < rs.length) (h : Reach rs p) (hj : j ∈ rs[p].refs) : Reach rs j
/-- needed by the rows from k on -/
def RK (rs : List Row) (k j : Nat) : Prop := j = rs.length - 1 ∨ ∃ p, ∃ hp : p < rs.length, k ≤ p ∧ Reach rs p ∧ j ∈ rs[p].refs
theorem reach_rk {rs : List Row} {j : Nat} : Reach rs j ↔ RK rs 0 j := by
  constructor
  · intro h
    cases h with
    | last => exact .inl rfl
    | step hp h hj => exact .inr ⟨_, hp, Nat.zero_le _, h, hj⟩
  · rintro (rfl | ⟨p, hp, _, h, hj⟩)
    · exact .last
    · exact .step hp h hj
/-- names are of earlier rows -/
def Back (rs : List Row) : Prop := ∀ i (h : i < rs.length), ∀ j ∈ rs[i].refs, j < i
theorem Sheet.back {sh : Tab2} {l : List Nat} {rs : List Row} (h : Sheet sh l rs) : Back rs := fun i hi j hj => (h i hi).refs j hj
theorem rk_reach {rs : List Row} (hb : Back rs) {k : Nat} : RK rs (k + 1) k ↔ Reach rs k := by
  rw [reach_rk]
  constructor
  · rintro (h | ⟨p, hp, _, h, hj⟩)
    · exact .inl h
    · exact .inr ⟨p, hp, Nat.zero_le _, h, hj⟩
  · rintro (h | ⟨p, hp, _, h, hj⟩)
    · exact .inl h
    · exact .inr ⟨p, hp, by have := hb p hp k hj; omega, h, hj⟩
theorem rk_no {rs : List Row} (hb : Back rs) {k j : Nat} (hk : ¬ Reach rs k) : RK rs k j ↔ RK rs (k + 1) j := by
  constructor
  · rintro (h | ⟨p, hp, hkp, h, hj⟩)
    · exact .inl h
    · by_cases e : p = k
      · subst e; exact absurd h hk
      · exact .inr ⟨p, hp, by omega, h, hj⟩
  · rintro (h | ⟨p, hp, hkp, h, hj⟩)
    · exact .inl h
    · exact .inr ⟨p, hp, by omega, h, hj⟩
theorem rk_yes {rs : List Row} {k j : Nat} (hk : k < rs.length) (hr : Reach rs k) : RK rs k j ↔ (RK rs (k + 1) j ∨ j ∈ rs[k].refs) := by
  constructor
  · rintro (h | ⟨p, hp, hkp, h, hj⟩)
    · exact .inl (.inl h)
    · by_cases e : p = k
      · subst e; exact .inr hj
      · exact .inl (.inr ⟨p, hp, by omega, h, hj⟩)
  · rintro ((h | ⟨p, hp, hkp, h, hj⟩) | h)
    · exact .inl h
    · exact .inr ⟨p, hp, by omega, h, hj⟩
    · exact .inr ⟨k, hk, Nat.le_refl _, hr, h⟩
/-- the ascending list of the needed rows -/
def Need (rs : List Row) (l : List Nat) : Prop := l.Pairwise (· < ·) ∧ ∀ i, i ∈ l ↔ (i < rs.length ∧ Reach rs i)
theorem Reach.lt {rs : List Row} (hb : Back rs) (h0 : 0 < rs.length) {i : Nat} (h : Reach rs i) : i < rs.length := by
  cases h with
  | last => omega
  | step hp _ hj => have := hb _ hp _ hj; omega
end NC
/-! ## D2In -/
/-! in: a text in a tuple of texts, a sign in a text, a key in a dict of data -/
namespace D2
open PySem PySem.Spec PyProof.Rows L2
section
variable {X : Cx} {c : Ct} {σ : Sl} {m : Mem} {K : R → Mem → Prop} {k : Nat}
theorem o_inS {s : List Nat} {ss : List (List Nat)} (L : Live X c k) (z : K (rB (decide (s ∈ ss))) m) : OP X c σ m (compareOp .In) (rS s) (.dat (.tup (dS ss))) K := by
  have h : OP X c σ m (compareOp .In) (rN (.text (sOf s))) (.dat (.tup (nDs (ss.map fun t => NestedKey.text (sOf t))))) K := o_inT L (by rw [NestedKey.depth]; omega) (by
    have e : decide (NestedKey.text (sOf s) ∈ ss.map fun t => NestedKey.text (sOf t)) = decide (s ∈ ss) := by
      rw [Bool.eq_iff_iff, decide_eq_true_eq, decide_eq_true_eq, List.mem_map]
      constructor
      · rintro ⟨t, ht, e⟩
        have e2 : sOf t = sOf s := NestedKey.text.inj e
        have e3 : t = s := by rw [← lit_sOf t, e2, lit_sOf]
        rw [← e3]; exact ht
      · exact fun h => ⟨s, h, rfl⟩
    rw [e]; exact z)
  rw [nDs_map, List.map_map] at h
  exact h
/-- a sign in a text -/
theorem o_inCh {ch : Nat} {l : List Nat} (z : K (rB (decide (ch ∈ l))) m) : OP X c σ m (compareOp .In) (rS [ch]) (rS l) K := op_of op_in_sign fun τ H G v1 v2 Q E h1 h2 q => by
  cases str_of h1
  cases str_of h2
  refine ⟨ch, sOf l, rfl, rfl, ?_⟩
  rw [show (sOf l).cps.toList = l from lit_sOf l]
  exact q.now z E (.dat .bl)
theorem repk_isSome {Kf : PySem.W.Frag} {G : Hp} {xs : List (Key × D)} {vs : List (Key × V)} (h : Repk Kf G xs vs) (kk : Key) : (valV vs kk).isSome = (valD xs kk).isSome := by
  obtain ⟨h1, h2⟩ := repk_val h kk
  cases e : valD xs kk with
  | none => rw [h2 e]; rfl
  | some d =>
    obtain ⟨v, e1, _⟩ := h1 d e
    rw [e1]; rfl
/-- key not in d, d data -/
theorem o_ninF {rk : R} {kk : Key} {xs : List (Key × D)} (L : Live X c k) (hk : IsKey rk kk) (z : K (rB (!(valD xs kk).isSome)) m) : OP X c σ m (compareOp .NotIn) rk (.dat (.dk xs)) K := fun pins s τ H G v1 v2 u1 u2 Q I E q1 q2 p1 p2 q => by
  cases q2 with | dat q2 =>
  cases q2 with | @dk a _ vs o hG hr =>
  obtain rfl : u2 = Value.ref a := p2
  rw [hk.v q1] at p1
  refine d_notIn (by have := L.room.units; omega) I (show DGet H a (kV kk) (valV _ kk) from .inl ⟨_, kk, .inr ⟨_, E.sub _ _ hG⟩, rfl, rfl⟩) p1 fun s' I' => ⟨.bl _, H, I', rfl, ?_⟩
  rw [repk_isSome hr]
  exact q.now z E (.dat .bl)
theorem o_inF {rk : R} {kk : Key} {xs : List (Key × D)} (L : Live X c k) (hk : IsKey rk kk) (z : K (rB (valD xs kk).isSome) m) : OP X c σ m (compareOp .In) rk (.dat (.dk xs)) K := fun pins s τ H G v1 v2 u1 u2 Q I E q1 q2 p1 p2 q => by
  cases q2 with | dat q2 =>
  cases q2 with | @dk a _ vs o hG hr =>
  obtain rfl : u2 = Value.ref a := p2
  rw [hk.v q1] at p1
  refine d_in (by have := L.room.units; omega) I (show DGet H a (kV kk) (valV _ kk) from .inl ⟨_, kk, .inr ⟨_, E.sub _ _ hG⟩, rfl, rfl⟩) p1 fun s' I' => ⟨.bl _, H, I', rfl, ?_⟩
  rw [repk_isSome hr]
  exact q.now z E (.dat .bl)
end
end D2
/-! ## D2Tup -/
/-! slices of tuples; all, any, sum, max of a list; str; bool; bits; reversed(range(n)) -/
namespace D2
open PySem PySem.Spec PyProof.Rows L2
section
variable {X : Cx} {c : Ct} {σ : Sl} {m : Mem} {K : R → Mem → Prop} {k : Nat} {a b e e2 tg : Expr} {p pos : Pos}
/-- t[lo:hi], t a tuple of data -/
theorem d_sliceT {lo hi : Option Expr} {p2 : Pos} (h : DE X c σ m a (fun r m1 => DO X c σ m1 lo (fun l m2 => DO X c σ m2 hi (fun u m3 => ∃ ds : List D, r = .dat (.tup ds) ∧ ¬ (HT.sIx ds.length 0 l = 0 ∧ HT.sIx ds.length ds.length u = ds.length) ∧ K (.dat (.tup (cutL ds l u))) m3)))) : DE X c σ m (.Subscript a (.Slice lo hi none p2) pos) K := by
  refine de_slice sl_tup (h.imp fun r m1 h1 => ?_)
  have g : ∀ {m2 : Mem} {u l : Option Int}, (∃ ds : List D, r = .dat (.tup ds) ∧ ¬ (HT.sIx ds.length 0 l = 0 ∧ HT.sIx ds.length ds.length u = ds.length) ∧ K (.dat (.tup (cutL ds l u))) m2) →
      ∀ (τ : L2.St) (H G : Hp) (v : V) (Q : VK), EnvOk X c σ m2 G τ H → RelR X.K G r v → CK X c σ τ G K Q → rSlT X.K v l u H Q := fun {m2 u l} ⟨ds, er, hn, z⟩ τ H G v Q E rv q => by
    subst er
    cases rv with | dat rv =>
    cases rv with | @tup a xs vs hs rr =>
    refine ⟨a, vs, rfl, ex_t E.sub hs, by rw [← rr.length]; exact hn, fun p hp => ?_⟩
    have hg : G p = none := E.sub.back hp
    have e1 : Reps X.K G (cutL ds l u) (cutV vs l u) := by
      refine RelRs.reps ?_
      rw [← cutL_map]
      exact cut_rel rr.rel
    exact q _ _ (L2.upd G p _) _ _ z (Ex.new hg) (E.newG hp) (.dat (.tup (.inl (.inl upd_same)) (e1.mono (Ex.new hg))))
  cases lo with
  | none => cases hi with
    | none => exact fun τ H G v Q E rv q => g h1 τ H G v Q E rv q
    | some e3 => exact DE.imp h1 fun r3 m3 ⟨i, ei, z⟩ => ⟨i, ei, g z⟩
  | some e3 => cases hi with
    | none => exact DE.imp h1 fun r3 m3 ⟨i, ei, z⟩ => ⟨i, ei, g z⟩
    | some e4 => exact DE.imp h1 fun r3 m3 ⟨i, ei, z⟩ => ⟨i, ei, DE.imp z fun r4 m4 ⟨j, ej, z4⟩ => ⟨j, ej, g z4⟩⟩
theorem bls_of {Kf : PySem.W.Frag} {G : Hp} : ∀ {bs : List Bool} {vs : List V}, RelRs Kf G (bs.map rB) vs → vs = bs.map V.bl
  | [], _, .nil => rfl
  | _ :: _, _, .cons h t => by rw [bl_of h, bls_of t]; rfl
theorem ints_of {Kf : PySem.W.Frag} {G : Hp} : ∀ {bs : List Int} {vs : List V}, RelRs Kf G (bs.map rI) vs → vs = bs.map V.int
  | [], _, .nil => rfl
  | _ :: _, _, .cons h t => by rw [int_of h, ints_of t]; rfl
theorem d_all (L : Live X c k) (hg : Gl X "all") (hm : X.mg "all" = none) (h : DE X c σ m e (fun r m1 => ∃ bs : List Bool, VL m1 r (bs.map rB) ∧ K (rB (bs.all id)) m1)) (hst : starEach [e] X.env = (false, eval e X.env) :: starEach [] X.env := by rfl) : DE X c σ m (.Call (.Name "all" p) [e] [] pos) K := by
  refine de_callB (cr_all L.calm) hg hm (by decide +kernel) (da_cons (h.imp fun r m1 ⟨bs, hv, z⟩ => da_nil fun τ H G vs Q E rv q => ?_) hst) (he := hst)
  obtain ⟨v, rfl, r1⟩ := one_of rv
  obtain ⟨a, us, rfl, hs, rr⟩ := hv.at E r1
  rw [bls_of rr] at hs
  exact ⟨a, bs, rfl, hs, q.now z E (.dat .bl)⟩
theorem d_any (L : Live X c k) (hg : Gl X "any") (hm : X.mg "any" = none) (h : DE X c σ m e (fun r m1 => ∃ bs : List Bool, VL m1 r (bs.map rB) ∧ K (rB (bs.any id)) m1)) (hst : starEach [e] X.env = (false, eval e X.env) :: starEach [] X.env := by rfl) : DE X c σ m (.Call (.Name "any" p) [e] [] pos) K := by
  refine de_callB (cr_any L.calm) hg hm (by decide +kernel) (da_cons (h.imp fun r m1 ⟨bs, hv, z⟩ => da_nil fun τ H G vs Q E rv q => ?_) hst) (he := hst)
  obtain ⟨v, rfl, r1⟩ := one_of rv
  obtain ⟨a, us, rfl, hs, rr⟩ := hv.at E r1
  rw [bls_of rr] at hs
  exact ⟨a, bs, rfl, hs, q.now z E (.dat .bl)⟩
theorem d_sum (L : Live X c k) (hg : Gl X "sum") (hm : X.mg "sum" = none) (h : DE X c σ m e (fun r m1 => ∃ ns : List Int, VL m1 r (ns.map rI) ∧ K (rI ns.sum) m1)) (hst : starEach [e] X.env = (false, eval e X.env) :: starEach [] X.env := by rfl) : DE X c σ m (.Call (.Name "sum" p) [e] [] pos) K := by
  refine de_callB (cr_sum L.calm) hg hm (by decide +kernel) (da_cons (h.imp fun r m1 ⟨ns, hv, z⟩ => da_nil fun τ H G vs Q E rv q => ?_) hst) (he := hst)
  obtain ⟨v, rfl, r1⟩ := one_of rv
  obtain ⟨a, us, rfl, hs, rr⟩ := hv.at E r1
  rw [ints_of rr] at hs
  exact ⟨a, ns, rfl, hs, q.now z E (.dat .int)⟩
theorem d_maxL (L : Live X c k) (hg : Gl X "max") (hm : X.mg "max" = none) (h : DE X c σ m e (fun r m1 => ∃ ns : List Int, VL m1 r (ns.map rI) ∧ 0 < ns.length ∧ ∀ M, M ∈ ns → (∀ y, y ∈ ns → y ≤ M) → K (rI M) m1)) (hst : starEach [e] X.env = (false, eval e X.env) :: starEach [] X.env := by rfl) : DE X c σ m (.Call (.Name "max" p) [e] [] pos) K := by
  refine de_callB (cr_max L.calm) hg hm (by decide +kernel) (da_cons (h.imp fun r m1 ⟨ns, hv, hl, z⟩ => da_nil fun τ H G vs Q E rv q => ?_) hst) (he := hst)
  obtain ⟨v, rfl, r1⟩ := one_of rv
  obtain ⟨a, us, rfl, hs, rr⟩ := hv.at E r1
  rw [ints_of rr] at hs
  exact ⟨a, ns, rfl, hs, hl, fun M h1 h2 => q.now (z M h1 h2) E (.dat .int)⟩
/-- str(x), x a text or a small whole number -/
theorem d_strS (hg : Gl X "str") (hm : X.mg "str" = none) (h : DE X c σ m e (fun r m1 => ∃ s, r = rS s ∧ K (rS s) m1)) (hst : starEach [e] X.env = (false, eval e X.env) :: starEach [] X.env := by rfl) : DE X c σ m (.Call (.Name "str" p) [e] [] pos) K := by
  refine de_callT SkE.call_str_str hg hm (by decide +kernel) (da_cons (h.imp fun r m1 ⟨s, er, z⟩ => da_nil fun τ H G vs Q E rv q => ?_) hst) (he := hst)
  subst er
  obtain ⟨v, rfl, r1⟩ := one_of rv
  cases str_of r1
  exact ⟨_, rfl, q.now z E (.dat .str)⟩
def numT (i : Int) : List Nat := lit (toString i)
theorem d_strI (hg : Gl X "str") (hm : X.mg "str" = none) (h : DE X c σ m e (fun r m1 => ∃ i, r = rI i ∧ i.natAbs.log2 < 1920 ∧ K (rS (numT i)) m1)) (hst : starEach [e] X.env = (false, eval e X.env) :: starEach [] X.env := by rfl) : DE X c σ m (.Call (.Name "str" p) [e] [] pos) K := by
  refine de_callT call_str_int hg hm (by decide +kernel) (da_cons (h.imp fun r m1 ⟨i, er, hl, z⟩ => da_nil fun τ H G vs Q E rv q => ?_) hst) (he := hst)
  subst er
  obtain ⟨v, rfl, r1⟩ := one_of rv
  cases int_of r1
  exact ⟨i, rfl, hl, q.now z E (.dat rep_str)⟩
theorem d_boolI (hg : Gl X "bool") (hm : X.mg "bool" = none) (h : DE X c σ m e (fun r m1 => ∃ i, r = rI i ∧ K (rB (i != 0)) m1)) (hst : starEach [e] X.env = (false, eval e X.env) :: starEach [] X.env := by rfl) : DE X c σ m (.Call (.Name "bool" p) [e] [] pos) K := by
  refine de_callT call_bool1 hg hm (by decide +kernel) (da_cons (h.imp fun r m1 ⟨i, er, z⟩ => da_nil fun τ H G vs Q E rv q => ?_) hst) (he := hst)
  subst er
  obtain ⟨v, rfl, r1⟩ := one_of rv
  cases int_of r1
  exact .inl ⟨i, rfl, q.now z E (.dat .bl)⟩
theorem d_bits {apos : Pos} (h : DE X c σ m e (fun r m1 => ∃ i, r = rI i ∧ K (rI (Builtin.Int.intBits i : Nat)) m1)) (hbase : attributeBase e "bit_length" X.env (eval e X.env) = eval e X.env := by rfl) (hline : (apos.endLine == pos.line) = true := by rfl) : DE X c σ m (.Call (.Attribute e "bit_length" apos) [] [] pos) K :=
  de_of (pe_bits (pe_t (c := c)) hbase hline) fun τ H G Q E q => ⟨σ, m, G, _, E, h, fun r m1 G1 H1 v ⟨i, er, z⟩ x1 E1 rv => by
    subst er
    cases int_of rv
    exact ⟨i, rfl, q _ m1 G1 H1 _ z x1 E1 (.dat .int)⟩⟩
theorem o_shr {i j : Int} (hc : 0 ≤ j) (kk : K (rI (i / 2 ^ j.toNat)) m) : OP X c σ m (binaryOp .RShift) (rI i) (rI j) K := opI (C := fun _ j => 0 ≤ j) L2.op_shr hc kk
theorem o_band {i j : Int} (kk : K (rI (Builtin.bitAnd i j)) m) : OP X c σ m (binaryOp .BitAnd) (rI i) (rI j) K := opI0 L2.op_and kk
theorem o_bor {i j : Int} (kk : K (rI (Builtin.bitOr i j)) m) : OP X c σ m (binaryOp .BitOr) (rI i) (rI j) K := opI0 L2.op_or kk
/-- for x in reversed(range(n)) -/
theorem it_rev {a : Expr} {K : List D → Mem → Prop} {p1 p2 : Pos} (hg2 : Gl X "reversed") (hm2 : X.mg "reversed" = none) (hg : Gl X "range") (hm : X.mg "range" = none) (h : DE X c σ m a (fun r m1 => ∃ n, r = rI n ∧ -(2 ^ 62) ≤ n ∧ n < 2 ^ 62 ∧ K (dns (n.toNat - 1) (-1) n.toNat) m1))
    (hs : starEach [a] X.env = (false, eval a X.env) :: starEach [] X.env := by rfl) (hs2 : starEach [.Call (.Name "range" p1) [a] [] p2] X.env = (false, eval (.Call (.Name "range" p1) [a] [] p2) X.env) :: starEach [] X.env := by rfl) :
    DIt X c σ m tg (.Call (.Name "reversed" p) [.Call (.Name "range" p1) [a] [] p2] [] pos) K := by
  refine ⟨_, pi_revR hg2 hm2 (prg_1 hg hm (pe_t (c := c)) hs) hs2, fun τ H G R' E q => ?_⟩
  refine ⟨σ, m, G, _, E, h, fun r m1 G1 H1 v ⟨n, er, l1, l2, z⟩ x1 E1 rv => ?_⟩
  subst er
  cases int_of rv
  have e1 : (0 : Int) + (((n - 0).toNat : Nat) : Int) - 1 = (n.toNat : Int) - 1 := by rw [Int.sub_zero, Int.zero_add]
  refine ⟨n, rfl, by decide, by decide, l1, l2, ?_⟩
  rw [e1, Int.sub_zero]
  refine q _ m1 G1 H1 _ z x1 E1 fun t H2 ex => ⟨fun d hd => ?_, fun hl => ?_⟩
  · obtain ⟨ht, rfl⟩ := dns_at hd
    exact ⟨ht, fun x H' ⟨e, y⟩ => .inl ⟨e, by rw [y]; exact .int⟩⟩
  · show n.toNat ≤ t
    rw [dns_len] at hl
    exact hl
end
end D2
/-! ## D2Goes -/
/-! zip and enumerate of lists, tuples and texts -/
namespace D2
open PySem PySem.Spec PyProof.Rows L2
/-- what is walked: a list, a tuple, a text -/
inductive Src where
  | lst (a : Addr) | tup (a : Addr) | txt (x : Str)
def Src.v : Src → V
  | .lst a => .ref a
  | .tup a => .ref a
  | .txt x => .str x
def Src.own : Src → List Addr
  | .lst a => [a]
  | .tup a => [a]
  | .txt _ => []
/-- its iterator at it, at the turn i -/
def Src.tn (S : Src) (it : Addr) (i : Nat) (h : Heap) : Prop := match S with
  | .lst a => h.IsListIter it a i
  | .tup a => h.IsTupleIter it a i
  | .txt x => ∃ t, h.IsStrIter it (strIterType x) x t i
def signs (x : Str) : List V := x.cps.toList.map fun c => .str ⟨#[c]⟩
def Src.has (S : Src) (K : PySem.W.Frag) (H : Hp) (vs : List V) : Prop := match S with
  | .lst a => SqL K H a vs
  | .tup a => SqT K H a vs
  | .txt x => vs = signs x
theorem vals_at : ∀ {vs : List V} {us : List Value} {j : Nat} {u : Value}, Vals vs us → us[j]? = some u → ∃ v, vs[j]? = some v ∧ RelV v u
  | _, _, _, _, .nil, e => by simp at e
  | _, _, 0, _, .cons r _, e => by simp at e; subst e; exact ⟨_, rfl, r⟩
  | _, _, j + 1, u, .cons _ t, e => by
    obtain ⟨v, h1, h2⟩ := vals_at (j := j) (u := u) t (by simpa using e)
    exact ⟨v, by simpa using h1, h2⟩
section
variable {X : Cx} {pins : List (Addr × Obj)} {σ : L2.St} {H : Hp} {s : Shared} {vs : List V} {S : Src} {it : Addr} {i : Nat}
theorem Src.tn_obj (S : Src) {it : Addr} {i : Nat} {h : Heap} (x : S.tn it i h) : ∃ o, h.get? it = some o ∧ ∀ v, o.data ≠ .cell v := by
  cases S with
  | lst a => obtain ⟨o, e, _, d⟩ := x; exact ⟨o, e, fun v q => by rw [d] at q; cases q⟩
  | tup a => obtain ⟨o, e, _, d⟩ := x; exact ⟨o, e, fun v q => by rw [d] at q; cases q⟩
  | txt a => obtain ⟨t, o, e, _, d⟩ := x; exact ⟨o, e, fun v q => by rw [d] at q; cases q⟩
theorem Src.tn_keep (S : Src) {it : Addr} {i : Nat} {h h' : Heap} (x : S.tn it i h) (k : ∀ o, h.get? it = some o → h'.get? it = some o) : S.tn it i h' := by
  cases S with
  | lst a => obtain ⟨o, e, r⟩ := x; exact ⟨o, k o e, r⟩
  | tup a => obtain ⟨o, e, r⟩ := x; exact ⟨o, k o e, r⟩
  | txt a => obtain ⟨t, o, e, r⟩ := x; exact ⟨t, o, k o e, r⟩
theorem Src.lt (I : Inv X pins σ H s) (hs : S.has X.K H vs) : ∀ b ∈ S.own, b < s.heap.objs.size := by
  cases S with
  | lst a =>
    intro b hb
    obtain ⟨its, _, p, _⟩ := I.list hs
    rw [List.mem_singleton.mp hb]; exact p.lt
  | tup a =>
    intro b hb
    obtain ⟨its, _, ⟨o, e, _⟩, _⟩ := I.tuple hs
    rw [List.mem_singleton.mp hb]; exact Heap.lt_size e
  | txt x => intro b hb; cases hb
theorem Src.draws (hh : X.A.in1.handled = none) (I : Inv X pins σ H s) (hs : S.has X.K H vs) (hne : it ∉ S.own) (ht : S.tn it i s.heap) : ∃ P St, Draws X.prog X.w X.A.in1 it (it :: S.own) vs.length P St ∧ St i s.heap ∧ (∀ j h, St j h → S.tn it j h) ∧ ∀ j x, P j x → ∃ v, vs[j]? = some v ∧ RelV v x := by
  cases S with
  | lst a =>
    obtain ⟨its, rv, p, _⟩ := I.list hs
    have D := Draws.list (prog := X.prog) (w := X.w) hh it a (fun e => hne (by rw [e]; exact List.mem_cons_self)) its.toArray
    rw [List.size_toArray, ← rv.length] at D
    refine ⟨_, _, D, ⟨ht, p.isList⟩, fun j h q => q.1, fun j x q => ?_⟩
    obtain ⟨v, h1, h2⟩ := vals_at rv (show its[j]? = some x by simpa using q)
    exact ⟨v, h1, h2⟩
  | tup a =>
    obtain ⟨its, rv, p, _⟩ := I.tuple hs
    have D := Draws.tuple (prog := X.prog) (w := X.w) hh it a (fun e => hne (by rw [e]; exact List.mem_cons_self)) its.toArray
    rw [List.size_toArray, ← rv.length] at D
    refine ⟨_, _, D, ⟨ht, p⟩, fun j h q => q.1, fun j x q => ?_⟩
    obtain ⟨v, h1, h2⟩ := vals_at rv (show its[j]? = some x by simpa using q)
    exact ⟨v, h1, h2⟩
  | txt x =>
    obtain ⟨t, ht⟩ := ht
    obtain rfl : vs = signs x := hs
    have D := Draws.text (prog := X.prog) (w := X.w) hh it x t
    have hl : (signs x).length = x.cps.size := by simp [signs]
    rw [← hl] at D
    refine ⟨_, _, D, ht, fun j h q => ⟨t, q⟩, fun j v q => ?_⟩
    obtain ⟨c, u, h1, rfl⟩ := q
    refine ⟨.str ⟨#[c]⟩, ?_, ⟨u, rfl⟩⟩
    unfold signs
    rw [List.getElem?_map, Array.getElem?_toList, h1]; rfl
theorem Src.begins {u : Value} (I : Inv X pins σ H s) (hs : S.has X.K H vs) (rv : RelV S.v u) : ∃ o Hh, Begins u o Hh ∧ Hh s.heap ∧ ∀ h it, h.get? it = some o → S.tn it 0 h := by
  cases S with
  | lst a =>
    obtain ⟨its, _, p, _⟩ := I.list hs
    obtain rfl : u = Value.ref a := rv
    exact ⟨_, _, begins_list a its.toArray, p.isList, fun h it e => ⟨_, e, rfl, rfl⟩⟩
  | tup a =>
    obtain ⟨its, _, p, _⟩ := I.tuple hs
    obtain rfl : u = Value.ref a := rv
    exact ⟨_, _, begins_tuple a its.toArray, p, fun h it e => ⟨_, e, rfl, rfl⟩⟩
  | txt x =>
    obtain ⟨t, rfl⟩ := rv
    exact ⟨_, _, begins_text x t, trivial, fun h it e => ⟨t, _, e, rfl, rfl⟩⟩
end
/-! ### zip -/
def ItZ (K : PySem.W.Frag) (S1 S2 : Src) (xs ys : List V) : It :=
  ⟨fun i H => S1.has K H xs ∧ S2.has K H ys ∧ i < min xs.length ys.length, fun i H v H' => ∃ T x y, v = .ref T ∧ H T = none ∧ H' = L2.upd H T (.tup [x, y]) ∧ xs[i]? = some x ∧ ys[i]? = some y,
    fun i H => S1.has K H xs ∧ S2.has K H ys ∧ min xs.length ys.length ≤ i⟩
theorem turn_zip2 {P : Program} {w : World} {K : PySem.W.Frag} {elts : List Expr} {kk : Nat} {tpos : Pos} {S1 S2 : Src} {xs ys : List V} {z TI TO i1 i2 : Addr} (D : ZipSep2 z TI TO i1 i2 (i1 :: S1.own) (i2 :: S2.own)) (n1 : i1 ∉ S1.own) (n2 : i2 ∉ S2.own) :
    Turn P w K (.Tuple elts kk tpos) (ItZ K S1 S2 xs ys) [z, TI, TO, i1, i2] z (fun i h => i ≤ min xs.length ys.length ∧ IsZip h z TI TO .none ∧ IsTupOf2 h TI (.ref i1) (.ref i2) ∧ (∃ a b, IsTupOf2 h TO a b) ∧ S1.tn i1 i h ∧ S2.tn i2 i h) := by
  have obj : ∀ (i : Nat) (h : Heap), (i ≤ min xs.length ys.length ∧ IsZip h z TI TO .none ∧ IsTupOf2 h TI (.ref i1) (.ref i2) ∧ (∃ a b, IsTupOf2 h TO a b) ∧ S1.tn i1 i h ∧ S2.tn i2 i h) → ∀ b ∈ [z, TI, TO, i1, i2], ∃ o, h.get? b = some o ∧ ∀ v, o.data ≠ .cell v := fun i h st c hc => by
    obtain ⟨_, hz, hTI, ⟨x, y, hTO⟩, h1, h2⟩ := st
    have e' : c = z ∨ c = TI ∨ c = TO ∨ c = i1 ∨ c = i2 := by simpa using hc
    rcases e' with q | q | q | q | q
    · rw [q]; exact ⟨_, hz, fun v q => nomatch q⟩
    · rw [q]; exact ⟨_, hTI, fun v q => nomatch q⟩
    · rw [q]; exact ⟨_, hTO, fun v q => nomatch q⟩
    · rw [q]; exact S1.tn_obj h1
    · rw [q]; exact S2.tn_obj h2
  refine ⟨by simp, obj, fun i h h' st k => ?_, ?_, ?_, fun A i s Q E st hq => wpAny_pyIter_zip st.2.1 hq⟩
  · obtain ⟨hl, hz, hTI, ⟨x, y, hTO⟩, h1, h2⟩ := st
    exact ⟨hl, k z (by simp) _ hz, k TI (by simp) _ hTI, ⟨x, y, k TO (by simp) _ hTO⟩, S1.tn_keep h1 fun o => k i1 (by simp) o, S2.tn_keep h2 fun o => k i2 (by simp) o⟩
  · intro X hP hw hK hc i pins s τ H E I hf st hg
    have ob := obj i _ st
    subst hP hw hK
    obtain ⟨hl, hz, hTI, hTO, t1, t2⟩ := st
    obtain ⟨g1, g2, hi⟩ := hg
    have hh : X.A.in1.handled = none := I.ok.hd hc
    obtain ⟨P1, St1, D1, a1, b1, c1⟩ := Src.draws hh I g1 n1 t1
    obtain ⟨P2, St2, D2, a2, b2, c2⟩ := Src.draws hh I g2 n2 t2
    refine (GoesN.zip2 (elts := elts) (x1 := kk) (pos := tpos) D D1 D2).goes i s _ E hi ⟨hz, hTI, hTO, a1, a2⟩ fun v h' tk hY st' hk htk => ?_
    obtain ⟨T, u1, u2, rfl, hT, p1, p2, tT⟩ := hY
    obtain ⟨x, hx, rx⟩ := c1 i u1 p1
    obtain ⟨y, hy, ry⟩ := c2 i u2 p2
    have new : ObjOk X.prog X.w (L2.upd H T (.tup [x, y])) h' T (.tup [x, y]) := ⟨by show 2 ≤ sizeLine; decide, [u1, u2], .cons rx (.cons ry .nil), tT⟩
    refine ⟨.ref T, _, I.turnedNew (t' := tk) (ch := [z, TI, TO, i1, i2]) (fun b o hb q => hk b o (fun hm => hb (by simp at hm ⊢; rcases hm with e | e | e | e <;> simp [e])) q) hf hT new, rfl, ⟨T, x, y, rfl, I.hok.fresh hT, rfl, hx, hy⟩, ⟨by omega, st'.1, st'.2.1, st'.2.2.1, b1 _ _ st'.2.2.2.1, b2 _ _ st'.2.2.2.2⟩, fun b hb => ?_⟩
    obtain ⟨o, eo, _⟩ := ob b hb
    rw [upd_ne (Nat.ne_of_lt (Nat.lt_of_lt_of_le (Heap.lt_size eo) hT))]
    exact (hf b hb).1
  · intro X hP hw hK hc i pins s τ H E I hf st hg
    subst hP hw hK
    obtain ⟨hl, hz, hTI, hTO, t1, t2⟩ := st
    obtain ⟨g1, g2, hi⟩ := hg
    have hh : X.A.in1.handled = none := I.ok.hd hc
    obtain ⟨P1, St1, D1, a1, b1, c1⟩ := Src.draws hh I g1 n1 t1
    obtain ⟨P2, St2, D2, a2, b2, c2⟩ := Src.draws hh I g2 n2 t2
    obtain rfl : i = min xs.length ys.length := Nat.le_antisymm hl hi
    exact (GoesN.zip2 (elts := elts) (x1 := kk) (pos := tpos) D D1 D2).stops s _ E ⟨hz, hTI, hTO, a1, a2⟩ fun h' tk hk htk => I.turnedL (t' := tk) (ch := [z, TI, TO, i1, i2]) (fun b o hb q => hk b o (fun hm => hb (by simp at hm ⊢; rcases hm with e | e | e | e <;> simp [e])) q) hf
def iZ (K : PySem.W.Frag) (ta : TA) : TI := fun σ H R => ta σ H fun vs H1 => ∃ S1 S2 xs ys, vs = [Src.v S1, Src.v S2] ∧ S1.has K H1 xs ∧ S2.has K H1 ys ∧ R (ItZ K S1 S2 xs ys) H1
theorem pi_zip2 {X : Cx} {e e2 : Expr} {ta : TA} {p pos tpos : Pos} {elts : List Expr} {kk : Nat} (hg : Gl X "zip") (hm : X.mg "zip" = none) (ha : PA X [e, e2] ta)
    (hs : starEach [e, e2] X.env = (false, eval e X.env) :: starEach [e2] X.env := by rfl) (hpl : (backTo pos (starEach [e2] X.env)).any (·.1) = false := by rfl) :
    PI X (.Tuple elts kk tpos) (.Call (.Name "zip" p) [e, e2] [] pos) (iZ X.K ta) := by
  refine ⟨fun pins s σ H R I h => ?_⟩
  refine Call_ (ld_blt I hg hm PyProof.Rows.boot_zip (PyProof.Rows.callWith_type1 (thn (ha.run pos pins s σ H _ I h) fun us s1 hz => ?_) hs hpl))
  obtain ⟨vs, H1, I1, r1, q1⟩ := hz
  obtain ⟨S1, S2, xs, ys, rfl, g1, g2, q⟩ := q1
  match us, r1 with
  | [u1, u2], .cons r1 (.cons r2 .nil) =>
    obtain ⟨o1, K1, B1, k1, t1⟩ := Src.begins I1 g1 r1
    obtain ⟨o2, K2, B2, k2, t2⟩ := Src.begins I1 g2 r2
    have l1 := Src.lt I1 g1
    have l2 := Src.lt I1 g2
    refine zip_begins2 B1 B2 k1 k2 fun h' hz hTI hTO e1 e2 hsz hk => wpAny_pyIter_zip hz ?_
    have I2 : Inv X pins σ H1 { s1 with heap := h' } := I1.kept (t' := s1.toks) hk
    refine ⟨s1.heap.objs.size + 4, [s1.heap.objs.size + 4, s1.heap.objs.size + 2, s1.heap.objs.size + 3, s1.heap.objs.size, s1.heap.objs.size + 1], _, _, H1, rfl, I2, turn_zip2 (zip_sep2 l1 l2) (fun m => Nat.lt_irrefl _ (l1 _ m)) (fun m => Nat.not_lt_of_le (Nat.le_succ _) (l2 _ m)), ⟨Nat.zero_le _, hz, hTI, ⟨_, _, hTO⟩, t1 _ _ e1, t2 _ _ e2⟩, fun b hb => ?_, q⟩
    have hle : s1.heap.objs.size ≤ b := by
      have e' : b = s1.heap.objs.size + 4 ∨ b = s1.heap.objs.size + 2 ∨ b = s1.heap.objs.size + 3 ∨ b = s1.heap.objs.size ∨ b = s1.heap.objs.size + 1 := by simpa using hb
      rcases e' with z | z | z | z | z <;> rw [z] <;> first | exact Nat.le_add_right _ _ | exact Nat.le_refl _
    exact I1.fpOk hle (I1.hok.fresh hle)
/-! ### enumerate -/
def ItE (K : PySem.W.Frag) (S : Src) (xs : List V) (k : Int) : It :=
  ⟨fun i H => S.has K H xs ∧ i < xs.length, fun i H v H' => ∃ T x, v = .ref T ∧ H T = none ∧ H' = L2.upd H T (.tup [.int (k + (i : Int)), x]) ∧ xs[i]? = some x, fun i H => S.has K H xs ∧ xs.length ≤ i⟩
theorem turn_enumF {P : Program} {w : World} {K : PySem.W.Frag} {elts : List Expr} {kk : Nat} {tpos : Pos} {S : Src} {xs : List V} {k : Int} {e it : Addr} (hei : e ≠ it) (hef : e ∉ it :: S.own) (n1 : it ∉ S.own) :
    Turn P w K (.Tuple elts kk tpos) (ItE K S xs k) [e, it] e (fun i h => i ≤ xs.length ∧ (∃ old, IsEnum h e it (k + (i : Int)) old) ∧ S.tn it i h) := by
  have obj : ∀ (i : Nat) (h : Heap), (i ≤ xs.length ∧ (∃ old, IsEnum h e it (k + (i : Int)) old) ∧ S.tn it i h) → ∀ b ∈ [e, it], ∃ o, h.get? b = some o ∧ ∀ v, o.data ≠ .cell v := fun i h st c hc => by
    obtain ⟨_, ⟨old, he⟩, h1⟩ := st
    have e' : c = e ∨ c = it := by simpa using hc
    rcases e' with q | q
    · rw [q]; exact ⟨_, he, fun v q => nomatch q⟩
    · rw [q]; exact S.tn_obj h1
  refine ⟨by simp, obj, fun i h h' st k' => ?_, ?_, ?_, fun A i s Q E st hq => let ⟨_, he⟩ := st.2.1; wpAny_pyIter_enum he hq⟩
  · obtain ⟨hl, ⟨old, he⟩, h1⟩ := st
    exact ⟨hl, ⟨old, k' e (by simp) _ he⟩, S.tn_keep h1 fun o => k' it (by simp) o⟩
  · intro X hP hw hK hc i pins s τ H E I hf st hg
    have ob := obj i _ st
    subst hP hw hK
    obtain ⟨hl, he, t1⟩ := st
    obtain ⟨g1, hi⟩ := hg
    have hh : X.A.in1.handled = none := I.ok.hd hc
    obtain ⟨P1, St1, D1, a1, b1, c1⟩ := Src.draws hh I g1 n1 t1
    refine (GoesN.enumFrom (elts := elts) (x1 := kk) (pos := tpos) k D1 e hei hef List.mem_cons_self).goes i s _ E hi ⟨he, a1⟩ fun v h' tk hY st' hk htk => ?_
    obtain ⟨T, t, u1, rfl, hT, p1, tT⟩ := hY
    obtain ⟨x, hx, rx⟩ := c1 i u1 p1
    have new : ObjOk X.prog X.w (L2.upd H T (.tup [.int (k + (i : Int)), x])) h' T (.tup [.int (k + (i : Int)), x]) := ⟨by show 2 ≤ sizeLine; decide, [.int (k + (i : Int)) t, u1], .cons ⟨t, rfl⟩ (.cons rx .nil), tT⟩
    refine ⟨.ref T, _, I.turnedNew (t' := tk) (ch := [e, it]) (fun b o hb q => hk b o (fun hm => hb hm) q) hf hT new, rfl, ⟨T, x, rfl, I.hok.fresh hT, rfl, hx⟩, ⟨by omega, st'.1, b1 _ _ st'.2⟩, fun b hb => ?_⟩
    obtain ⟨o, eo, _⟩ := ob b hb
    rw [upd_ne (Nat.ne_of_lt (Nat.lt_of_lt_of_le (Heap.lt_size eo) hT))]
    exact (hf b hb).1
  · intro X hP hw hK hc i pins s τ H E I hf st hg
    subst hP hw hK
    obtain ⟨hl, he, t1⟩ := st
    obtain ⟨g1, hi⟩ := hg
    have hh : X.A.in1.handled = none := I.ok.hd hc
    obtain ⟨P1, St1, D1, a1, b1, c1⟩ := Src.draws hh I g1 n1 t1
    obtain rfl : i = xs.length := Nat.le_antisymm hl hi
    exact (GoesN.enumFrom (elts := elts) (x1 := kk) (pos := tpos) k D1 e hei hef List.mem_cons_self).stops s _ E ⟨he, a1⟩ fun h' tk hk htk => I.turnedL (t' := tk) (ch := [e, it]) (fun b o hb q => hk b o (fun hm => hb hm) q) hf
/-- the one argument of enumerate: a list or a text -/
def Src.enumOk : Src → Bool
  | .tup _ => false
  | _ => true
def iE (K : PySem.W.Frag) (ta : TA) : TI := fun σ H R => ta σ H fun vs H1 => ∃ S xs, vs = [Src.v S] ∧ S.enumOk = true ∧ S.has K H1 xs ∧ R (ItE K S xs 0) H1
theorem pi_enumF {X : Cx} {e : Expr} {ta : TA} {p pos tpos : Pos} {elts : List Expr} {kk : Nat} (hg : Gl X "enumerate") (hm : X.mg "enumerate" = none) (ha : PA X [e] ta) (hs : starEach [e] X.env = [(false, eval e X.env)] := by rfl) :
    PI X (.Tuple elts kk tpos) (.Call (.Name "enumerate" p) [e] [] pos) (iE X.K ta) := by
  refine ⟨fun pins s σ H R I h => ?_⟩
  refine Call_ (ld_blt I hg hm boot_enumerate (PyProof.Rows.callWith_type1 (thn (ha.run pos pins s σ H _ I h) fun us s1 hz => ?_) hs rfl))
  obtain ⟨vs, H1, I1, r1, S, xs, rfl, ok, g1, q⟩ := hz
  match us, r1 with
  | [u], .cons r1 .nil =>
    have l1 := Src.lt I1 g1
    have fin : ∀ h', IsEnum h' (s1.heap.objs.size + 1) s1.heap.objs.size 0 .none → S.tn s1.heap.objs.size 0 h' → (∀ b o, s1.heap.get? b = some o → h'.get? b = some o) →
        wpAny (model X.prog X.w) X.A (pyIter (.ref (s1.heap.objs.size + 1))) (PIE X pins σ (.Tuple elts kk tpos) R) X.xe { s1 with heap := h' } := fun h' he ht hk => by
      refine wpAny_pyIter_enum he ?_
      have I2 : Inv X pins σ H1 { s1 with heap := h' } := I1.kept (t' := s1.toks) hk
      refine ⟨s1.heap.objs.size + 1, [s1.heap.objs.size + 1, s1.heap.objs.size], _, _, H1, rfl, I2, turn_enumF (Nat.succ_ne_self _) (fun hmm => ?_) (fun mm => Nat.lt_irrefl _ (l1 _ mm)), ⟨Nat.zero_le _, ⟨.none, he⟩, ht⟩, fun b hb => ?_, q⟩
      · rcases List.mem_cons.mp hmm with z | z
        · exact Nat.succ_ne_self _ z
        · exact Nat.not_lt_of_le (Nat.le_succ _) (l1 _ z)
      · have hle : s1.heap.objs.size ≤ b := by
          have e' : b = s1.heap.objs.size + 1 ∨ b = s1.heap.objs.size := by simpa using hb
          rcases e' with z | z <;> rw [z] <;> first | exact Nat.le_add_right _ _ | exact Nat.le_refl _
        exact I1.fpOk hle (I1.hok.fresh hle)
    cases S with
    | lst a =>
      obtain ⟨its, _, p1, _⟩ := I1.list g1
      obtain rfl : u = Value.ref a := r1
      exact call_enumerate_list p1.isList fun h' he hit hsz hk => fin h' he hit hk
    | tup a => cases ok
    | txt x =>
      obtain ⟨t, rfl⟩ := r1
      exact call_enumerate_str fun h' he hit hsz hk => fin h' he ⟨t, hit⟩ hk
/-! ### over data -/
/-- the items of a walked datum -/
inductive SrcD : R → List D → Prop
  | lst {ds} : SrcD (.dat (.lst ds)) ds
  | tup {ds} : SrcD (.dat (.tup ds)) ds
  | str {s} : SrcD (rS s) (s.map fun c => .str [c])
section
variable {X : Cx} {c : Ct} {σ : Sl} {m : Mem} {elts : List Expr} {kk : Nat} {tpos p pos : Pos} {e e2 : Expr} {K : List D → Mem → Prop}
theorem SrcD.src {Kf : PySem.W.Frag} {G : Hp} {r : R} {ds : List D} {v : V} (h : SrcD r ds) (rv : RelR Kf G r v) : ∃ (S : Src) (vs : List V), v = S.v ∧ (∀ H, Ex G H → S.has Kf H vs) ∧ Reps Kf G ds vs ∧ (S.enumOk = true ∨ ∃ ds', r = .dat (.tup ds')) := by
  cases h with
  | lst =>
    cases rv with | dat rv =>
    cases rv with | @lst a xs vs hs rr => exact ⟨.lst a, vs, rfl, fun H ex => ex_l ex hs, rr, .inl rfl⟩
  | tup =>
    cases rv with | dat rv =>
    cases rv with | @tup a xs vs hs rr => exact ⟨.tup a, vs, rfl, fun H ex => ex_t ex hs, rr, .inr ⟨_, rfl⟩⟩
  | @str s =>
    cases str_of rv
    refine ⟨.txt (sOf s), signs (sOf s), rfl, fun H ex => rfl, ?_, .inl rfl⟩
    unfold signs
    rw [show (sOf s).cps.toList = s from lit_sOf s]
    induction s with
    | nil => exact .nil
    | cons ch s ih => exact .cons (Rep.str (s := [ch])) (ih (.dat .str))
def zipD (xs ys : List D) : List D := List.zipWith (fun a b => .tup [a, b]) xs ys
theorem zipD_at {xs ys : List D} {i : Nat} {d : D} (h : (zipD xs ys)[i]? = some d) : ∃ x y, xs[i]? = some x ∧ ys[i]? = some y ∧ d = .tup [x, y] := by
  unfold zipD at h
  rw [List.getElem?_zipWith] at h
  cases h1 : xs[i]? with
  | none => rw [h1] at h; cases h
  | some x =>
    cases h2 : ys[i]? with
    | none => rw [h1, h2] at h; cases h
    | some y => rw [h1, h2] at h; cases h; exact ⟨x, y, rfl, rfl, rfl⟩
theorem zipD_len (xs ys : List D) : (zipD xs ys).length = min xs.length ys.length := by simp [zipD]
theorem it_zip (hg : Gl X "zip") (hm : X.mg "zip" = none) (h : DA X c σ m [e, e2] (fun rs m1 => ∃ r1 r2 xs ys, rs = [r1, r2] ∧ SrcD r1 xs ∧ SrcD r2 ys ∧ K (zipD xs ys) m1))
    (hs : starEach [e, e2] X.env = (false, eval e X.env) :: starEach [e2] X.env := by rfl) (hpl : (backTo pos (starEach [e2] X.env)).any (·.1) = false := by rfl) : DIt X c σ m (.Tuple elts kk tpos) (.Call (.Name "zip" p) [e, e2] [] pos) K := by
  refine ⟨_, pi_zip2 hg hm (pa_t (c := c)) hs hpl, fun τ H G R' E q => ⟨σ, m, G, _, E, h, fun rs m1 G1 H1 vs ⟨r1, r2, xs, ys, er, s1, s2, z⟩ x1 E1 rv => ?_⟩⟩
  subst er
  obtain ⟨v, u, rfl, q1, q2⟩ := two_of rv
  obtain ⟨S1, as, rfl, a1, b1, _⟩ := s1.src q1
  obtain ⟨S2, bs, rfl, a2, b2, _⟩ := s2.src q2
  refine ⟨S1, S2, as, bs, rfl, a1 _ E1.sub, a2 _ E1.sub, q _ m1 G1 H1 _ z x1 E1 fun i H2 ex => ⟨fun d hd => ?_, fun hl => ⟨a1 _ ex, a2 _ ex, by rw [zipD_len] at hl; rw [← b1.length, ← b2.length]; exact hl⟩⟩⟩
  obtain ⟨x, y, hx, hy, rfl⟩ := zipD_at hd
  have lx := (List.getElem?_eq_some_iff.mp hx).1
  have ly := (List.getElem?_eq_some_iff.mp hy).1
  refine ⟨⟨a1 _ ex, a2 _ ex, by rw [← b1.length, ← b2.length]; omega⟩, fun v H' hyd => .inr ?_⟩
  obtain ⟨T, vx, vy, rfl, hT, rfl, ex1, ey1⟩ := hyd
  obtain ⟨vx', e1, rx⟩ := b1.rel.get (show (xs.map R.dat)[i]? = some (.dat x) by rw [List.getElem?_map, hx]; rfl)
  obtain ⟨vy', e2, ry⟩ := b2.rel.get (show (ys.map R.dat)[i]? = some (.dat y) by rw [List.getElem?_map, hy]; rfl)
  rw [ex1] at e1; cases e1
  rw [ey1] at e2; cases e2
  cases rx with | dat rx =>
  cases ry with | dat ry =>
  have gT : G1 T = none := ex.back hT
  exact ⟨T, _, hT, rfl, .tup (.inl (.inl upd_same)) (.cons (rx.mono (Ex.new gT)) (.cons (ry.mono (Ex.new gT)) .nil))⟩
def enumD (k : Int) (ds : List D) : List D := (List.range ds.length).map fun (i : Nat) => .tup [.int (k + (i : Int)), ds.getD i .non]
theorem enumD_at {k : Int} {ds : List D} {i : Nat} {d : D} (h : (enumD k ds)[i]? = some d) : ∃ hi : i < ds.length, d = .tup [.int (k + (i : Int)), ds[i]] := by
  unfold enumD at h
  rw [List.getElem?_map] at h
  by_cases hi : i < ds.length
  · rw [List.getElem?_range hi] at h
    cases h
    exact ⟨hi, by show D.tup [D.int _, ds.getD i .non] = _; rw [List.getD_eq_getElem?_getD, List.getElem?_eq_getElem hi]; rfl⟩
  · rw [List.getElem?_eq_none (by simpa using Nat.le_of_not_lt hi)] at h
    cases h
theorem enumD_len (k : Int) (ds : List D) : (enumD k ds).length = ds.length := by simp [enumD]
theorem walks_enum {Kf : PySem.W.Frag} {G : Hp} {S : Src} {as : List V} {xs : List D} {k : Int} (a1 : ∀ H, Ex G H → S.has Kf H as) (b1 : Reps Kf G xs as) : Walks Kf (ItE Kf S as k) (enumD k xs) G := fun i H2 ex => by
  refine ⟨fun d hd => ?_, fun hl => ⟨a1 _ ex, by rw [enumD_len] at hl; rw [← b1.length]; exact hl⟩⟩
  obtain ⟨hi, rfl⟩ := enumD_at hd
  refine ⟨⟨a1 _ ex, by rw [← b1.length]; exact hi⟩, fun v H' hyd => .inr ?_⟩
  obtain ⟨T, vx, rfl, hT, rfl, ex1⟩ := hyd
  obtain ⟨vx', e1, rx⟩ := b1.rel.get (show (xs.map R.dat)[i]? = some (.dat xs[i]) by rw [List.getElem?_map, List.getElem?_eq_getElem hi]; rfl)
  rw [ex1] at e1; cases e1
  cases rx with | dat rx =>
  have gT : G T = none := ex.back hT
  exact ⟨T, _, hT, rfl, .tup (.inl (.inl upd_same)) (.cons .int (.cons (rx.mono (Ex.new gT)) .nil))⟩
theorem it_enumL (hg : Gl X "enumerate") (hm : X.mg "enumerate" = none) (h : DE X c σ m e (fun r m1 => ∃ xs, SrcD r xs ∧ (∀ ds, r ≠ .dat (.tup ds)) ∧ K (enumD 0 xs) m1)) (hs : starEach [e] X.env = [(false, eval e X.env)] := by rfl) (hs0 : starEach [e] X.env = (false, eval e X.env) :: starEach [] X.env := by rfl) : DIt X c σ m (.Tuple elts kk tpos) (.Call (.Name "enumerate" p) [e] [] pos) K := by
  refine ⟨_, pi_enumF hg hm (pa_t (c := c)) hs, fun τ H G R' E q => ⟨σ, m, G, fun rs m1 => ∃ r xs, rs = [r] ∧ SrcD r xs ∧ (∀ ds, r ≠ .dat (.tup ds)) ∧ K (enumD 0 xs) m1, E, da_cons (h.imp fun r m1 ⟨xs, a, b, z⟩ => da_nil ⟨r, xs, rfl, a, b, z⟩) hs0, fun rs m1 G1 H1 vs ⟨r, xs, er, s1, nt, z⟩ x1 E1 rv => ?_⟩⟩
  subst er
  obtain ⟨v, rfl, q1⟩ := one_of rv
  obtain ⟨S, as, rfl, a1, b1, ok⟩ := s1.src q1
  refine ⟨S, as, rfl, ok.resolve_right fun ⟨ds, e⟩ => nt ds e, a1 _ E1.sub, q _ m1 G1 H1 _ z x1 E1 (walks_enum a1 b1)⟩
end
end D2
/-! ## D2KeepF -/
/-! a statement under which an own list stays as it is; for at, x in enumerate(own list); an own dict handed on as data -/
namespace D2
open PySem PySem.Spec PyProof.Rows L2
/-- as Walks, where a state stands -/
def WalksE (X : Cx) (c : Ct) (J : It) (ds : List D) (G : Hp) : Prop := ∀ i H τ σ m G', Ex G G' → EnvOk X c σ m G' τ H →
  (∀ d, ds[i]? = some d → J.go i H ∧ ∀ x H', J.yld i H x H' → (H' = H ∧ Rep X.K G' d x) ∨ ∃ p ho, H p = none ∧ H' = L2.upd H p ho ∧ Rep X.K (L2.upd G' p ho) d x) ∧ (ds.length ≤ i → J.stop i H)
def DItE (X : Cx) (c : Ct) (σ : Sl) (m : Mem) (tg iter : Expr) (K : List D → Mem → Prop) : Prop :=
  ∃ wi : TI, PI X tg iter wi ∧ ∀ (τ : L2.St) (H G : Hp) (R' : It → Hp → Prop), EnvOk X c σ m G τ H →
    (∀ ds m' G' H' J, K ds m' → Ex G G' → EnvOk X c σ m' G' τ H' → WalksE X c J ds G' → R' J H') → wi τ H R'
section
variable {X : Cx} {c : Ct} {σ : Sl} {m m0 : Mem} {k : Nat} {tg iter : Expr} {body : List Stmt} {pos p : Pos} {en : En} {e : Expr} {a : Addr} {x : Str}
theorem ds_forE {ds : List D} (I : Nat → Sl → Mem → Prop) (L : Live X c k) (hit : DItE X c σ m tg iter (fun ds' m1 => ds' = ds ∧ I 0 σ m1))
    (hturn : ∀ i d σ' m', ds[i]? = some d → I i σ' m' → DG X c σ' m' tg (.dat d) (fun σ2 m2 => DSs X c σ2 m2 body { nx := I (i + 1), ct := I (i + 1), bk := en.nx, rt := en.rt }))
    (hend : ∀ σ' m', I ds.length σ' m' → en.nx σ' m') (hs : ∀ x, foldedSetIterable iter X.env x = pure x := by intro _; rfl) : DS X c σ m (.For tg iter body [] pos) en := fun F pins s τ H G D Iv E fx ft => by
  obtain ⟨wi, hpi, hw⟩ := hit
  refine (ps_for L.own L.calm hpi pg_t (pss_t (c := c)) hs).run pins s τ H D Iv (hw τ H G _ E fun ds' m1 G1 H1 J ⟨ed, z⟩ x1 E1 wk => ?_)
  subst ed
  refine ⟨fun i n τ' H' => n = ds'.length - i ∧ i ≤ ds'.length ∧ ∃ σ' m' G', I i σ' m' ∧ EnvOk X c σ' m' G' τ' H' ∧ Ex G1 G', ⟨_, rfl, Nat.zero_le _, σ, m1, G1, z, E1, Ex.refl G1⟩, ?_⟩
  rintro i n τ' H' ⟨rfl, hi, σ', m', G', hI, E', x'⟩
  obtain ⟨w1, w2⟩ := wk i H' τ' σ' m' G' x' E'
  by_cases hlt : i < ds'.length
  · obtain ⟨go, yl⟩ := w1 ds'[i] (List.getElem?_eq_getElem hlt)
    refine .inr ⟨go, fun τ2 H2 => ∃ σ2 m2 G2, I (i + 1) σ2 m2 ∧ EnvOk X c σ2 m2 G2 τ2 H2 ∧ Ex G1 G2, fun τ2 H2 ⟨σ2, m2, G2, h1, h2, h3⟩ => ⟨ds'.length - (i + 1), by omega, rfl, hlt, σ2, m2, G2, h1, h2, h3⟩, fun x H2 hy => ?_⟩
    have T := hturn i ds'[i] σ' m' (List.getElem?_eq_getElem hlt) hI
    have go2 : ∀ G3 H3, Ex G' G3 → EnvOk X c σ' m' G3 τ' H3 → RelR X.K G3 (.dat ds'[i]) x → gT X tg x τ' H3 fun τ4 H4 => tSs X c body { D with nx := fun τ2 H2 => ∃ σ2 m2 G2, I (i + 1) σ2 m2 ∧ EnvOk X c σ2 m2 G2 τ2 H2 ∧ Ex G1 G2, ct := fun τ2 H2 => ∃ σ2 m2 G2, I (i + 1) σ2 m2 ∧ EnvOk X c σ2 m2 G2 τ2 H2 ∧ Ex G1 G2, bk := D.nx } τ4 H4 := fun G3 H3 x3 E3 r3 =>
      T x τ' H3 G3 _ E3 r3 fun σ4 m4 G4 τ4 H4 z4 x4 E4 => by
        have up : Ex G1 G4 := (x'.trans x3).trans x4
        refine ⟨G4, σ4, m4, G4, _, E4, z4, Ex.refl G4, ?_⟩
        exact ⟨fun σ5 m5 G5 τ5 H5 q y E5 => ⟨σ5, m5, G5, q, E5, up.trans y⟩, fun r σ5 m5 G5 τ5 H5 v q y E5 rv => ft.rt r σ5 m5 G5 τ5 H5 v q (((fx.trans x1).trans up).trans y) E5 rv,
          fun σ5 m5 G5 τ5 H5 q y E5 => ft.nx σ5 m5 G5 τ5 H5 q (((fx.trans x1).trans up).trans y) E5, fun σ5 m5 G5 τ5 H5 q y E5 => ⟨σ5, m5, G5, q, E5, up.trans y⟩⟩
    rcases yl x H2 hy with ⟨eH, rx⟩ | ⟨p, ho, hp, eH, rx⟩
    · subst eH
      exact go2 G' _ (Ex.refl G') E' (.dat rx)
    · subst eH
      have g1 : G' p = none := E'.sub.back hp
      exact go2 (L2.upd G' p ho) _ (Ex.new g1) (E'.newG hp) (.dat rx)
  · have e : i = ds'.length := by omega
    subst e
    exact .inl ⟨w2 (Nat.le_refl _), ft.nx σ' m' G' τ' H' (hend σ' m' hI) ((fx.trans x1).trans x') E'⟩
/-- what is known of the kept list -/
def Kept (X : Cx) (c : Ct) (a : Addr) (ds : List D) : Prop := ∃ vs, c.H0 a = some (.lst vs) ∧ a ∉ c.mu ∧ Reps X.K c.G0 ds vs
theorem Kept.at {ds : List D} (h : Kept X c a ds) {τ : L2.St} {G H : Hp} (E : EnvOk X c σ m G τ H) : ∃ vs, H a = some (.lst vs) ∧ Reps X.K G ds vs := by
  obtain ⟨vs, h1, h2, h3⟩ := h
  exact ⟨vs, E.fr a _ h1 h2, h3.mono E.g0⟩
/-- a statement under which a part of the owned objects stays as it is -/
theorem ds_frame {st : Stmt} {mf rest : Mem} (L : Live X c k) (hs : Split m mf rest)
    (h : ∀ c', Live X c' k → (∀ σ' m' C fs, c.ex σ' (m' ++ rest) C fs → c'.ex σ' m' C fs) →
      (∀ τ H G, EnvOk X c σ m G τ H → c' = ctSub c H G mf (fun σ' m' C fs => c.ex σ' (m' ++ rest) C fs) →
      DS X c' σ mf st { nx := fun σ' m' => en.nx σ' (m' ++ rest), rt := fun r m' => en.rt r (m' ++ rest), bk := fun σ' m' => en.bk σ' (m' ++ rest), ct := fun σ' m' => en.ct σ' (m' ++ rest) })) : DS X c σ m st en := fun F pins s τ H G D Iv E fx ft => by
  have E' : EnvOk X (ctSub c H G mf fun σ' m' C fs => c.ex σ' (m' ++ rest) C fs) σ mf G τ H := E.into hs
  have bk : ∀ {σ' : Sl} {m' : Mem} {G' : Hp} {τ' : L2.St} {H' : Hp}, EnvOk X (ctSub c H G mf fun σ' m' C fs => c.ex σ' (m' ++ rest) C fs) σ' m' G' τ' H' → EnvOk X c σ' (m' ++ rest) G' τ' H' := fun e => E.back hs e
  have L' : Live X (ctSub c H G mf fun σ' m' C fs => c.ex σ' (m' ++ rest) C fs) k := ⟨L.own, L.tk.imp fun cls d τ' H' ⟨σ', m', G', C, fs, e1, e2, e3, e4⟩ => ⟨σ', m' ++ rest, G', C, fs, e1, e2, bk e3, e4⟩, L.calm, L.room⟩
  exact h _ L' (fun _ _ _ _ z => z) τ H G E rfl F pins s τ H G D Iv E' fx ⟨fun σ' m' G' τ' H' z x e => ft.nx σ' _ G' τ' H' z x (bk e), fun r σ' m' G' τ' H' v z x e rv => ft.rt r σ' _ G' τ' H' v z x (bk e) rv, fun σ' m' G' τ' H' z x e => ft.bk σ' _ G' τ' H' z x (bk e), fun σ' m' G' τ' H' z x e => ft.ct σ' _ G' τ' H' z x (bk e)⟩
/-- a statement that leaves an own list alone -/
theorem ds_keep {st : Stmt} {ds : List D} {rs0 : List R} (L : Live X c k) (hrs : rs0 = ds.map .dat) (hc : Split m m0 [(a, .lst rs0)])
    (h : ∀ c', Live X c' k → Kept X c' a ds → (∀ σ' m' C fs, c.ex σ' (m' ++ [(a, .lst rs0)]) C fs → c'.ex σ' m' C fs) →
      DS X c' σ m0 st { nx := fun σ' m' => en.nx σ' (m' ++ [(a, .lst rs0)]), rt := fun r m' => en.rt r (m' ++ [(a, .lst rs0)]), bk := fun σ' m' => en.bk σ' (m' ++ [(a, .lst rs0)]), ct := fun σ' m' => en.ct σ' (m' ++ [(a, .lst rs0)]) }) : DS X c σ m st en := by
  subst hrs
  refine ds_frame L hc fun c' L' hx τ H G E ec => h c' L' ?_ hx
  subst ec
  have pm := hc.perm
  have ha : (a, O.lst (ds.map .dat)) ∈ m := pm.mem_iff.mpr (List.mem_append_right _ List.mem_cons_self)
  obtain ⟨g, ho, hh, ro⟩ := E.mem _ ha
  cases ro with | @lst _ vs ro =>
  refine ⟨vs, hh, fun z => ?_, ro.reps⟩
  have nd : ((m0 ++ [(a, O.lst (ds.map .dat))]).map (·.1)).Nodup := (pm.map _).nodup_iff.mp E.nd
  rw [List.map_append, List.nodup_append] at nd
  exact nd.2.2 a z a (by simp) rfl
theorem it_enumO {ds : List D} {elts : List Expr} {kk : Nat} {tpos px : Pos} {K : List D → Mem → Prop} (hg : Gl X "enumerate") (hm : X.mg "enumerate" = none) (hx : Lk σ x (.own a)) (hk : Kept X c a ds) (h : K (enumD 0 ds) m)
    (hs : starEach [.Name x px] X.env = [(false, eval (.Name x px) X.env)] := by rfl) (hs0 : starEach [.Name x px] X.env = (false, eval (.Name x px) X.env) :: starEach [] X.env := by rfl) : DItE X c σ m (.Tuple elts kk tpos) (.Call (.Name "enumerate" p) [.Name x px] [] pos) K := by
  refine ⟨_, pi_enumF hg hm (pa_t (c := c)) hs, fun τ H G R' E q => ⟨σ, m, G, fun rs m1 => rs = [.own a] ∧ m1 = m, E, da_cons (de_name hx (da_nil ⟨rfl, rfl⟩)) hs0, fun rs m1 G1 H1 vs ⟨er, em⟩ x1 E1 rv => ?_⟩⟩
  subst er em
  obtain ⟨v, rfl, q1⟩ := one_of rv
  cases q1
  obtain ⟨us, hh, rr⟩ := hk.at E1
  refine ⟨.lst a, us, rfl, rfl, SqL.of hh, q _ _ G1 H1 _ h x1 E1 fun i H2 τ2 σ2 m2 G2 x2 E2 => ?_⟩
  have hh2 : H2 a = some (.lst us) := by
    obtain ⟨vs, e1, e2, _⟩ := hk
    have z1 := E1.fr a _ e1 e2
    rw [hh] at z1
    cases z1
    exact E2.fr a _ e1 e2
  have r2 := rr.mono x2
  refine ⟨fun d hd => ?_, fun hl => ⟨SqL.of hh2, by rw [enumD_len] at hl; rw [← r2.length]; exact hl⟩⟩
  obtain ⟨hi, rfl⟩ := enumD_at hd
  refine ⟨⟨SqL.of hh2, by rw [← r2.length]; exact hi⟩, fun v H' hyd => .inr ?_⟩
  obtain ⟨T, vx, rfl, hT, rfl, ex1⟩ := hyd
  obtain ⟨vx', e1, rx⟩ := r2.rel.get (show (ds.map R.dat)[i]? = some (.dat ds[i]) by rw [List.getElem?_map, List.getElem?_eq_getElem hi]; rfl)
  rw [ex1] at e1; cases e1
  cases rx with | dat rx =>
  have gT : G2 T = none := E2.sub.back hT
  exact ⟨T, _, hT, rfl, .tup (.inl (.inl upd_same)) (.cons .int (.cons (rx.mono (Ex.new gT)) .nil))⟩
/-- an own dict handed on as data -/
theorem de_frzK {K : R → Mem → Prop} (h : DE X c σ m e (fun r m1 => ∃ b xs m2, r = .own b ∧ Has m1 b (.dk (xs.map fun p => (p.1, R.dat p.2))) m2 ∧ K (.dat (.dk xs)) m2)) : DE X c σ m e K := fun pins s τ H G Q I E q => by
  refine thn (h pins s τ H G (fun v H1 => ∃ b xs m1 m2 G1, v = .ref b ∧ Ex G G1 ∧ EnvOk X c σ m1 G1 τ H1 ∧ Has m1 b (.dk (xs.map fun p => (p.1, R.dat p.2))) m2 ∧ K (.dat (.dk xs)) m2) I E fun r m1 G1 H1 v ⟨b, xs, m2, er, hh, z⟩ x1 E1 rv => by subst er; cases rv; exact ⟨b, xs, m1, m2, G1, rfl, x1, E1, hh, z⟩) fun v s1 hv => ?_
  obtain ⟨v0, H1, I1, rv, b, xs, m1, m2, G1, rfl, x1, E1, hh, z⟩ := hv
  obtain ⟨ga, ho, hho, ro⟩ := E1.mem _ hh.mem
  cases ro with | @dk _ vs ro =>
  obtain ⟨od, I2⟩ := I1.lock hho True.intro
  obtain ⟨m3, hc2, hr2⟩ := hh.chg (.any (.frz od (.dK vs)))
  obtain ⟨u, hu, _, _, E3⟩ := (E1.chg hc2 (RelO.any (o := .frz od (.dK vs)))).frz hr2
  rw [upd_same] at hu
  cases hu
  have x2 : Ex G1 (L2.upd G1 b (.frz od (.dK vs))) := Ex.new ga
  exact ⟨.ref b, _, I2, rv, q _ _ _ _ _ z (x1.trans x2) E3 (.dat (.dk upd_same ((relK_repk ro).mono x2)))⟩
end
end D2
/-! ## D2EnumK -/
/-! enumerate(x, start=k) -/
namespace PyProof.Rows
open PySem PySem.Spec
section
variable {prog : Program} {w : World} {A : Around} {E : Value → Shared → Prop} {s : Shared}
theorem callWith_typeK {pos : Pos} {T : String} {first : List Value} {args : List (Bool × Sem Value)} {keywords : List (Option Str × Sem Value)} {Q : Value → Shared → Prop}
    (hplain : args.any (·.1) = false) (hkw : keywords.any (·.1.isNone) = false)
    (h : wpAny (model prog w) A (evalArgs (.type T) true args keywords) (fun a s₁ => wpAny (model prog w) A (call (.type T) (first ++ a.pos) a.kw) Q E s₁) E s) :
    wpAny (model prog w) A (callWith pos (.type T) first args keywords) Q E s := by
  unfold callWith
  refine wpAny_bind (wpAny_holding (wpAny_mono h (fun a s₁ h₁ => wpAny_bind (wpAny_standAt ?_)) fun _ _ x => x))
  simp only [hplain, hkw, Bool.or_false]
  refine wpAny_bind (wpAny_pure ?_)
  exact wpAny_bind (wpAny_mono h₁ (fun r s₂ hr => wpAny_bind (wpAny_holding (wpAny_point (wpAny_pure hr)))) fun _ _ x => x)
end
end PyProof.Rows
namespace D2
open PySem PySem.Spec PyProof.Rows L2
def iEK (K : PySem.W.Frag) (te tk : TE) : TI := fun σ H R => te σ H fun x H1 => tk σ H1 fun y H2 => ∃ S xs k, x = Src.v S ∧ y = .int k ∧ (-(2 ^ 63) ≤ k ∧ k < 2 ^ 63) ∧ S.has K H2 xs ∧ R (ItE K S xs k) H2
theorem pi_enumK {X : Cx} {e e2 : Expr} {te tk : TE} {p pos tpos kp : Pos} {elts : List Expr} {kk : Nat} (hg : Gl X "enumerate") (hm : X.mg "enumerate" = none) (he : PE X e te) (hk : PE X e2 tk)
    (hs : backTo pos (starEach [e] X.env) = (false, eval e X.env) :: backTo pos (starEach [] X.env) := by rfl) (hpl : (backTo pos (starEach [e] X.env)).any (·.1) = false := by rfl)
    (hall : (backToKw pos (keywordEach [⟨some "start", e2, kp⟩] X.env)).all (·.1.isSome) = true := by rfl) (hnone : (backToKw pos (keywordEach [⟨some "start", e2, kp⟩] X.env)).any (·.1.isNone) = false := by rfl) (hks : (backToKw pos (keywordEach [⟨some "start", e2, kp⟩] X.env)).filterMap (·.1) = ([("start" : Str)] : List Str) := by rfl) :
    PI X (.Tuple elts kk tpos) (.Call (.Name "enumerate" p) [e] [⟨some "start", e2, kp⟩] pos) (iEK X.K te tk) := by
  refine ⟨fun pins s σ H R I h => ?_⟩
  refine wpAny_Call_Name_kw (ld_blt I hg hm boot_enumerate ?_)
  refine callWith_typeK hpl hnone ?_
  rw [hs]
  refine evalArgs_kwB hall (Calls.spliced_cons (thn (he.run pins s σ H _ I h) fun u s1 ⟨x, H1, I1, rx, q1⟩ => Calls.spliced_nil (kws_cons (thn (hk.run pins s1 σ H1 _ I1 q1) fun u2 s2 ⟨y, H2, I2, ry, q2⟩ => kws_nil ?_))))
  obtain ⟨S, xs, k, rfl, rfl, ⟨k0, k1⟩, g1, q⟩ := q2
  obtain ⟨t, rfl⟩ := ry
  rw [hks]
  have l1 := Src.lt I2 g1
  obtain ⟨o, Hh, B, hB, ht⟩ := Src.begins I2 g1 rx
  refine enum_begins_start B hB k0 k1 fun h' he' ho hsz hk' => ?_
  refine wpAny_pyIter_enum he' ?_
  have I3 : Inv X pins σ H2 { s2 with heap := h' } := I2.kept (t' := s2.toks) hk'
  refine ⟨s2.heap.objs.size + 1, [s2.heap.objs.size + 1, s2.heap.objs.size], _, _, H2, rfl, I3, turn_enumF (k := k) (Nat.succ_ne_self _) (fun hmm => ?_) (fun mm => Nat.lt_irrefl _ (l1 _ mm)), ⟨Nat.zero_le _, ⟨.none, by rw [show k + ((0 : Nat) : Int) = k by omega]; exact he'⟩, ht _ _ ho⟩, fun b hb => ?_, q⟩
  · rcases List.mem_cons.mp hmm with z | z
    · exact Nat.succ_ne_self _ z
    · exact Nat.not_lt_of_le (Nat.le_succ _) (l1 _ z)
  · have hle : s2.heap.objs.size ≤ b := by
      have e' : b = s2.heap.objs.size + 1 ∨ b = s2.heap.objs.size := by simpa using hb
      rcases e' with z | z <;> rw [z] <;> first | exact Nat.le_add_right _ _ | exact Nat.le_refl _
    exact I2.fpOk hle (I2.hok.fresh hle)
section
variable {X : Cx} {c : Ct} {σ : Sl} {m : Mem} {elts : List Expr} {kk : Nat} {tpos p pos kp : Pos} {e e2 : Expr} {K : List D → Mem → Prop}
theorem it_enumK (hg : Gl X "enumerate") (hm : X.mg "enumerate" = none) (h : DE X c σ m e (fun r m1 => ∃ xs, SrcD r xs ∧ DE X c σ m1 e2 (fun r2 m2 => ∃ k, r2 = rI k ∧ (-(2 ^ 63) ≤ k ∧ k < 2 ^ 63) ∧ K (enumD k xs) m2)))
    (hs : backTo pos (starEach [e] X.env) = (false, eval e X.env) :: backTo pos (starEach [] X.env) := by rfl) (hpl : (backTo pos (starEach [e] X.env)).any (·.1) = false := by rfl)
    (hall : (backToKw pos (keywordEach [⟨some "start", e2, kp⟩] X.env)).all (·.1.isSome) = true := by rfl) (hnone : (backToKw pos (keywordEach [⟨some "start", e2, kp⟩] X.env)).any (·.1.isNone) = false := by rfl) (hks : (backToKw pos (keywordEach [⟨some "start", e2, kp⟩] X.env)).filterMap (·.1) = ([("start" : Str)] : List Str) := by rfl) :
    DIt X c σ m (.Tuple elts kk tpos) (.Call (.Name "enumerate" p) [e] [⟨some "start", e2, kp⟩] pos) K := by
  refine ⟨_, pi_enumK hg hm (pe_t (c := c)) (pe_t (c := c)) hs hpl hall hnone hks, fun τ H G R' E q => ⟨σ, m, G, _, E, h, fun r m1 G1 H1 v ⟨xs, s1, d⟩ x1 E1 rv => ⟨σ, m1, G1, _, E1, d, fun r2 m2 G2 H2 v2 ⟨k, e2, k01, z⟩ x2 E2 rv2 => ?_⟩⟩⟩
  subst e2
  cases int_of rv2
  obtain ⟨S, as, rfl, a1, b1, ok⟩ := s1.src rv
  exact ⟨S, as, k, rfl, rfl, k01, a1 _ (x2.trans E2.sub), q _ m2 G2 H2 _ z (x1.trans x2) E2 (walks_enum (fun H ex => a1 H (x2.trans ex)) (b1.mono x2))⟩
end
end D2
/-! ## D2EnumB -/
/-! enumerate(x), x a list, a tuple or a text -/
namespace PySem
open PyProof.Rows
/-- the two cells of enumerate(v) -/
def eCell (n : Nat) : Obj := { cls := .type "enumerate", data := .fields #[.none, .bool false, .ref n, rawInt 0, .none, .none] }
theorem newEnumB {v : Value} {o : Obj} {Hq : Heap → Prop} (B : Begins v o Hq) : Meets (Builtin.«enumerate.__new__» ⟨[.type "enumerate", v], []⟩) (fun _ R z => Hq z.heap ∧
      R (.ok (.ret (.ref (z.heap.push o).objs.size))) { z with heap := (z.heap.push o).push (eCell z.heap.objs.size) }) := .of_wp fun pg wd Ar Rs st hh => by
    obtain ⟨q0, q1⟩ := hh
    obtain ⟨H0, G0, D0, T0, O0⟩ := st
    have kSub := sub_enumerate
    have kIt : ∀ {A' : Around} {E : Value → Shared → Prop} {Q : Value → Shared → Prop}, Q (.ref H0.objs.size) ⟨H0.push o, G0, D0, T0, O0⟩ → wpAny (model pg wd) A' (pyIter v) Q E ⟨H0, G0, D0, T0, O0⟩ := fun q => B.iter pg wd _ _ ⟨H0, G0, D0, T0, O0⟩ _ q0 q
    wp_walk using kIt
    refine wpAny_stack_any fun k => wpAny_pure ?_
    split
    · rename_i cl _ _ _ _ _
      cases (cl == Value.type "enumerate") <;> (wp_walk using kIt; exact ⟨_, rfl, q1⟩)
    · wp_walk using kIt
      exact ⟨_, rfl, q1⟩
section
variable {pg : Program} {wd : World} {A : Around} {E : Value → Shared → Prop} {z : Shared}
theorem callEnumB {v : Value} {o : Obj} {Hq : Heap → Prop} {Q : Value → Shared → Prop} (B : Begins v o Hq) (h1 : Hq z.heap)
    (h : ∀ h', IsEnum h' (z.heap.objs.size + 1) z.heap.objs.size 0 .none → h'.get? z.heap.objs.size = some o → (∀ b u, z.heap.get? b = some u → h'.get? b = some u) → Q (.ref (z.heap.objs.size + 1)) { z with heap := h' }) :
    wpAny (model pg wd) A (call (.type "enumerate") [v]) Q E z := by
  refine callType_new F.called_enumerate (by decide) (F.typeCall_enumerate_1 _) (F.newCall_enumerate_1 _) (fun u => F.args_object_init_2 u _) F.entry_enumerate_new (newEnumB B) ⟨h1, ?_⟩
  have hz : (z.heap.push o).objs.size = z.heap.objs.size + 1 := Heap.size_push ..
  show _ ∧ _
  rw [hz]
  have he : IsEnum ((z.heap.push o).push (eCell z.heap.objs.size)) (z.heap.objs.size + 1) z.heap.objs.size 0 .none := by
    have g := Heap.get?_push_size (z.heap.push o) (o := eCell z.heap.objs.size) rfl
    rwa [hz] at g
  exact ⟨⟨_, he, rfl⟩, h _ he (Heap.get?_push_of_some _ (Heap.get?_push_size _ B.free)) fun b u x => Heap.get?_push_of_some _ (Heap.get?_push_of_some _ x)⟩
end
end PySem
namespace D2
open PySem PySem.Spec PyProof.Rows L2
def iEB (K : PySem.W.Frag) (ta : TA) : TI := fun σ H R => ta σ H fun vs H1 => ∃ S xs, vs = [Src.v S] ∧ S.has K H1 xs ∧ R (ItE K S xs 0) H1
theorem pi_enumB {X : Cx} {e : Expr} {ta : TA} {p pos tpos : Pos} {elts : List Expr} {kk : Nat} (hg : Gl X "enumerate") (hm : X.mg "enumerate" = none) (ha : PA X [e] ta) (hs : starEach [e] X.env = [(false, eval e X.env)] := by rfl) :
    PI X (.Tuple elts kk tpos) (.Call (.Name "enumerate" p) [e] [] pos) (iEB X.K ta) := by
  refine ⟨fun pins s σ H R I h => ?_⟩
  refine Call_ (ld_blt I hg hm boot_enumerate (PyProof.Rows.callWith_type1 (thn (ha.run pos pins s σ H _ I h) fun us s1 hz => ?_) hs rfl))
  obtain ⟨vs, H1, I1, r1, S, xs, rfl, g1, q⟩ := hz
  match us, r1 with
  | [u], .cons r1 .nil =>
    have l1 := Src.lt I1 g1
    obtain ⟨o, Hh, B, hB, ht⟩ := Src.begins I1 g1 r1
    refine callEnumB B hB fun h' he' ho hk' => ?_
    refine wpAny_pyIter_enum he' ?_
    have I3 : Inv X pins σ H1 { s1 with heap := h' } := I1.kept (t' := s1.toks) hk'
    refine ⟨s1.heap.objs.size + 1, [s1.heap.objs.size + 1, s1.heap.objs.size], _, _, H1, rfl, I3, turn_enumF (Nat.succ_ne_self _) (fun hmm => ?_) (fun mm => Nat.lt_irrefl _ (l1 _ mm)), ⟨Nat.zero_le _, ⟨.none, he'⟩, ht _ _ ho⟩, fun b hb => ?_, q⟩
    · rcases List.mem_cons.mp hmm with z | z
      · exact Nat.succ_ne_self _ z
      · exact Nat.not_lt_of_le (Nat.le_succ _) (l1 _ z)
    · have hle : s1.heap.objs.size ≤ b := by
        have e' : b = s1.heap.objs.size + 1 ∨ b = s1.heap.objs.size := by simpa using hb
        rcases e' with z | z <;> rw [z] <;> first | exact Nat.le_add_right _ _ | exact Nat.le_refl _
      exact I1.fpOk hle (I1.hok.fresh hle)
section
variable {X : Cx} {c : Ct} {σ : Sl} {m : Mem} {elts : List Expr} {kk : Nat} {tpos p pos : Pos} {e : Expr} {K : List D → Mem → Prop}
theorem it_enumB (hg : Gl X "enumerate") (hm : X.mg "enumerate" = none) (h : DE X c σ m e (fun r m1 => ∃ xs, SrcD r xs ∧ K (enumD 0 xs) m1)) (hs : starEach [e] X.env = [(false, eval e X.env)] := by rfl) (hs0 : starEach [e] X.env = (false, eval e X.env) :: starEach [] X.env := by rfl) : DIt X c σ m (.Tuple elts kk tpos) (.Call (.Name "enumerate" p) [e] [] pos) K := by
  refine ⟨_, pi_enumB hg hm (pa_t (c := c)) hs, fun τ H G R' E q => ⟨σ, m, G, fun rs m1 => ∃ r xs, rs = [r] ∧ SrcD r xs ∧ K (enumD 0 xs) m1, E, da_cons (h.imp fun r m1 ⟨xs, a, z⟩ => da_nil ⟨r, xs, rfl, a, z⟩) hs0, fun rs m1 G1 H1 vs ⟨r, xs, er, s1, z⟩ x1 E1 rv => ?_⟩⟩
  subst er
  obtain ⟨v, rfl, q1⟩ := one_of rv
  obtain ⟨S, as, rfl, a1, b1, _⟩ := s1.src q1
  exact ⟨S, as, rfl, a1 _ E1.sub, q _ m1 G1 H1 _ z x1 E1 (walks_enum a1 b1)⟩
end
end D2
namespace D2
open PySem PySem.Spec PyProof.Rows L2
section
variable {X : Cx} {c : Ct} {σ : Sl} {m : Mem} {K : R → Mem → Prop}
/-- tuple(t), t a tuple of data: itself -/
theorem d_tupleD {e : Expr} {p pos : Pos} (hg : Gl X "tuple") (hm : X.mg "tuple" = none) (h : DE X c σ m e (fun r m1 => ∃ ds : List D, r = .dat (.tup ds) ∧ K (.dat (.tup ds)) m1)) (hst : starEach [e] X.env = (false, eval e X.env) :: starEach [] X.env := by rfl) : DE X c σ m (.Call (.Name "tuple" p) [e] [] pos) K :=
  de_callT call_tuple_of hg hm (by decide +kernel) (da_cons (h.imp fun r m1 ⟨ds, er, z⟩ => da_nil fun τ H G vs Q E rv q => by
    obtain ⟨v, rfl, r1⟩ := one_of rv
    subst er
    cases r1 with | dat r1 =>
    cases r1 with | @tup a _ us hs rr =>
    exact ⟨a, us, rfl, .inr ⟨ex_t E.sub hs, q _ m1 G _ _ z (Ex.refl G) E (.dat (.tup hs rr))⟩⟩) hst) (he := hst)
end
end D2
/-! ## D2Join -/
/-! sep.join(texts) -/
namespace D2
open PySem PySem.Spec PyProof.Rows L2
abbrev joinT (sep : List Nat) (ss : List (List Nat)) : List Nat := TL.joinL sep ss
theorem joinT_len (sep : List Nat) : ∀ ss : List (List Nat), (joinT sep ss).length ≤ (ss.map (·.length)).sum + ss.length * sep.length
  | [] => by simp [joinT, TL.joinL]
  | [s] => by simp [joinT, TL.joinL]
  | s :: t :: ss => by
    have ih := joinT_len sep (t :: ss)
    show (s ++ (sep ++ TL.joinL sep (t :: ss))).length ≤ _
    rw [List.length_append, List.length_append]
    have : (TL.joinL sep (t :: ss)).length ≤ ((t :: ss).map (·.length)).sum + (t :: ss).length * sep.length := ih
    rw [List.map_cons, List.sum_cons, List.length_cons (a := s), Nat.succ_mul]
    omega
section
variable {X : Cx} {c : Ct} {σ : Sl} {m : Mem} {K : R → Mem → Prop} {o e : Expr} {pos apos : Pos}
theorem k_joinS {r : R} {sep : List Nat} {ss : List (List Nat)} (h : VL m r (ss.map rS)) (hl : (ss.map (·.length)).sum + ss.length * sep.length ≤ 1000000) (k : K (rS (joinT sep ss)) m) : MK X c σ m (rJoin X.K) (rS sep) [r] K := fun τ H G v vs Q E ro rv q => by
  cases str_of ro
  obtain ⟨u, rfl, ru⟩ := one_of rv
  obtain ⟨a, us, rfl, hs, rr⟩ := h.at E ru
  cases reps_strs rr
  refine ⟨_, a, ss.map sOf, rfl, rfl, .inl hs, ?_, ?_⟩
  · rw [lens_sum, List.length_map, sOf_len]
    exact Nat.le_trans hl (by decide)
  · have e : Txt.join (sOf sep) (ss.map sOf) = sOf (joinT sep ss) := by
      have h2 := TL.tl_join (sOf sep) (ss.map sOf)
      rw [tl_sOf, List.map_map, show (TL.tl ∘ sOf) = id from funext tl_sOf, List.map_id] at h2
      rw [TL.join_eq]
      rw [tl_sOf] at h2
      show _ = sOf (TL.joinL sep ss)
      rw [← h2]
    rw [e]
    exact q.now k E (.dat .str)
theorem d_joinS (h : DE X c σ m o (fun ro m1 => ∃ sep, ro = rS sep ∧ DE X c σ m1 e (fun r m2 => ∃ ss : List (List Nat), VL m2 r (ss.map rS) ∧ (ss.map (·.length)).sum + ss.length * sep.length ≤ 1000000 ∧ K (rS (joinT sep ss)) m2)))
    (hbase : attributeBase o "join" X.env (eval o X.env) = eval o X.env := by rfl)
    (hfew : ((backTo pos (starEach [e] X.env)).all (fun x => !x.1) && (backToKw pos (keywordEach [] X.env)).all (fun x => x.1.isSome) && decide ([e].length + ([] : List Keyword).length + (if ([] : List Keyword).isEmpty then 0 else 1) < 30)) = true := by rfl)
    (hline : (apos.endLine == pos.line) = true := by rfl) (hst : starEach [e] X.env = (false, eval e X.env) :: starEach [] X.env := by rfl) : DE X c σ m (.Call (.Attribute o "join" apos) [e] [] pos) K :=
  de_bm PySem.F.plainAttrs_str PySem.F.slot_str_join PySem.F.type_str_join mt_join (h.imp fun ro m1 ⟨sep, er, d⟩ => by
    subst er
    exact ⟨.str, da_cons (d.imp fun r m2 ⟨ss, hv, hl, kk⟩ => da_nil (k_joinS hv hl kk)) hst⟩) hbase hfew hline hst
end
theorem numT_len {i : Int} (h : i.natAbs < 1000000) : (numT i).length ≤ 7 := by
  have h1 := int_text_length_le10 (a := i) (k := 6) (by decide) (by omega)
  have h2 : (numT i).length = (toString i).length := by
    unfold numT lit
    exact PyProof.Rows.ofString_len _
  omega
end D2
/-! ## D2NotL -/
/-! not e as a value, e a list -/
namespace D2
open PySem PySem.Spec PyProof.Rows L2
section
variable {X : Cx} {c : Ct} {σ : Sl} {m : Mem} {e : Expr} {pos : Pos} {K : R → Mem → Prop}
theorem de_notL (h : DE X c σ m e (fun r m1 => ∃ rs, VL m1 r rs ∧ K (rB (decide (rs.length = 0))) m1)) : DE X c σ m (.UnaryOp .Not e pos) K :=
  de_of (pe_notT (pe_t (c := c))) fun τ H G Q E k => ⟨σ, m, G, _, E, h, fun r m1 G1 H1 v ⟨rs, hv, z⟩ x1 E1 rv => by
    obtain ⟨a, us, rfl, hs, rr⟩ := VL.at hv E1 rv
    refine ⟨!us.isEmpty, .inl ⟨us, hs, rfl⟩, ?_⟩
    have e2 : (!(!us.isEmpty)) = decide (rs.length = 0) := by
      cases us with
      | nil => cases rr; rfl
      | cons u us => cases rr; rfl
    rw [e2]
    exact k _ m1 G1 H1 _ z x1 E1 (.dat .bl)⟩
end
end D2
/-! ## NStr0 -/
/-! stretches as bits, plain -/
namespace NC
/-- the bits of a number taken away from one that has them -/
theorem sub_bits : ∀ (b a : Nat), (∀ k, a.testBit k = true → b.testBit k = true) → a ≤ b ∧ ∀ k, (b - a).testBit k = (b.testBit k && !a.testBit k) := by
  intro b
  induction b using Nat.strongRecOn with
  | _ b ih =>
    intro a h
    by_cases hb : b = 0
    · subst hb
      have ha : a = 0 := Nat.eq_of_testBit_eq fun k => by
        rw [Nat.zero_testBit]
        cases e : a.testBit k with
        | false => rfl
        | true => have := h k e; rw [Nat.zero_testBit] at this; cases this
      subst ha; simp
    · have h2 : ∀ k, (a / 2).testBit k = true → (b / 2).testBit k = true := fun k q => by
        rw [← Nat.testBit_succ] at q ⊢; exact h _ q
      obtain ⟨i1, i2⟩ := ih (b / 2) (by omega) (a / 2) h2
      have h0 : a % 2 = 1 → b % 2 = 1 := fun q => by
        have := h 0 (by rw [Nat.testBit_zero]; simpa using q)
        rw [Nat.testBit_zero] at this; simpa using this
      have le : a ≤ b := by omega
      refine ⟨le, fun k => ?_⟩
      cases k with
      | zero =>
        rw [Nat.testBit_zero, Nat.testBit_zero, Nat.testBit_zero]
        rcases Nat.mod_two_eq_zero_or_one a with ea | ea <;> rcases Nat.mod_two_eq_zero_or_one b with eb | eb
        · rw [show (b - a) % 2 = 0 by omega, ea, eb]; rfl
        · rw [show (b - a) % 2 = 1 by omega, ea, eb]; rfl
        · exact absurd (h0 ea) (by omega)
        · rw [show (b - a) % 2 = 0 by omega, ea, eb]; rfl
      | succ k =>
        rw [Nat.testBit_succ, Nat.testBit_succ, Nat.testBit_succ, ← i2]
        congr 1
        have : a % 2 ≤ b % 2 := by
          rcases Nat.mod_two_eq_zero_or_one a with ea | ea
          · omega
          · rw [ea, h0 ea]; omega
        omega
/-- bits at multiples of w alone: a number of them -/
def Mult (w s : Nat) (A : Nat → Bool) : Prop := ∀ k, s.testBit k = (decide (k % w = 0) && A (k / w))
theorem mult_mul {w : Nat} (hw : 0 < w) : ∀ (N s T : Nat) (A : Nat → Bool), s < 2 ^ (w * N) → Mult w s A → T < 2 ^ w → ∀ k, (s * T).testBit k = (A (k / w) && T.testBit (k % w)) := by
  intro N
  induction N with
  | zero =>
    intro s T A hs hm hT k
    have : s = 0 := by simpa using hs
    subst this
    rw [Nat.zero_mul, Nat.zero_testBit]
    have hA : A (k / w) = false := by
      have := hm (w * (k / w))
      rw [Nat.zero_testBit, Nat.mul_mod_right, Nat.mul_div_cancel_left _ hw] at this
      simpa using this.symm
    rw [hA]; rfl
  | succ N ih =>
    intro s T A hs hm hT k
    have e : s = 2 ^ w * (s / 2 ^ w) + s % 2 ^ w := (Nat.div_add_mod s (2 ^ w)).symm
    have hlow : s % 2 ^ w = (A 0).toNat := by
      refine Nat.eq_of_testBit_eq fun j => ?_
      rw [Nat.testBit_mod_two_pow, hm j]
      by_cases hj : j < w
      · by_cases h0 : j = 0
        · subst h0; simp [hw]
          cases A 0 <;> rfl
        · have : (A 0).toNat.testBit j = false := by
            cases A 0
            · simp
            · show (1 : Nat).testBit j = false
              exact Bool.eq_false_iff.mpr fun q => h0 (Nat.testBit_one_eq_true_iff_self_eq_zero.mp q)
          rw [this, Nat.mod_eq_of_lt hj, decide_eq_false h0]; simp
      · have h0 : j ≠ 0 := by omega
        have : (A 0).toNat.testBit j = false := by
          cases A 0
          · simp
          · show (1 : Nat).testBit j = false
            exact Bool.eq_false_iff.mpr fun q => h0 (Nat.testBit_one_eq_true_iff_self_eq_zero.mp q)
        rw [this, decide_eq_false hj]; simp
    have hm2 : Mult w (s / 2 ^ w) (fun g => A (g + 1)) := fun j => by
      rw [Nat.testBit_div_two_pow, hm, Nat.add_mod_right, Nat.add_div_right _ hw]
    have hs2 : s / 2 ^ w < 2 ^ (w * N) := by
      rw [Nat.div_lt_iff_lt_mul (Nat.two_pow_pos w), ← Nat.pow_add]
      rw [show w * (N + 1) = w * N + w from Nat.mul_succ _ _] at hs
      exact hs
    have IH := ih (s / 2 ^ w) T _ hs2 hm2 hT
    have e2 : s * T = 2 ^ w * (s / 2 ^ w * T) + (A 0).toNat * T := by
      conv => lhs; rw [e, hlow]
      rw [Nat.add_mul, Nat.mul_assoc]
    have hlt : (A 0).toNat * T < 2 ^ w := by
      cases A 0
      · show 0 * T < _; rw [Nat.zero_mul]; exact Nat.two_pow_pos w
      · show 1 * T < _; rw [Nat.one_mul]; exact hT
    rw [e2, Nat.testBit_two_pow_mul_add _ hlt]
    by_cases hk : k < w
    · rw [if_pos hk, Nat.div_eq_of_lt hk, Nat.mod_eq_of_lt hk]
      cases A 0
      · show (0 * T).testBit k = _; rw [Nat.zero_mul, Nat.zero_testBit]; rfl
      · show (1 * T).testBit k = _; rw [Nat.one_mul]; rfl
    · rw [if_neg hk, IH]
      have h1 : (k - w) / w + 1 = k / w := by
        rw [← Nat.add_div_right _ hw, Nat.sub_add_cancel (by omega)]
      have h2 : (k - w) % w = k % w := by
        conv => rhs; rw [show k = (k - w) + w by omega, Nat.add_mod_right]
      rw [h1, h2]
/-- the stretches of a word of n letters for which P holds -/
def Mat (n s : Nat) (P : Nat → Nat → Bool) : Prop := ∀ k, s.testBit k = (decide (k / (n + 1) ≤ k % (n + 1)) && decide (k / (n + 1) ≤ n) && P (k / (n + 1)) (k % (n + 1)))
theorem Mat.and {n s t : Nat} {P Q : Nat → Nat → Bool} (h : Mat n s P) (g : Mat n t Q) : Mat n (s &&& t) fun a b => P a b && Q a b := fun k => by
  rw [Nat.testBit_and, h k, g k]
  cases decide (k / (n + 1) ≤ k % (n + 1)) <;> cases decide (k / (n + 1) ≤ n) <;> simp
theorem Mat.or {n s t : Nat} {P Q : Nat → Nat → Bool} (h : Mat n s P) (g : Mat n t Q) : Mat n (s ||| t) fun a b => P a b || Q a b := fun k => by
  rw [Nat.testBit_or, h k, g k]
  cases decide (k / (n + 1) ≤ k % (n + 1)) <;> cases decide (k / (n + 1) ≤ n) <;> simp
theorem Mat.zero (n : Nat) : Mat n 0 fun _ _ => false := fun k => by simp
theorem Mat.not {n w s : Nat} {P : Nat → Nat → Bool} (hw : Mat n w fun _ _ => true) (h : Mat n s P) : s ≤ w ∧ Mat n (w - s) fun a b => !P a b := by
  obtain ⟨h1, h2⟩ := sub_bits w s fun k hk => by
    rw [h k] at hk
    rw [hw k]
    revert hk
    cases decide (k / (n + 1) ≤ k % (n + 1)) <;> cases decide (k / (n + 1) ≤ n) <;> simp
  refine ⟨h1, fun k => ?_⟩
  rw [h2, h k, hw k]
  cases decide (k / (n + 1) ≤ k % (n + 1)) <;> cases decide (k / (n + 1) ≤ n) <;> simp
/-! ### the starts and the whole -/
theorem div_w {w g h : Nat} (hh : h < w) : (w * g + h) / w = g ∧ (w * g + h) % w = h := by
  have hw : 0 < w := by omega
  exact ⟨by rw [Nat.mul_add_div hw, Nat.div_eq_of_lt hh, Nat.add_zero], by rw [Nat.mul_add_mod, Nat.mod_eq_of_lt hh]⟩
/-- the sum of the first k starts -/
def startN (w : Nat) : Nat → Nat
  | 0 => 0
  | k + 1 => startN w k + 2 ^ (w * k)
theorem startN_lt {w : Nat} (hw : 0 < w) : ∀ k, startN w k < 2 ^ (w * k)
  | 0 => by simp [startN]
  | k + 1 => by
    have h1 := startN_lt hw k
    have h2 : 2 ^ (w * (k + 1)) = 2 ^ (w * k) * 2 ^ w := by rw [Nat.mul_succ, Nat.pow_add]
    have h3 : 2 ≤ 2 ^ w := by
      have := Nat.pow_le_pow_right (n := 2) (by omega) hw
      simpa using this
    have h4 : 2 ^ (w * k) * 2 ≤ 2 ^ (w * k) * 2 ^ w := Nat.mul_le_mul (Nat.le_refl _) h3
    show startN w k + 2 ^ (w * k) < _
    omega
theorem startN_mult {w : Nat} (hw : 0 < w) : ∀ k, Mult w (startN w k) fun g => decide (g < k)
  | 0 => fun j => by simp [startN]
  | k + 1 => fun j => by
    show (startN w k + 2 ^ (w * k)).testBit j = _
    have h1 := startN_lt hw k
    rw [show startN w k + 2 ^ (w * k) = 2 ^ (w * k) * 1 + startN w k by omega, Nat.testBit_two_pow_mul_add _ h1]
    by_cases hj : j < w * k
    · rw [if_pos hj, startN_mult hw k j]
      have : j / w < k := (Nat.div_lt_iff_lt_mul hw).mpr (by rw [Nat.mul_comm]; exact hj)
      show (decide (j % w = 0) && decide (j / w < k)) = (decide (j % w = 0) && decide (j / w < k + 1))
      rw [decide_eq_true this, decide_eq_true (show j / w < k + 1 by omega)]
    · rw [if_neg hj]
      by_cases e : j = w * k
      · subst e
        rw [Nat.sub_self, Nat.mul_mod_right, Nat.mul_div_cancel_left _ hw]; simp
      · have h0 : (1 : Nat).testBit (j - w * k) = false := Bool.eq_false_iff.mpr fun q => by
          have := Nat.testBit_one_eq_true_iff_self_eq_zero.mp q; omega
        rw [h0]
        by_cases hm : j % w = 0
        · have : ¬ j / w < k + 1 := fun q => by
            have h2 := Nat.div_add_mod j w
            rw [hm, Nat.add_zero] at h2
            have h3 : w * (j / w) ≤ w * k := Nat.mul_le_mul (Nat.le_refl _) (by omega)
            omega
          show false = (decide (j % w = 0) && decide (j / w < k + 1))
          rw [decide_eq_false this]; simp
        · rw [decide_eq_false hm]; rfl
/-- the sum of the first k rows of the whole -/
def wholeN (w : Nat) : Nat → Nat
  | 0 => 0
  | k + 1 => wholeN w k + (2 ^ w - 2 ^ k) * 2 ^ (w * k)
theorem row_bit {w k j : Nat} (hk : k ≤ w) : (2 ^ w - 2 ^ k).testBit j = (decide (k ≤ j) && decide (j < w)) := by
  have hs := sub_bits (2 ^ w - 1) (2 ^ k - 1) fun i hi => by
    rw [Nat.testBit_two_pow_sub_one] at hi ⊢
    have := of_decide_eq_true hi
    exact decide_eq_true (by omega)
  have e : 2 ^ w - 2 ^ k = 2 ^ w - 1 - (2 ^ k - 1) := by
    have := Nat.two_pow_pos k
    have := Nat.two_pow_pos w
    omega
  rw [e, hs.2, Nat.testBit_two_pow_sub_one, Nat.testBit_two_pow_sub_one]
  by_cases h : j < k
  · rw [decide_eq_true h, decide_eq_false (show ¬ k ≤ j by omega)]; simp
  · rw [decide_eq_false h, decide_eq_true (show k ≤ j by omega)]; simp
theorem wholeN_lt {w : Nat} : ∀ k, k ≤ w → wholeN w k < 2 ^ (w * k)
  | 0, _ => by simp [wholeN]
  | k + 1, hk => by
    have h1 := wholeN_lt (w := w) k (by omega)
    have h2 : 2 ^ (w * (k + 1)) = 2 ^ w * 2 ^ (w * k) := by rw [Nat.mul_succ, Nat.pow_add, Nat.mul_comm]
    have h3 := Nat.two_pow_pos k
    have h6 : 2 ^ (w * k) ≤ 2 ^ k * 2 ^ (w * k) := Nat.le_mul_of_pos_left _ h3
    have h4 : (2 ^ w - 2 ^ k) * 2 ^ (w * k) = 2 ^ w * 2 ^ (w * k) - 2 ^ k * 2 ^ (w * k) := Nat.sub_mul _ _ _
    have h5 : 2 ^ (w * k) ≤ 2 ^ w * 2 ^ (w * k) := Nat.le_mul_of_pos_left _ (Nat.two_pow_pos w)
    show wholeN w k + (2 ^ w - 2 ^ k) * 2 ^ (w * k) < _
    omega
theorem wholeN_bit {w : Nat} (hw : 0 < w) : ∀ k, k ≤ w → ∀ j, (wholeN w k).testBit j = (decide (j / w < k) && decide (j / w ≤ j % w))
  | 0, _, j => by simp [wholeN]
  | k + 1, hk, j => by
    show (wholeN w k + (2 ^ w - 2 ^ k) * 2 ^ (w * k)).testBit j = _
    have h1 := wholeN_lt k (by omega : k ≤ w)
    rw [show wholeN w k + (2 ^ w - 2 ^ k) * 2 ^ (w * k) = 2 ^ (w * k) * (2 ^ w - 2 ^ k) + wholeN w k by rw [Nat.mul_comm]; omega, Nat.testBit_two_pow_mul_add _ h1]
    by_cases hj : j < w * k
    · rw [if_pos hj, wholeN_bit hw k (by omega) j]
      have : j / w < k := (Nat.div_lt_iff_lt_mul hw).mpr (by rw [Nat.mul_comm]; exact hj)
      rw [decide_eq_true this, decide_eq_true (show j / w < k + 1 by omega)]
    · rw [if_neg hj, row_bit (by omega)]
      have hd : k ≤ j / w := (Nat.le_div_iff_mul_le hw).mpr (by rw [Nat.mul_comm]; omega)
      by_cases he : j / w = k
      · have h2 := Nat.div_add_mod j w
        rw [he] at h2
        rw [he, decide_eq_true (show k < k + 1 by omega), Bool.true_and, show j - w * k = j % w by omega, decide_eq_true (Nat.mod_lt j hw), Bool.and_true]
      · have : ¬ j - w * k < w := fun q => he (by
          have h2 := Nat.div_add_mod j w
          have h3 : w * (k + 1) ≤ w * (j / w) := Nat.mul_le_mul (Nat.le_refl _) (by omega)
          rw [Nat.mul_succ] at h3
          omega)
        rw [decide_eq_false this, decide_eq_false (show ¬ j / w < k + 1 by omega)]; simp
theorem whole_mat (n : Nat) : Mat n (wholeN (n + 1) (n + 1)) fun _ _ => true := fun k => by
  rw [wholeN_bit (by omega) _ (Nat.le_refl _)]
  rw [Bool.and_true, Bool.and_comm]
  congr 1
  exact decide_eq_decide.mpr (by omega)
end NC
/-! ## NSt1 -/
/-! rows of expressions, plain -/
namespace NC
open PySem PySem.Spec PyProof.Rows L2 D2
/-- a row of an expression -/
inductive XR where
  | non | all | not (i : Nat) | and (i j : Nat) | or (i j : Nat) | split (i c j : Nat)
def XR.row : XR → Row
  | .non => ⟨lit "none", []⟩
  | .all => ⟨lit "all", []⟩
  | .not i => ⟨lit "not", [.n i]⟩
  | .and i j => ⟨lit "and", [.n i, .n j]⟩
  | .or i j => ⟨lit "or", [.n i, .n j]⟩
  | .split i c j => ⟨lit "split", [.n i, .s [c], .n j]⟩
/-- a split of a word at a letter -/
def cutB (p q : List Nat → Bool) (c : Nat) (u : List Nat) : Bool := decide (∃ k, k < u.length ∧ u.getD k 0 = c ∧ p (u.take k) = true ∧ q (u.drop (k + 1)) = true)
/-- the words that a row says, told those of earlier rows -/
def XR.tr (told : Nat → List Nat → Bool) : XR → List Nat → Bool
  | .non => fun _ => false
  | .all => fun _ => true
  | .not i => fun u => !told i u
  | .and i j => fun u => told i u && told j u
  | .or i j => fun u => told i u || told j u
  | .split i c j => cutB (told i) (told j) c
def xvs (rs : List XR) : List (List Nat → Bool) := rs.foldl (fun acc r => acc ++ [r.tr fun i => acc.getD i fun _ => false]) []
def xv (rs : List XR) (i : Nat) : List Nat → Bool := (xvs rs).getD i fun _ => false
theorem xvs_snoc (rs : List XR) (r : XR) : xvs (rs ++ [r]) = xvs rs ++ [r.tr (xv rs)] := by
  unfold xvs
  rw [List.foldl_append]; rfl
theorem xvs_len (rs : List XR) : (xvs rs).length = rs.length := by
  have h : ∀ (rs : List XR) (acc : List (List Nat → Bool)), (rs.foldl (fun acc r => acc ++ [r.tr fun i => acc.getD i fun _ => false]) acc).length = acc.length + rs.length := by
    intro rs
    induction rs with
    | nil => intro acc; rfl
    | cons r rs ih => intro acc; rw [List.foldl_cons, ih, List.length_append]; simp; omega
  unfold xvs
  rw [h]; simp
theorem xv_take (rs : List XR) : ∀ (k i : Nat), i < k → k ≤ rs.length → xv (rs.take k) i = xv (rs.take (i + 1)) i := by
  intro k
  induction k with
  | zero => intro i h; omega
  | succ k ih =>
    intro i hi hk
    by_cases e : i = k
    · subst e; rfl
    · rw [← ih i (by omega) (by omega)]
      unfold xv
      rw [take_snoc (by omega : k < rs.length), xvs_snoc, List.getD_eq_getElem?_getD, List.getD_eq_getElem?_getD, List.getElem?_append_left (by rw [xvs_len, List.length_take]; omega)]
theorem XR.tr_congr {t1 t2 : Nat → List Nat → Bool} {r : XR} (h : ∀ i ∈ r.row.refs, t1 i = t2 i) : r.tr t1 = r.tr t2 := by
  cases r <;> simp only [XR.row, Row.refs, It.ref, List.filterMap_cons, List.filterMap_nil, List.mem_cons, List.not_mem_nil, or_false, forall_eq_or_imp, forall_eq] at h <;> simp only [XR.tr, h]
theorem xv_at {rs : List XR} {i : Nat} (hi : i < rs.length) (hb : ∀ j ∈ rs[i].row.refs, j < i) : xv rs i = rs[i].tr (xv rs) := by
  have e1 : xv rs i = xv (rs.take (i + 1)) i := by
    have := xv_take rs rs.length i hi (Nat.le_refl _)
    rwa [List.take_length] at this
  have e2 : xv (rs.take (i + 1)) i = rs[i].tr (xv (rs.take i)) := by
    unfold xv
    rw [take_snoc hi, xvs_snoc, List.getD_eq_getElem?_getD, List.getElem?_append_right (by rw [xvs_len, List.length_take]; omega), xvs_len, List.length_take, show i - min i rs.length = 0 by omega]
    rfl
  rw [e1, e2]
  refine XR.tr_congr fun j hj => ?_
  have hji := hb j hj
  have a := xv_take rs i j hji (by omega)
  have b := xv_take rs rs.length j (by omega) (Nat.le_refl _)
  rw [List.take_length] at b
  rw [a, b]
/-- the stretches of a word that a language has -/
abbrev str (v : List Nat) (t : List Nat → Bool) (g h : Nat) : Bool := t ((v.take h).drop g)
/-- the splits at the first m places -/
def splitB (v : List Nat) (c : Nat) (P Q : Nat → Nat → Bool) (m g h : Nat) : Bool := decide (∃ p, p < m ∧ v.getD p 0 = c ∧ g ≤ p ∧ p < h ∧ P g p = true ∧ Q (p + 1) h = true)
theorem str_cut {v : List Nat} {c : Nat} {p q : List Nat → Bool} {g h : Nat} (hg : g ≤ h) (hh : h ≤ v.length) : splitB v c (str v p) (str v q) v.length g h = str v (cutB p q c) g h := by
  unfold splitB str cutB
  refine decide_eq_decide.mpr ⟨?_, ?_⟩
  · rintro ⟨k, h1, h2, h3, h4, h5, h6⟩
    refine ⟨k - g, by simp; omega, ?_, ?_, ?_⟩
    · rw [List.getD_eq_getElem?_getD, List.getElem?_drop, List.getElem?_take_of_lt (by omega), ← List.getD_eq_getElem?_getD, show g + (k - g) = k by omega]; exact h2
    · rw [List.take_drop, show g + (k - g) = k by omega, List.take_take, Nat.min_eq_left (by omega)]; exact h5
    · rw [List.drop_drop, show g + (k - g + 1) = k + 1 by omega]; exact h6
  · rintro ⟨k, h1, h2, h3, h4⟩
    have h1 : k < h - g := by simpa [Nat.min_eq_left hh] using h1
    refine ⟨g + k, by omega, ?_, by omega, by omega, ?_, ?_⟩
    · rw [List.getD_eq_getElem?_getD, List.getElem?_drop, List.getElem?_take_of_lt (by omega), ← List.getD_eq_getElem?_getD] at h2; exact h2
    · rw [List.take_drop, List.take_take, Nat.min_eq_left (by omega)] at h3; exact h3
    · rw [List.drop_drop, show g + (k + 1) = g + k + 1 by omega] at h4; exact h4
theorem Mat.congr {n s : Nat} {P Q : Nat → Nat → Bool} (h : Mat n s P) (e : ∀ g h, g ≤ h → h ≤ n → P g h = Q g h) : Mat n s Q := fun k => by
  rw [h k]
  by_cases h1 : k / (n + 1) ≤ k % (n + 1)
  · have h2 : k % (n + 1) ≤ n := by have := Nat.mod_lt k (show 0 < n + 1 by omega); omega
    rw [e _ _ h1 h2]
  · rw [decide_eq_false h1]; rfl
theorem Mat.step {v : List Nat} {n c m f s r : Nat} {P Q : Nat → Nat → Bool} (hn : n = v.length) (hm : m < n) (hc : v.getD m 0 = c) (hf : Mat n f P) (hs : Mat n s Q) (hr : Mat n r (splitB v c P Q m)) :
    Mat n (r ||| ((f >>> m &&& startN (n + 1) (n + 1)) * (s >>> ((n + 1) * (m + 1)) &&& (2 ^ (n + 1) - 1)))) (splitB v c P Q (m + 1)) := by
  have hw : 0 < n + 1 := by omega
  have hA : Mult (n + 1) (f >>> m &&& startN (n + 1) (n + 1)) fun g => decide (g ≤ n) && (decide (g ≤ m) && P g m) := fun k => by
    rw [Nat.testBit_and, startN_mult hw (n + 1) k, Nat.testBit_shiftRight, hf]
    by_cases h0 : k % (n + 1) = 0
    · have hk : k = (n + 1) * (k / (n + 1)) := by have := Nat.div_add_mod k (n + 1); omega
      have hd := div_w (w := n + 1) (g := k / (n + 1)) (h := m) (by omega)
      rw [show m + k = (n + 1) * (k / (n + 1)) + m by omega, hd.1, hd.2, decide_eq_true h0]
      dsimp only
      by_cases h1 : k / (n + 1) ≤ n
      · rw [decide_eq_true h1, decide_eq_true (show k / (n + 1) < n + 1 by omega)]; simp
      · rw [decide_eq_false h1, decide_eq_false (show ¬ k / (n + 1) < n + 1 by omega)]; simp
    · rw [decide_eq_false h0]; simp
  have hT : (s >>> ((n + 1) * (m + 1)) &&& (2 ^ (n + 1) - 1)) < 2 ^ (n + 1) := Nat.and_lt_two_pow _ (by have := Nat.two_pow_pos (n + 1); omega)
  have hAl : (f >>> m &&& startN (n + 1) (n + 1)) < 2 ^ ((n + 1) * (n + 1)) := Nat.and_lt_two_pow _ (startN_lt hw _)
  intro k
  rw [Nat.testBit_or, hr k, mult_mul hw _ _ _ _ hAl hA hT, Nat.testBit_and, Nat.testBit_shiftRight, hs, Nat.testBit_two_pow_sub_one]
  have hk := Nat.mod_lt k hw
  have hd := div_w (w := n + 1) (g := m + 1) (h := k % (n + 1)) hk
  rw [hd.1, hd.2, decide_eq_true hk, Bool.and_true]
  generalize k / (n + 1) = g at *
  generalize k % (n + 1) = h at *
  have e : splitB v c P Q (m + 1) g h = (splitB v c P Q m g h || (decide (g ≤ m) && (decide (m < h) && (P g m && Q (m + 1) h)))) := by
    unfold splitB
    rw [Bool.eq_iff_iff]
    simp only [Bool.or_eq_true, Bool.and_eq_true, decide_eq_true_eq]
    constructor
    · rintro ⟨p, h1, h2, h3, h4, h5, h6⟩
      by_cases ep : p = m
      · subst ep; exact .inr ⟨h3, h4, h5, h6⟩
      · exact .inl ⟨p, by omega, h2, h3, h4, h5, h6⟩
    · rintro (⟨p, h1, h2, h3, h4, h5, h6⟩ | ⟨h3, h4, h5, h6⟩)
      · exact ⟨p, by omega, h2, h3, h4, h5, h6⟩
      · exact ⟨m, by omega, hc, h3, h4, h5, h6⟩
  rw [e]
  by_cases h1 : g ≤ n
  · rw [decide_eq_true h1, Bool.and_true, Bool.true_and, decide_eq_true (show m + 1 ≤ n by omega), Bool.and_true]
    by_cases h2 : g ≤ h
    · rw [decide_eq_true h2, Bool.true_and, Bool.true_and, show decide (m < h) = decide (m + 1 ≤ h) from decide_eq_decide.mpr (by omega)]
      cases splitB v c P Q m g h <;> cases decide (g ≤ m) <;> cases P g m <;> cases decide (m + 1 ≤ h) <;> rfl
    · rw [decide_eq_false h2, Bool.false_and, Bool.false_and, Bool.false_or]
      by_cases h3 : g ≤ m
      · rw [decide_eq_false (show ¬ m + 1 ≤ h by omega)]; simp
      · rw [decide_eq_false h3]; rfl
  · rw [decide_eq_false h1]; simp
end NC
/-! ## NTr0 -/
/-! sets of moments, plain: the bits of a whole number -/
namespace NC
open PySem PySem.Spec PyProof.Rows L2 D2
/-- s is the set of the moments 0 .. n + 1 where p holds -/
def Bits (n s : Nat) (p : Nat → Bool) : Prop := ∀ m, s.testBit m = (decide (m < n + 2) && p m)
theorem Bits.lt {n s : Nat} {p : Nat → Bool} (h : Bits n s p) : s < 2 ^ (n + 2) := Nat.lt_pow_two_of_testBit _ fun i hi => by rw [h i, decide_eq_false (by omega)]; rfl
theorem Bits.all (n : Nat) : Bits n (2 ^ (n + 2) - 1) fun _ => true := fun m => by rw [Nat.testBit_two_pow_sub_one, Bool.and_true]
theorem Bits.not {n s : Nat} {p : Nat → Bool} (h : Bits n s p) : Bits n (2 ^ (n + 2) - 1 - s) fun m => !p m := fun m => by
  rw [show 2 ^ (n + 2) - 1 - s = 2 ^ (n + 2) - (s + 1) by omega, Nat.testBit_two_pow_sub_succ h.lt, h m]
  by_cases e : m < n + 2
  · rw [decide_eq_true e]; simp
  · rw [decide_eq_false e]; simp
theorem Bits.and {n s t : Nat} {p q : Nat → Bool} (h : Bits n s p) (g : Bits n t q) : Bits n (s &&& t) fun m => p m && q m := fun m => by
  rw [Nat.testBit_and, h m, g m]
  cases decide (m < n + 2) <;> simp
theorem Bits.or {n s t : Nat} {p q : Nat → Bool} (h : Bits n s p) (g : Bits n t q) : Bits n (s ||| t) fun m => p m || q m := fun m => by
  rw [Nat.testBit_or, h m, g m]
  cases decide (m < n + 2) <;> simp
/-- the places 1 .. n among them -/
def Pls (n s : Nat) (p : Nat → Bool) : Prop := ∀ m, s.testBit m = (decide (1 ≤ m) && decide (m ≤ n) && p m)
theorem Bits.pls {n s : Nat} {p : Nat → Bool} (h : Bits n s p) : Pls n (s &&& (2 ^ (n + 1) - 2)) p := fun m => by
  have h2 : 1 < 2 ^ (n + 1) := by rw [Nat.pow_succ]; have := Nat.two_pow_pos n; omega
  rw [Nat.testBit_and, h m, show 2 ^ (n + 1) - 2 = 2 ^ (n + 1) - (1 + 1) by omega, Nat.testBit_two_pow_sub_succ h2]
  by_cases e0 : m = 0
  · subst e0; simp
  · have e1 : Nat.testBit 1 m = false := by
      exact Bool.eq_false_iff.mpr fun h => e0 (Nat.testBit_one_eq_true_iff_self_eq_zero.mp h)
    rw [e1]
    by_cases e : m ≤ n
    · rw [decide_eq_true (show m < n + 2 by omega), decide_eq_true (show m < n + 1 by omega), decide_eq_true (show 1 ≤ m by omega), decide_eq_true e]; simp
    · rw [decide_eq_false (show ¬ m < n + 1 by omega), decide_eq_false e]; simp
theorem Pls.prev {n s : Nat} {p : Nat → Bool} (h : Pls n s p) : Bits n (s * 2) fun m => decide (2 ≤ m) && p (m - 1) := fun m => by
  show _ = (decide (m < n + 2) && (decide (2 ≤ m) && p (m - 1)))
  rw [show s * 2 = 2 ^ 1 * s + 0 by omega, Nat.testBit_two_pow_mul_add _ (by decide)]
  by_cases e : m < 1
  · rw [if_pos e, decide_eq_false (show ¬ 2 ≤ m by omega)]; simp
  · rw [if_neg e, h (m - 1)]
    by_cases e2 : 2 ≤ m
    · rw [decide_eq_true e2, decide_eq_true (show 1 ≤ m - 1 by omega), show decide (m - 1 ≤ n) = decide (m < n + 2) from by rw [decide_eq_decide]; omega]; simp
    · rw [decide_eq_false e2, decide_eq_false (show ¬ 1 ≤ m - 1 by omega)]; simp
theorem Pls.succ {n s : Nat} {p : Nat → Bool} (h : Pls n s p) : Bits n (s / 2) fun m => decide (m < n) && p (m + 1) := fun m => by
  show _ = (decide (m < n + 2) && (decide (m < n) && p (m + 1)))
  rw [Nat.testBit_div_two, h (m + 1), decide_eq_true (show 1 ≤ m + 1 by omega), Bool.true_and]
  by_cases e : m < n
  · rw [decide_eq_true e, decide_eq_true (show m + 1 ≤ n by omega), decide_eq_true (show m < n + 2 by omega)]; simp
  · rw [decide_eq_false e, decide_eq_false (show ¬ m + 1 ≤ n by omega)]; simp
/-- some place behind m, before m -/
def laterB (n : Nat) (p : Nat → Bool) (m : Nat) : Bool := decide (∃ x, x ≤ n ∧ m < x ∧ p x = true)
def onceB (n : Nat) (p : Nat → Bool) (m : Nat) : Bool := decide (∃ x, x ≤ n ∧ 1 ≤ x ∧ x < m ∧ p x = true)
theorem Pls.le {n s : Nat} {p : Nat → Bool} (h : Pls n s p) {x : Nat} : s.testBit x = true ↔ (1 ≤ x ∧ x ≤ n ∧ p x = true) := by
  rw [h x]; simp [and_assoc]
theorem Pls.later0 {n s : Nat} {p : Nat → Bool} (h : Pls n s p) (e : s = 0) : Bits n 0 (laterB n p) := fun m => by
  rw [Nat.zero_testBit]
  have : laterB n p m = false := decide_eq_false fun ⟨x, h1, h2, h3⟩ => by
    have := h.le.mpr ⟨by omega, h1, h3⟩
    rw [e, Nat.zero_testBit] at this
    cases this
  rw [this]; simp
theorem Pls.once0 {n s : Nat} {p : Nat → Bool} (h : Pls n s p) (e : s = 0) : Bits n 0 (onceB n p) := fun m => by
  rw [Nat.zero_testBit]
  have : onceB n p m = false := decide_eq_false fun ⟨x, h1, h2, _, h3⟩ => by
    have := h.le.mpr ⟨h2, h1, h3⟩
    rw [e, Nat.zero_testBit] at this
    cases this
  rw [this]; simp
theorem top_bit {s : Nat} (h : s ≠ 0) : s.testBit s.log2 = true := by
  obtain ⟨i, hi, ht⟩ := Nat.exists_ge_and_testBit_of_ge_two_pow (Nat.log2_self_le h)
  have h2 : i ≤ s.log2 := (Nat.le_log2 h).mpr (Nat.ge_two_pow_of_testBit ht)
  rw [show s.log2 = i by omega]
  exact ht
theorem Pls.later {n s : Nat} {p : Nat → Bool} (h : Pls n s p) (e : s ≠ 0) : Bits n (2 ^ s.log2 - 1) (laterB n p) := fun m => by
  rw [Nat.testBit_two_pow_sub_one, Bool.eq_iff_iff, decide_eq_true_eq, Bool.and_eq_true, decide_eq_true_eq]
  unfold laterB
  rw [decide_eq_true_eq]
  obtain ⟨h1, h2, h3⟩ := h.le.mp (top_bit e)
  constructor
  · exact fun hm => ⟨by omega, s.log2, h2, hm, h3⟩
  · rintro ⟨_, x, g1, g2, g3⟩
    have := (Nat.le_log2 e).mpr (Nat.ge_two_pow_of_testBit (h.le.mpr ⟨by omega, g1, g3⟩))
    omega
/-- the lowest bit -/
theorem low_bit : ∀ {s : Nat}, s ≠ 0 → ∃ t b, s = 2 ^ t * (2 * b + 1) := fun {s} => by
  induction s using Nat.strongRecOn with
  | ind s ih =>
    intro h
    by_cases e : s % 2 = 1
    · exact ⟨0, s / 2, by omega⟩
    · obtain ⟨t, b, q⟩ := ih (s / 2) (by omega) (by omega)
      refine ⟨t + 1, b, ?_⟩
      rw [Nat.pow_succ, Nat.mul_assoc, Nat.mul_comm (2 ^ t), ← Nat.mul_comm (2 ^ t)] 
      rw [Nat.mul_left_comm, ← q]
      omega
theorem low_test {t b x : Nat} : (2 ^ t * (2 * b + 1)).testBit x = if x < t then false else if x = t then true else b.testBit (x - (t + 1)) := by
  have e : 2 ^ t * (2 * b + 1) = 2 ^ (t + 1) * b + 2 ^ t := by rw [Nat.mul_add, Nat.mul_one, Nat.pow_succ, Nat.mul_assoc]
  have h2 : 2 ^ t < 2 ^ (t + 1) := Nat.pow_lt_pow_right (by decide) (by omega)
  rw [e, Nat.testBit_two_pow_mul_add _ h2, Nat.testBit_two_pow]
  by_cases h : x < t
  · rw [if_pos (by omega), if_pos h, decide_eq_false (by omega)]
  · rw [if_neg h]
    by_cases g : x = t
    · rw [if_pos (by omega), if_pos g, decide_eq_true g.symm]
    · rw [if_neg (by omega), if_neg g]
theorem and_low (t b : Nat) : Builtin.bitAnd ((2 ^ t * (2 * b + 1) : Nat) : Int) (-((2 ^ t * (2 * b + 1) : Nat) : Int)) = ((2 ^ t : Nat) : Int) := by
  have hp : 0 < 2 ^ t * (2 * b + 1) := Nat.mul_pos (Nat.two_pow_pos t) (by omega)
  have e1 : 2 ^ t * (2 * b + 1) = 2 ^ (t + 1) * b + 2 ^ t := by rw [Nat.mul_add, Nat.mul_one, Nat.pow_succ, Nat.mul_assoc]
  have h2 : 2 ^ t < 2 ^ (t + 1) := Nat.pow_lt_pow_right (by decide) (by omega)
  have h0 := Nat.two_pow_pos t
  have e2 : 2 ^ t * (2 * b + 1) - 1 = 2 ^ (t + 1) * b + (2 ^ t - 1) := by omega
  have ea : (2 ^ t * (2 * b + 1)) &&& (2 ^ t * (2 * b + 1) - 1) = 2 ^ (t + 1) * b := Nat.eq_of_testBit_eq fun i => by
    rw [Nat.testBit_and, e2, e1, Nat.testBit_two_pow_mul_add _ h2, Nat.testBit_two_pow_mul_add _ (by omega : 2 ^ t - 1 < 2 ^ (t + 1))]
    have e3 := Nat.testBit_two_pow_mul_add b (show 0 < 2 ^ (t + 1) from Nat.two_pow_pos _) i
    rw [Nat.add_zero] at e3
    rw [e3, Nat.testBit_two_pow, Nat.testBit_two_pow_sub_one]
    by_cases h : i < t + 1
    · rw [if_pos h, if_pos h, if_pos h, Nat.zero_testBit]
      by_cases g : t = i
      · rw [decide_eq_false (show ¬ i < t by omega)]; simp
      · rw [decide_eq_false g]; simp
    · rw [if_neg h, if_neg h, if_neg h, Bool.and_self]
  rw [bitAnd_pn (by omega) (by omega)]
  have e4 : (Builtin.bitNot (-((2 ^ t * (2 * b + 1) : Nat) : Int))).toNat = 2 ^ t * (2 * b + 1) - 1 := by unfold Builtin.bitNot; omega
  rw [e4, Int.toNat_natCast, ea, e1]
  omega
theorem and_high (a k : Nat) : Builtin.bitAnd (a : Int) (-((2 ^ k : Nat) : Int)) = ((a - a % 2 ^ k : Nat) : Int) := by
  have h0 := Nat.two_pow_pos k
  rw [bitAnd_pn (by omega) (by omega)]
  have e4 : (Builtin.bitNot (-((2 ^ k : Nat) : Int))).toNat = 2 ^ k - 1 := by unfold Builtin.bitNot; omega
  rw [e4, Int.toNat_natCast, Nat.and_two_pow_sub_one_eq_mod]
  have := Nat.mod_le a (2 ^ k)
  omega
theorem high_test (a k m : Nat) : (a - a % 2 ^ k).testBit m = (decide (k ≤ m) && a.testBit m) := by
  have e : a - a % 2 ^ k = 2 ^ k * (a / 2 ^ k) + 0 := by have := Nat.div_add_mod a (2 ^ k); omega
  rw [e, Nat.testBit_two_pow_mul_add _ (Nat.two_pow_pos k)]
  by_cases h : m < k
  · rw [if_pos h, decide_eq_false (by omega), Nat.zero_testBit]; rfl
  · rw [if_neg h, decide_eq_true (by omega), Nat.testBit_div_two_pow, show m - k + k = m by omega]; rfl
theorem Pls.once {n s t b : Nat} {p : Nat → Bool} (h : Pls n s p) (e : s = 2 ^ t * (2 * b + 1)) : Bits n (2 ^ (n + 2) - 1 - (2 ^ (n + 2) - 1) % 2 ^ (t + 1)) (onceB n p) := fun m => by
  rw [high_test, Nat.testBit_two_pow_sub_one, Bool.and_comm]
  congr 1
  rw [Bool.eq_iff_iff, decide_eq_true_eq]
  unfold onceB
  rw [decide_eq_true_eq]
  have ht : s.testBit t = true := by rw [e, low_test, if_neg (by omega), if_pos rfl]
  obtain ⟨h1, h2, h3⟩ := h.le.mp ht
  constructor
  · exact fun hm => ⟨t, h2, h1, by omega, h3⟩
  · rintro ⟨x, g1, g2, g3, g4⟩
    have hx := h.le.mpr ⟨g2, g1, g4⟩
    rw [e, low_test] at hx
    by_cases q : x < t
    · rw [if_pos q] at hx; cases hx
    · omega
theorem and_nat (a b : Nat) : Builtin.bitAnd (a : Int) (b : Int) = ((a &&& b : Nat) : Int) := by
  rw [bitAnd_pp (by omega) (by omega), Int.toNat_natCast, Int.toNat_natCast]
theorem bits_two (k : Nat) : Builtin.Int.intBits ((2 ^ k : Nat) : Int) = k + 1 := by
  have h0 := Nat.two_pow_pos k
  have hn : ¬ ((((2 ^ k : Nat) : Int) == 0) = true) := fun h => by
    have := eq_of_beq h
    omega
  unfold Builtin.Int.intBits
  rw [if_neg hn, Int.natAbs_natCast, Nat.log2_two_pow]
theorem bits_nat {a : Nat} (h : a ≠ 0) : Builtin.Int.intBits (a : Int) = a.log2 + 1 := by
  have hn : ¬ (((a : Int) == 0) = true) := fun h' => by
    have := eq_of_beq h'
    omega
  unfold Builtin.Int.intBits
  rw [if_neg hn, Int.natAbs_natCast]
end NC
/-! ## NnI -/
/-! lists of natural numbers as data, plain -/
namespace NC
open PySem PySem.Spec PyProof.Rows L2 D2
abbrev nI (l : List Nat) : List Int := l.map fun (n : Nat) => (n : Int)
abbrev nR (l : List Nat) : List R := (nI l).map D2.rI
theorem nI_at (l : List Nat) (k : Nat) : (nI l).getD k 0 = ((l.getD k 0 : Nat) : Int) := by
  rw [List.getD_eq_getElem?_getD, List.getD_eq_getElem?_getD, List.getElem?_map]
  cases l[k]? <;> rfl
theorem nI_len (l : List Nat) : (nI l).length = l.length := List.length_map _
theorem nR_snoc (l : List Nat) (n : Nat) : nR l ++ [D2.rI (n : Int)] = nR (l ++ [n]) := by simp [nR, nI]
theorem nI_sum (l : List Nat) : (nI l).sum = ((l.sum : Nat) : Int) := by
  induction l with
  | nil => rfl
  | cons a l ih => rw [nI, List.map_cons, List.sum_cons, List.sum_cons, Int.natCast_add]; rw [nI] at ih; rw [ih]
end NC
/-! ## D2DtI -/
/-! the truth of a whole number -/
namespace D2
open PySem PySem.Spec PyProof.Rows L2
section
variable {X : Cx} {c : Ct} {σ : Sl} {m : Mem} {e : Expr}
theorem dt_int {K : Bool → Mem → Prop} (h : DE X c σ m e (fun r m1 => ∃ i, r = rI i ∧ K (i != 0) m1)) (he : ∀ whole, isTrue e X.env whole = (do let v ← whole; standAt e.pos; holding [v] (truthy v)) := by intro _; rfl) : DT X c σ m e K :=
  fun wh pins s τ H G Q hw I E k => by
    subst hw
    refine (pt_truth (pe_t (c := c)) he).run pins s τ H Q I ⟨σ, m, G, _, E, h, fun r m1 G1 H1 v ⟨i, er, z⟩ x1 E1 rv => ?_⟩
    subst er
    cases int_of rv
    exact ⟨_, rfl, k _ _ _ _ z x1 E1⟩
end
end D2
/-! ## D2Nin -/
/-! not in: a key in a list; int of a truth value -/
namespace D2
open PySem PySem.Spec PyProof.Rows L2
section
variable {X : Cx} {c : Ct} {σ : Sl} {m : Mem} {K : R → Mem → Prop}
theorem o_ninLS {kk : Nat} {s : List Nat} {ss : List (List Nat)} {r2 : R} (L : Live X c kk) (hv : VL m r2 (ss.map rS)) (z : K (rB (!decide (s ∈ ss))) m) : OP X c σ m (compareOp .NotIn) (rS s) r2 K := by
  have h : OP X c σ m (compareOp .NotIn) (rN (.text (sOf s))) r2 K := o_ninL (ks := ss.map fun t => NestedKey.text (sOf t)) L (by rw [NestedKey.depth]; omega) (by
    rw [nDs_map, List.map_map, List.map_map]
    exact hv) (by rw [txt_mem]; exact z)
  exact h
theorem d_intB {e : Expr} {p pos : Pos} (hg : Gl X "int") (hm : X.mg "int" = none) (h : DE X c σ m e (fun r m1 => ∃ b, r = rB b ∧ K (rI (if b then 1 else 0)) m1)) (hst : starEach [e] X.env = (false, eval e X.env) :: starEach [] X.env := by rfl) : DE X c σ m (.Call (.Name "int" p) [e] [] pos) K :=
  de_callT call_int1 hg hm boot_int (da_cons (h.imp fun r m1 ⟨i, z, k⟩ => da_nil fun τ H G vs Q E rv q => by
    subst z
    obtain ⟨v, rfl, r1⟩ := one_of rv
    cases bl_of r1
    exact .inr ⟨i, rfl, q.now k E (.dat .int)⟩) hst) (he := hst)
end
end D2
/-! ## D2ListO -/
/-! for x in own list, that stays -/
namespace D2
open PySem PySem.Spec PyProof.Rows L2
section
variable {X : Cx} {c : Ct} {σ : Sl} {m : Mem} {tg : Expr} {a : Addr} {x : Str}
theorem it_listO {ds : List D} {px : Pos} {K : List D → Mem → Prop} (hx : Lk σ x (.own a)) (hk : Kept X c a ds) (h : K ds m) : DItE X c σ m tg (.Name x px) K := by
  refine ⟨_, pi_list (pe_t (c := c)), fun τ H G R' E q => ⟨σ, m, G, fun r m1 => r = .own a ∧ m1 = m, E, de_name hx ⟨rfl, rfl⟩, fun r m1 G1 H1 v ⟨er, em⟩ x1 E1 rv => ?_⟩⟩
  subst er em
  cases rv
  obtain ⟨us, hh, rr⟩ := hk.at E1
  refine ⟨_, rfl, ⟨_, SqL.of hh⟩, q _ _ G1 H1 _ h x1 E1 fun i H2 τ2 σ2 m2 G2 x2 E2 => ?_⟩
  have hh2 : H2 a = some (.lst us) := by
    obtain ⟨vs, e1, e2, _⟩ := hk
    have z1 := E1.fr a _ e1 e2
    rw [hh] at z1
    cases z1
    exact E2.fr a _ e1 e2
  have r2 := rr.mono x2
  refine ⟨fun d hd => ?_, fun hl => ⟨us, SqL.of hh2, by rw [← r2.length]; exact hl⟩⟩
  obtain ⟨u, hu, ru⟩ := r2.rel.get (show (ds.map R.dat)[i]? = some (.dat d) by rw [List.getElem?_map, hd]; rfl)
  refine ⟨⟨us, u, SqL.of hh2, hu⟩, fun v H' ⟨e, y⟩ => .inl ⟨e, ?_⟩⟩
  have z := y us (SqL.of hh2)
  rw [hu] at z; cases z
  cases ru with | dat ru => exact ru
end
end D2
/-! ## D2Lst -/
/-! list(xs) of lists and tuples; repr of a list of texts; a lent list where no guard stands -/
namespace D2
open PySem PySem.Spec PyProof.Rows L2
section
variable {X : Cx} {c : Ct} {σ : Sl} {m : Mem} {K : R → Mem → Prop} {p pos : Pos} {e : Expr} {k : Nat}
theorem boot_list : bootBuiltins "list" = some (.type "list") := by decide +kernel
/-- list(xs), xs a list -/
theorem d_listL (hg : Gl X "list") (hm : X.mg "list" = none) (h : DE X c σ m e (fun r m1 => ∃ rs : List R, VL m1 r rs ∧ ∀ q, K (.own q) ((q, .lst rs) :: m1))) (hst : starEach [e] X.env = (false, eval e X.env) :: starEach [] X.env := by rfl) : DE X c σ m (.Call (.Name "list" p) [e] [] pos) K := by
  refine de_callT call_list_of hg hm boot_list (da_cons (h.imp fun r m1 ⟨rs, hv, z⟩ => da_nil ?_) hst) (he := hst)
  intro τ H G vs Q E rv q
  obtain ⟨v, rfl, r1⟩ := one_of rv
  obtain ⟨a, us, rfl, hs, rr⟩ := hv.at E r1
  exact ⟨a, us, rfl, .inl hs, fun l hl => q _ _ _ _ _ (z l) (Ex.refl G) (E.new hl (.lst rr)) .own⟩
/-- list(xs), xs a tuple of data -/
theorem d_listT (hg : Gl X "list") (hm : X.mg "list" = none) (h : DE X c σ m e (fun r m1 => ∃ ds : List D, r = .dat (.tup ds) ∧ ∀ q, K (.own q) ((q, .lst (ds.map .dat)) :: m1))) (hst : starEach [e] X.env = (false, eval e X.env) :: starEach [] X.env := by rfl) : DE X c σ m (.Call (.Name "list" p) [e] [] pos) K := by
  refine de_callT call_list_of hg hm boot_list (da_cons (h.imp fun r m1 ⟨ds, hr, z⟩ => da_nil ?_) hst) (he := hst)
  intro τ H G vs Q E rv q
  obtain ⟨v, rfl, r1⟩ := one_of rv
  subst hr
  cases r1 with | dat r1 =>
  cases r1 with | @tup a xs us hs rr =>
  exact ⟨a, us, rfl, .inr (ex_t E.sub hs), fun l hl => q _ _ _ _ _ (z l) (Ex.refl G) (E.new hl (.lst rr.rel)) .own⟩
end
abbrev pdS (words : List (List Nat)) : PyData := .list (words.map fun s => .str (sOf s))
theorem shown_strs_sum {b : Nat} : ∀ words : List (List Nat), (∀ w ∈ words, (∀ c ∈ w, c < 16 ^ 8) ∧ w.length ≤ b) → ((PyData.shownAll (words.map fun s => .str (sOf s))).map (·.length)).sum ≤ words.length * (10 * b + 2)
  | [], _ => by simp [PyData.shownAll]
  | w :: words, h => by
    have ih := shown_strs_sum words fun v hv => h v (List.mem_cons_of_mem _ hv)
    obtain ⟨h1, h2⟩ := h w List.mem_cons_self
    have hl := StrLaws.reprText_len (sOf w) (fun c hc => h1 c (by rwa [show (sOf w).cps.toList = w from lit_sOf w] at hc))
    have e : (sOf w).length = w.length := sOf_len w
    rw [e] at hl
    have g : ((PyData.shownAll ((w :: words).map fun s => .str (sOf s))).map (·.length)).sum = (reprText (sOf w)).length + ((PyData.shownAll (words.map fun s => .str (sOf s))).map (·.length)).sum := by
      rw [List.map_cons, PyData.shownAll, List.map_cons, List.sum_cons, PyData.shown]
    rw [g, List.length_cons, Nat.succ_mul]
    omega
theorem showable_strs : ∀ words : List (List Nat), PyData.showableAll (words.map fun s => .str (sOf s)) = true ∧ PyData.hasDictAll (words.map fun s => .str (sOf s)) = false
  | [] => ⟨rfl, rfl⟩
  | w :: words => by
    obtain ⟨h1, h2⟩ := showable_strs words
    rw [List.map_cons, PyData.showableAll, PyData.hasDictAll, h1, h2]
    exact ⟨rfl, rfl⟩
theorem sh_strs {words : List (List Nat)} {b : Nat} (h : ∀ w ∈ words, (∀ c ∈ w, c < 16 ^ 8) ∧ w.length ≤ b) (hb : words.length * (10 * b + 4) ≤ 900000) : ShOk (pdS words) := by
  obtain ⟨h1, h2⟩ := showable_strs words
  refine ⟨by rw [PyData.showable]; exact h1, by rw [PyData.hasDict]; exact h2, by have := depth_strs words; rw [PyData.depth]; omega, ?_⟩
  have hs := shown_strs_sum words h
  have hl := listText_len_le (PyData.shownAll (words.map fun s => .str (sOf s)))
  rw [PyData.shownAll_length, List.length_map] at hl
  rw [PyData.shown]
  have e : words.length * (10 * b + 4) = words.length * (10 * b + 2) + 2 * words.length := by
    rw [show 10 * b + 4 = (10 * b + 2) + 2 by omega, Nat.mul_add]
    omega
  omega
theorem CalleeR.lend {P : Program} {w : World} {K : PySem.W.Frag} {mg : Str → Option Value} {base : Heap} {x : Str} {k : Nat} {S : Sp2} (h : CalleeR P w K mg base x k S) : CalleeR P w K mg base x k (D2.lend S) := by
  obtain ⟨f, fd, ps, h1, h2, h3, h4⟩ := h
  exact ⟨f, fd, ps, h1, h2, h3, h4.imp fun vs H Q E z => spOf_lend z⟩
theorem pv_strs {m : Mem} {r : R} {words : List (List Nat)} (h : VL m r (words.map rS)) : PV m r (pdS words) := .lst h (pvs_str m words)
end D2
/-! ## walks -/
namespace NC
open PySem PySem.Spec PyProof.Rows L2 D2
local macro_rules | `(tactic| ktf_call "lk") => `(tactic| (with_reducible first | exact Lk.here | exact (Lk.there Lk.here) | exact (Lk.there (Lk.there Lk.here)) | exact (Lk.there (Lk.there (Lk.there Lk.here))) | exact (Lk.there (Lk.there (Lk.there (Lk.there Lk.here)))) | exact (Lk.there (Lk.there (Lk.there (Lk.there (Lk.there Lk.here))))) | exact (Lk.there (Lk.there (Lk.there (Lk.there (Lk.there (Lk.there Lk.here)))))) | exact (Lk.there (Lk.there (Lk.there (Lk.there (Lk.there (Lk.there (Lk.there Lk.here))))))) | exact (Lk.there (Lk.there (Lk.there (Lk.there (Lk.there (Lk.there (Lk.there (Lk.there Lk.here)))))))) | exact (Lk.there (Lk.there (Lk.there (Lk.there (Lk.there (Lk.there (Lk.there (Lk.there (Lk.there Lk.here))))))))) | exact (Lk.there (Lk.there (Lk.there (Lk.there (Lk.there (Lk.there (Lk.there (Lk.there (Lk.there (Lk.there Lk.here)))))))))) | exact (Lk.there (Lk.there (Lk.there (Lk.there (Lk.there (Lk.there (Lk.there (Lk.there (Lk.there (Lk.there (Lk.there Lk.here))))))))))) | exact (Lk.there (Lk.there (Lk.there (Lk.there (Lk.there (Lk.there (Lk.there (Lk.there (Lk.there (Lk.there (Lk.there (Lk.there Lk.here)))))))))))) | exact (Lk.there (Lk.there (Lk.there (Lk.there (Lk.there (Lk.there (Lk.there (Lk.there (Lk.there (Lk.there (Lk.there (Lk.there (Lk.there Lk.here))))))))))))) | fail "none"))
local macro_rules | `(tactic| ktf_call "put") => `(tactic| (with_reducible first | exact PutF.here | exact (PutF.there PutF.here) | exact (PutF.there (PutF.there PutF.here)) | exact (PutF.there (PutF.there (PutF.there PutF.here))) | exact (PutF.there (PutF.there (PutF.there (PutF.there PutF.here)))) | exact (PutF.there (PutF.there (PutF.there (PutF.there (PutF.there PutF.here))))) | exact (PutF.there (PutF.there (PutF.there (PutF.there (PutF.there (PutF.there PutF.here)))))) | exact (PutF.there (PutF.there (PutF.there (PutF.there (PutF.there (PutF.there (PutF.there PutF.here))))))) | exact (PutF.there (PutF.there (PutF.there (PutF.there (PutF.there (PutF.there (PutF.there (PutF.there PutF.here)))))))) | exact (PutF.there (PutF.there (PutF.there (PutF.there (PutF.there (PutF.there (PutF.there (PutF.there (PutF.there PutF.here))))))))) | exact (PutF.there (PutF.there (PutF.there (PutF.there (PutF.there (PutF.there (PutF.there (PutF.there (PutF.there (PutF.there PutF.here)))))))))) | exact (PutF.there (PutF.there (PutF.there (PutF.there (PutF.there (PutF.there (PutF.there (PutF.there (PutF.there (PutF.there (PutF.there PutF.here))))))))))) | exact (PutF.there (PutF.there (PutF.there (PutF.there (PutF.there (PutF.there (PutF.there (PutF.there (PutF.there (PutF.there (PutF.there (PutF.there PutF.here)))))))))))) | exact (PutF.there (PutF.there (PutF.there (PutF.there (PutF.there (PutF.there (PutF.there (PutF.there (PutF.there (PutF.there (PutF.there (PutF.there (PutF.there PutF.here))))))))))))) | fail "none"))
local macro_rules | `(tactic| ktf_call "has") => `(tactic| (with_reducible first | exact Has.here | exact (Has.there Has.here) | exact (Has.there (Has.there Has.here)) | exact (Has.there (Has.there (Has.there Has.here))) | exact (Has.there (Has.there (Has.there (Has.there Has.here)))) | exact (Has.there (Has.there (Has.there (Has.there (Has.there Has.here))))) | exact (Has.there (Has.there (Has.there (Has.there (Has.there (Has.there Has.here)))))) | exact (Has.there (Has.there (Has.there (Has.there (Has.there (Has.there (Has.there Has.here))))))) | fail "none"))
local macro_rules | `(tactic| ktf_call "chg") => `(tactic| (with_reducible first | exact Chg.here | exact (Chg.there Chg.here) | exact (Chg.there (Chg.there Chg.here)) | exact (Chg.there (Chg.there (Chg.there Chg.here))) | exact (Chg.there (Chg.there (Chg.there (Chg.there Chg.here)))) | exact (Chg.there (Chg.there (Chg.there (Chg.there (Chg.there Chg.here))))) | exact (Chg.there (Chg.there (Chg.there (Chg.there (Chg.there (Chg.there Chg.here)))))) | exact (Chg.there (Chg.there (Chg.there (Chg.there (Chg.there (Chg.there (Chg.there Chg.here))))))) | fail "none"))
local macro_rules | `(tactic| ktf_call "vl") => `(tactic| first | ((with_reducible refine' VL.own ?cv); (case cv => ktf_call "has")) | with_reducible exact VL.dat | fail "vl")
local macro_rules | `(tactic| ktf_call "vu") => `(tactic| ((with_reducible refine' VU.own ?cv); (case cv => ktf_call "has")))
local macro_rules | `(tactic| ktf_call "ati") => `(tactic| first | assumption | exact ati_l rfl | fail "ati")
local macro_rules | `(tactic| ktf_call "vi") => `(tactic| first | with_reducible exact vi_dat | ((with_reducible refine' vi_own ?cv); (case cv => ktf_call "has")) | ((with_reducible refine' vi_nil ?cv); (case cv => ktf_call "vl")) | fail "vi")
local macro_rules | `(tactic| ktf_call "vs") => `(tactic| first | with_reducible exact vs_dat | ((with_reducible refine' vs_own ?cv); (case cv => ktf_call "has")) | ((with_reducible refine' vs_nil ?cv); (case cv => ktf_call "vl")) | fail "vs")
local macro_rules | `(tactic| ktf_call "hyp") => `(tactic| simp only [decide_eq_true_eq, decide_eq_false_iff_not, Bool.not_eq_true', Bool.not_eq_false', Bool.not_true, Bool.not_false, Bool.true_eq_false, Bool.false_eq_true, Int.not_lt, Int.not_le] at *)
local macro_rules | `(tactic| ktf_call "side") => `(tactic| first | assumption | decide | omega | (simp only [List.length_cons, List.length_nil, List.length_map]; omega) | exact ⟨Int.emod_nonneg _ (by omega), Int.emod_lt_of_pos _ (by omega)⟩ | (decide +kernel) | (simp; done) | (simp; omega))
local macro_rules | `(tactic| ktf_call "cmul") => `(tactic| first | assumption | exact cm_l (by omega) (by omega) | exact cm_r (by omega) (by omega) | fail "cmul")
local macro_rules | `(tactic| ktf_call "cdiv") => `(tactic| first | assumption | exact ⟨by assumption, by assumption⟩ | exact cd_s (by omega) (by omega) | fail "cdiv")
local macro_rules | `(tactic| ktf_call "frz") => `(tactic| (repeat (first | exact Frz.dat | exact Frzs.nil | apply Frzs.cons | apply Frz.lst | exact Frzs.map _ _)))
local macro_rules | `(tactic| ktf_call "ln") => `(tactic| first | ((with_reducible refine' ln_I ?cv); (case cv => ktf_call "vi")) | ((with_reducible refine' ln_S ?cv); (case cv => ktf_call "vs")) | ((with_reducible refine' Ln.lst ?cv); (case cv => ktf_call "vl")) | ((with_reducible refine' Ln.str ?cv); (case cv => ktf_call "side")) | with_reducible exact Ln.tup | fail "ln")
local macro_rules | `(tactic| ktf_call "tym") => `(tactic| first | with_reducible exact TyM.str | with_reducible exact TyM.lst (by ktf_call "vl") | with_reducible exact TyM.int | with_reducible exact TyM.dk (by ktf_call "has"))
local macro_rules | `(tactic| ktf_call "gl") => `(tactic| first | assumption | exact Def.gl (by assumption) (by decide +kernel) | exact IsBlk.gl (by assumption) (by decide +kernel) | exact IsBlkH.gl (by assumption) (by decide +kernel) | fail "gl")
local macro_rules | `(tactic| ktf_call "mg") => `(tactic| first | assumption | exact Def.mg_ (by assumption) (by assumption) | exact IsBlk.mg (by assumption) (by ktf_call "mg") | exact IsBlkH.mg (by assumption) (by ktf_call "mg") | fail "mg")
local macro_rules | `(tactic| ktf_call "own") => `(tactic| first | assumption | exact Def.own (by assumption) (by decide +kernel) | fail "own")
local macro_rules | `(tactic| ktf_call "cal") => `(tactic| first | assumption | exact Def.callee (by assumption) (by assumption) | exact IsBlk.callee (by assumption) (by ktf_call "cal") | fail "cal")
local macro_rules | `(tactic| ktf_call "fog") => `(tactic| (repeat (first | with_reducible exact Fog.nil | with_reducible apply Fog.keep | with_reducible apply Fog.drop)))
local macro_rules | `(tactic| ktf_call "blk") => `(tactic| first | with_reducible exact Blk.nil | exact Blk.keep (by decide +kernel) (by ktf_call "blk") | exact Blk.drop (by ktf_call "blk"))
local macro_rules | `(tactic| ktf_call "sub") => `(tactic| (repeat (with_reducible first | exact List.Sublist.slnil | exact List.nil_sublist _ | exact sub_nil _ | apply List.Sublist.cons_cons | apply List.Sublist.cons)))
local macro_rules | `(tactic| ktf_call "ce") => `(tactic| fail "ce")
-- expressions
local macro_rules | `(tactic| ktf_call "e") => `(tactic| first
  | ((with_reducible show DE _ _ _ _ (.Name _ _) _); refine de_name (by ktf_call "lk") ?_)
  | ((with_reducible show DE _ _ _ _ (.Constant _ _ _) _); first | refine de_int ?_ | refine de_str ?_ | refine de_bl ?_ | refine de_non ?_)
  | ((with_reducible show DE _ _ _ _ (.BinOp _ _ _ _) _); refine de_bin ?_)
  | ((with_reducible show DE _ _ _ _ (.Subscript _ (.Slice _ _ none _) _) _); refine d_slice ?_)
  | ((with_reducible show DE _ _ _ _ (.Subscript _ _ _) _); refine de_ix ?_)
  | ((with_reducible show DE _ _ _ _ (.Call (.Name _ _) _ _ _) _); first
      | ((with_reducible show DE _ _ _ _ (.Call (.Name "len" _) _ _ _) _); refine d_len (by ktf_call "gl") (by ktf_call "mg") ?_)
      | ((with_reducible show DE _ _ _ _ (.Call (.Name "int" _) _ _ _) _); refine d_int (by ktf_call "gl") (by ktf_call "mg") ?_)
      | ((with_reducible show DE _ _ _ _ (.Call (.Name "abs" _) _ _ _) _); refine d_abs (by ktf_call "gl") (by ktf_call "mg") ?_)
      | ktf_call "ce"
      | refine de_call (by ktf_call "cal") (by assumption) (by ktf_call "gl") ?_ (hjk := by omega))
  | ((with_reducible show DE _ _ _ _ (.Call (.Attribute _ "join" _) _ _ _) _); refine d_join ?_)
  | ((with_reducible show DE _ _ _ _ (.Call (.Attribute _ "append" _) _ _ _) _); refine d_appendL ?_)
  | ((with_reducible show DE _ _ _ _ (.Call (.Attribute _ "extend" _) _ _ _) _); refine d_extendL ?_)
  | ((with_reducible show DE _ _ _ _ (.Call (.Attribute _ "find" _) [_, _] _ _) _); refine d_find3 ?_)
  | ((with_reducible show DE _ _ _ _ (.Compare _ [_] [_] _) _); refine de_cmp ?_)
  | ((with_reducible show DE _ _ _ _ (.BoolOp _ [_] _) _); refine de_bo1 ?_)
  | ((with_reducible show DE _ _ _ _ (.BoolOp .And _ _) _); refine de_and ?_)
  | ((with_reducible show DE _ _ _ _ (.BoolOp .Or _ _) _); refine de_or ?_)
  | ((with_reducible show DE _ _ _ _ (.UnaryOp .Not _ _) _); refine de_not ?_)
  | ((with_reducible show DE _ _ _ _ (.UnaryOp _ _ _) _); refine de_un ?_)
  | ((with_reducible show DE _ _ _ _ (.List _ _) _); refine de_lst ?_)
  | ((with_reducible show DE _ _ _ _ (.Tuple _ _ _) _); refine de_tup ?_)
  | ((with_reducible show DE _ _ _ _ (.IfExp _ _ _ _) _); refine de_if ?_))
local macro_rules | `(tactic| ktf_call "o") => `(tactic| first
  | ((with_reducible show OP _ _ _ _ (binaryOp _) _ _ _); first
    | ((with_reducible refine' o_add  ?kk))
    | ((with_reducible refine' o_addS ?ca ?kk); (case ca => ktf_call "side"))
    | ((with_reducible refine' o_cat ?ca ?cb ?cd (fun p => ?kk)); (case ca => ktf_call "vu"); (case cb => ktf_call "vu"); (case cd => ktf_call "side"))
    | ((with_reducible refine' o_sub  ?kk))
    | ((with_reducible refine' o_mulS ?ca ?kk); (case ca => ktf_call "cmul"))
    | ((with_reducible refine' o_mul ?ca ?kk); (case ca => assumption))
    | ((with_reducible refine' o_div ?ca ?kk); (case ca => ktf_call "cdiv"))
    | ((with_reducible refine' o_mod ?ca ?kk); (case ca => (first | assumption | omega | decide)))
    | ((with_reducible refine' o_pow ?ca ?kk); (case ca => decide))
    | fail "o")
  | ((with_reducible show OP _ _ _ _ (compareOp _) _ _ _); first
    | ((with_reducible refine' o_lt  ?kk))
    | ((with_reducible refine' o_le  ?kk))
    | ((with_reducible refine' o_gt  ?kk))
    | ((with_reducible refine' o_ge  ?kk))
    | ((with_reducible refine' o_eqI  ?kk))
    | ((with_reducible refine' o_eqS  ?kk))
    | ((with_reducible refine' o_eqB  ?kk))
    | ((with_reducible refine' o_eqLI ?ca ?cb ?cd ?kk); (case ca => assumption); (case cb => ktf_call "vi"); (case cd => ktf_call "vi"))
    | ((with_reducible refine' o_eqLS ?ca ?cb ?cd ?kk); (case ca => assumption); (case cb => ktf_call "vs"); (case cd => ktf_call "vs"))
    | ((with_reducible refine' o_neI  ?kk))
    | ((with_reducible refine' o_neS  ?kk))
    | ((with_reducible refine' o_neLI ?ca ?cb ?cd ?kk); (case ca => assumption); (case cb => ktf_call "vi"); (case cd => ktf_call "vi"))
    | ((with_reducible refine' o_neLS ?ca ?cb ?cd ?kk); (case ca => assumption); (case cb => ktf_call "vs"); (case cd => ktf_call "vs"))
    | ((with_reducible refine' o_isB  ?kk))
    | fail "o")
  | ((with_reducible refine' u_neg  ?kk))
  | ((with_reducible refine' x_I ?ca ?cb ?kk); (case ca => ktf_call "vi"); (case cb => ktf_call "side"))
  | ((with_reducible refine' x_S ?ca ?cb ?kk); (case ca => ktf_call "vs"); (case cb => ktf_call "side"))
  | ((with_reducible refine' x_B ?ca ?cb ?kk); (case ca => ((with_reducible refine' vb_own ?cv); (case cv => ktf_call "has"))); (case cb => ktf_call "side"))
  | ((with_reducible refine' x_ch ?ca ?cb ?kk); (case ca => ktf_call "side"); (case cb => ktf_call "side"))
  | ((with_reducible refine' x_lst ?ca ?cb ?kk); (case ca => ktf_call "vl"); (case cb => ktf_call "ati"))
  | ((with_reducible refine' x_tup ?ca ?kk); (case ca => ktf_call "ati"))
  | ((with_reducible refine' x_str ?ca ?cb ?kk); (case ca => ktf_call "side"); (case cb => ktf_call "ati"))
  | ((with_reducible refine' s_lst ?ca (fun p => ?kk)); (case ca => ktf_call "vl"))
  | ((with_reducible refine' s_str ?ca ?kk); (case ca => ktf_call "side"))
  | fail "o")
local macro_rules | `(tactic| ktf_call "t") => `(tactic| first
  | ((with_reducible show DT _ _ _ _ (.Compare _ [_] [_] _) _); refine dt_cmp ?_)
  | ((with_reducible show DT _ _ _ _ (.BoolOp _ _ _) _); refine dt_bool ?_)
  | ((with_reducible show DT _ _ _ _ (.UnaryOp .Not _ _) _); refine dt_not ?_)
  | ((with_reducible show DT _ _ _ _ _ _); refine dt_val ?_)
  | ((with_reducible show DW _ _ _ _ (.BoolOp .And [_] _) _); refine dw_and1 ?_)
  | ((with_reducible show DW _ _ _ _ (.BoolOp .Or [_] _) _); refine dw_or1 ?_)
  | ((with_reducible show DW _ _ _ _ (.BoolOp .And _ _) _); refine dw_and ?_)
  | ((with_reducible show DW _ _ _ _ (.BoolOp .Or _ _) _); refine dw_or ?_))
local macro_rules | `(tactic| ktf_call "s") => `(tactic| first
  | ((with_reducible show DSs _ _ _ _ (List.drop _ _) _); first | refine dss_at rfl ?_ | refine dss_end rfl ?_)
  | ((with_reducible show DSs _ _ _ _ (_ :: _) _); refine dss_cons ?_)
  | ((with_reducible show DSs _ _ _ _ [] _); refine dss_nil ?_)
  | ((with_reducible show DS _ _ _ _ (.If _ _ _ _) _); refine ds_if ?_)
  | ((with_reducible show DS _ _ _ _ (.Return (some _) _) _); refine ds_ret ?_)
  | ((with_reducible show DS _ _ _ _ (.Assign [.Name _ _] _ _) _); refine ds_asg (by ktf_call "own") (by ktf_call "put") ?_)
  | ((with_reducible show DS _ _ _ _ (.Assign [.Subscript _ _ _] _ _) _); refine ds_setL ?_)
  | ((with_reducible show DS _ _ _ _ (.Expr _ _) _); refine ds_expr ?_)
  | ((with_reducible show DS _ _ _ _ (.AugAssign (.Name _ _) .Add _ _) _); refine ds_augI ip_add (by ktf_call "own") (by ktf_call "lk") (by ktf_call "put") ?_)
  | ((with_reducible show DS _ _ _ _ (.AugAssign (.Name _ _) .Sub _ _) _); refine ds_augI ip_sub (by ktf_call "own") (by ktf_call "lk") (by ktf_call "put") ?_)
  | fail "s")
local macro_rules | `(tactic| ktf_call "k") => `(tactic| first
  | ((with_reducible show DA _ _ _ _ [] _); refine da_nil ?_)
  | ((with_reducible show DA _ _ _ _ (_ :: _) _); refine da_cons ?_)
  | ((with_reducible show DO _ _ _ _ none _); refine do_none ?_)
  | ((with_reducible show DO _ _ _ _ (some _) _); refine do_some ?_)
  | ((with_reducible show KB _ _ _); refine kb ?_)
  | ((with_reducible show (_ = true → _) ∧ (_ = false → _)); refine ⟨fun hyp => ?_, fun hyp => ?_⟩ <;> (try simp only [decide_eq_true_eq, decide_eq_false_iff_not, Bool.not_eq_true', Bool.not_eq_false', Bool.not_true, Bool.not_false, Bool.true_eq_false, Bool.false_eq_true, Int.not_lt, Int.not_le, nil_len, Nat.pos_iff_ne_zero.symm] at hyp))
  | ((with_reducible show (_ = false → _) ∧ (_ = true → _)); refine ⟨fun hyp => ?_, fun hyp => ?_⟩ <;> (try simp only [decide_eq_true_eq, decide_eq_false_iff_not, Bool.not_eq_true', Bool.not_eq_false', Bool.not_true, Bool.not_false, Bool.true_eq_false, Bool.false_eq_true, Int.not_lt, Int.not_le, nil_len, Nat.pos_iff_ne_zero.symm] at hyp))
  | ((with_reducible show ∃ d, rB _ = rB d ∧ _); refine ⟨_, rfl, ?_⟩)
  | ((with_reducible show ∃ d, D2.rI _ = D2.rI d ∧ _); refine ⟨_, rfl, ?_⟩)
  | ((with_reducible show ∃ n, Ln _ _ n ∧ _); refine ⟨_, by ktf_call "ln", ?_⟩)
  | ((with_reducible refine' Exists.intro _ (Exists.intro _ (Exists.intro _ (Exists.intro _ (Exists.intro _ (And.intro rfl (And.intro rfl (And.intro ?ch (And.intro ?ix ?_))))))))); (case ch => ktf_call "chg"); (case ix => first | exact ixN_ok (by ktf_call "side") (by ktf_call "side") | exact rfl))
  | ((with_reducible show rS _ = rS [] ∧ _); refine ⟨rfl, ?_⟩)
  | ((with_reducible show ∃ s, rS _ = rS s ∧ _); refine ⟨_, rfl, ?_⟩)
  | ((with_reducible refine' Exists.intro _ (Exists.intro _ (Exists.intro _ (And.intro rfl (And.intro ?ch ?_))))); (case ch => ktf_call "has"))
  | ((with_reducible refine' Exists.intro _ (Exists.intro _ (And.intro ?ch (And.intro ?cl ?_)))); (case ch => ktf_call "chg"); (case cl => ktf_call "side"))
  | ((with_reducible refine' Exists.intro _ (Exists.intro _ (Exists.intro _ (And.intro ?ch (And.intro ?cu (And.intro ?cl ?_)))))); (case ch => ktf_call "chg"); (case cu => ktf_call "vu"); (case cl => ktf_call "side"))
  | ((with_reducible show _ ≤ 1000000 ∧ _); first | refine ⟨by ktf_call "side", fun p => ?_⟩ | refine ⟨by ktf_call "side", _, _, by ktf_call "frz", ?_⟩)
  | ktf_call "sp"
  | fail "k")
local macro_rules | `(tactic| ktf_call "d2") => `(tactic| (repeat' (first
  | ((with_reducible show DE _ _ _ _ _ _); ktf_call "e")
  | ((with_reducible show OP _ _ _ _ _ _ _ _); ktf_call "o")
  | ((with_reducible show IX _ _ _ _ _ _ _ _ _); ktf_call "o")
  | ((with_reducible show DT _ _ _ _ _ _); ktf_call "t")
  | ((with_reducible show DW _ _ _ _ _ _); ktf_call "t")
  | ((with_reducible show DA _ _ _ _ _ _); ktf_call "k")
  | ((with_reducible show DS _ _ _ _ _ _); ktf_call "s")
  | ((with_reducible show DSs _ _ _ _ _ _); ktf_call "s")
  | ((with_reducible show UP _ _ _ _ _ _ _); ktf_call "o")
  | ((with_reducible show SlK _ _ _ _ _ _ _ _); ktf_call "o")
  | ktf_call "k" | fail "stuck")))
local macro_rules | `(tactic| ktf_call "kitb") => `(tactic| with_reducible first | exact kitb_NoneType_int | exact kitb_NoneType_bool | exact kitb_NoneType_str | exact kitb_NoneType_list | exact kitb_NoneType_tuple | exact kitb_NoneType_dict | exact kitb_bool_int | exact kitb_bool_bool | exact kitb_bool_str | exact kitb_bool_list | exact kitb_bool_tuple | exact kitb_bool_dict | exact kitb_int_int | exact kitb_int_bool | exact kitb_int_str | exact kitb_int_list | exact kitb_int_tuple | exact kitb_int_dict | exact kitb_str_int | exact kitb_str_bool | exact kitb_str_str | exact kitb_str_list | exact kitb_str_tuple | exact kitb_str_dict | exact kitb_list_int | exact kitb_list_bool | exact kitb_list_str | exact kitb_list_list | exact kitb_list_tuple | exact kitb_list_dict | exact kitb_tuple_int | exact kitb_tuple_bool | exact kitb_tuple_str | exact kitb_tuple_list | exact kitb_tuple_tuple | exact kitb_tuple_dict | exact kitb_dict_int | exact kitb_dict_bool | exact kitb_dict_str | exact kitb_dict_list | exact kitb_dict_tuple | exact kitb_dict_dict)
local macro_rules | `(tactic| ktf_call "tyr") => `(tactic| with_reducible first | exact TyR.int | exact TyR.bl | exact TyR.str | exact TyR.non | exact TyR.tup | ((refine' TyR.lst ?clv); (case clv => ktf_call "vl")))
local macro_rules | `(tactic| ktf_call "vo") => `(tactic| with_reducible first | exact VO.dat | ((refine' VO.own ?cv); (case cv => ktf_call "has")))
local macro_rules | `(tactic| ktf_call "e") => `(tactic| first
  | ((with_reducible show DE _ _ _ _ (.Call (.Name "isinstance" _) _ _ _) _); refine d_isi (by ktf_call "gl") (by ktf_call "mg") ?_)
  | ((with_reducible show DE _ _ _ _ (.Name "int" _) _); refine de_ty (T := "int") (by ktf_call "gl") (by ktf_call "mg") (by decide +kernel) ?_)
  | ((with_reducible show DE _ _ _ _ (.Name "bool" _) _); refine de_ty (T := "bool") (by ktf_call "gl") (by ktf_call "mg") (by decide +kernel) ?_)
  | ((with_reducible show DE _ _ _ _ (.Name "str" _) _); refine de_ty (T := "str") (by ktf_call "gl") (by ktf_call "mg") (by decide +kernel) ?_)
  | ((with_reducible show DE _ _ _ _ (.Name "list" _) _); refine de_ty (T := "list") (by ktf_call "gl") (by ktf_call "mg") (by decide +kernel) ?_)
  | ((with_reducible show DE _ _ _ _ (.Name "tuple" _) _); refine de_ty (T := "tuple") (by ktf_call "gl") (by ktf_call "mg") (by decide +kernel) ?_)
  | ((with_reducible show DE _ _ _ _ (.Name _ _) _); first | refine de_tupG (by assumption) (by assumption) ?_ | refine de_strG (by assumption) (by assumption) ?_ | refine de_intG (by assumption) (by assumption) ?_)
  | ((with_reducible show DE _ _ _ _ (.Attribute _ _ _) _); refine de_fld (by assumption) (by assumption) ?_)
  | ((with_reducible show DE _ _ _ _ (.Call (.Attribute _ "strip" _) _ _ _) _); refine d_stripC ?_)
  | ((with_reducible show DE _ _ _ _ (.Call (.Attribute _ _ _) (_ :: _) _ _) _); refine de_meth (by assumption) (by assumption) ?_ (hjk := by omega))
  | ((with_reducible show DE _ _ _ _ (.Call (.Attribute _ _ _) [] _ _) _); refine de_meth0 (by assumption) (by assumption) ?_ (hjk := by omega))
  | ((with_reducible show DE _ _ _ _ (.Call (.Name "min" _) [_, _] _ _) _); refine d_min2 (by assumption) (by ktf_call "gl") (by ktf_call "mg") ?_)
  | ((with_reducible show DE _ _ _ _ (.Call (.Name "max" _) [_, _] _ _) _); refine d_max2 (by assumption) (by ktf_call "gl") (by ktf_call "mg") ?_)
  | ((with_reducible show DE _ _ _ _ (.Call (.Name _ _) (_ :: _) (_ :: _) _) _); refine de_callK (by assumption) (by assumption) (by ktf_call "gl") ?_ (hjk := by omega))
  | ((with_reducible show DE _ _ _ _ (.Call (.Name _ _) (_ :: _) [] _) _); refine de_make (by assumption) (by assumption) (by ktf_call "gl") ?_ (hjk := by omega))
  | ((with_reducible show DE _ _ _ _ (.Call (.Name _ _) [] [] _) _); refine de_make0 (by assumption) (by assumption) (by ktf_call "gl") ?_ (hjk := by omega))
  | ((with_reducible show DE _ _ _ _ (.Dict [] [] _) _); refine d_new0 fun p => ?_))
local macro_rules | `(tactic| ktf_call "k") => `(tactic| first
  | ((with_reducible refine' Exists.intro _ (Exists.intro _ (Exists.intro _ (Exists.intro _ (And.intro rfl (And.intro ?ty (And.intro ?kb ?_))))))); (case ty => ktf_call "tyr"); (case kb => ktf_call "kitb"))
  | ((with_reducible show ∃ fs r, VO _ _ _ fs ∧ _); refine ⟨_, _, by ktf_call "vo", rfl, ?_⟩)
  | ((with_reducible show (∃ fs, VO _ _ _ fs ∧ _) ∧ _); refine ⟨⟨_, by ktf_call "vo", rfl⟩, ?_⟩)
  | ((with_reducible show DKw _ _ _ _ [] _); refine dk_nil ?_)
  | ((with_reducible show DKw _ _ _ _ (_ :: _) _); refine dk_cons ?_)
  | ((with_reducible show _ ≤ 1000000 ∧ DE _ _ _ _ _ _); refine ⟨by ktf_call "side", ?_⟩))
local macro_rules | `(tactic| ktf_call "s") => `(tactic| first
  | ((with_reducible show DS _ _ _ _ (.Raise _ _ _) _); refine ds_raise (by assumption) (by assumption) (by ktf_call "gl") ?_)
  | ((with_reducible show DS _ _ _ _ (.Assign [.Attribute _ _ _] _ _) _); refine ds_fld (by assumption) (by assumption) ?_)
  | ((with_reducible show DS _ _ _ _ (.Break _) _); refine ds_brk ?_)
  | ((with_reducible show DS _ _ _ _ (.Continue _) _); refine ds_cont ?_)
  | ((with_reducible show DS _ _ _ _ (.Pass _) _); refine ds_pass ?_))
local macro_rules | `(tactic| ktf_call "o") => `(tactic| ((with_reducible refine' o_ninS ?ca ?kk); (case ca => assumption)))
local macro_rules | `(tactic| ktf_call "t") => `(tactic| ((with_reducible show DT _ _ _ _ (.Compare _ [_, _] [_, _] _) _); first | refine dt_chainI L2.op_le L2.op_le ?_ | refine dt_chainI L2.op_lt L2.op_le ?_ | refine dt_chainI L2.op_le L2.op_lt ?_ | refine dt_chainI L2.op_lt L2.op_lt ?_))
local macro_rules | `(tactic| ktf_call "yes") => `(tactic| ((try dsimp only [List.nil_append, List.cons_append]); refine kb ?_; (first | refine ⟨fun h => absurd h (by decide), fun _ => ?_⟩ | refine ⟨fun _ => ?_, fun h => absurd h (by decide)⟩ | refine ⟨fun h => (by cases h), fun _ => ?_⟩ | refine ⟨fun _ => ?_, fun h => (by cases h)⟩)))
/-! ## NXk -/
section
set_option pp.maxSteps 1500
/-! pool D: the law's kinds of an own exception -/
abbrev kdN : List Str := ["BadLetters", "BadWord", "BadNumber", "OtherLetters", "TooLarge", "BadText", "BadState", "BadRow", "Future", "Past", "Free", "NoneThere", "NoElement", "NoMember", "BadSort", "BadName", "NoName", "SameName", "NothingThere", "BadDeed", "Refused", "Untrue"]
abbrev kdC (cn : Str) : List Bool := [decide (("BadLetters" : Str) = cn), decide (("BadWord" : Str) = cn), decide (("BadNumber" : Str) = cn), decide (("OtherLetters" : Str) = cn), decide (("TooLarge" : Str) = cn), decide (("BadText" : Str) = cn), decide (("BadState" : Str) = cn), decide (("BadRow" : Str) = cn), decide (("Future" : Str) = cn), decide (("Past" : Str) = cn), decide (("Free" : Str) = cn), decide (("NoneThere" : Str) = cn), decide (("NoElement" : Str) = cn), decide (("NoMember" : Str) = cn), decide (("BadSort" : Str) = cn), decide (("BadName" : Str) = cn), decide (("NoName" : Str) = cn), decide (("SameName" : Str) = cn), decide (("NothingThere" : Str) = cn), decide (("BadDeed" : Str) = cn), decide (("Refused" : Str) = cn), decide (("Untrue" : Str) = cn), false]
def kdsOf (cn : Str) (i : Nat) : List Nat := (List.range i).filter fun j => (kdC cn).getD j false
/-- the number of a class -/
def kix (cn : Str) : Nat := kdN.findIdx fun x => decide (x = cn)
theorem kd_all : ∀ cn ∈ kdN, kdsOf cn 23 = [kix cn] := by decide +kernel
theorem kds_snoc (cn : Str) (i : Nat) : kdsOf cn (i + 1) = kdsOf cn i ++ if (kdC cn).getD i false = true then [i] else [] := by
  unfold kdsOf
  rw [List.range_succ, List.filter_append]
  congr 1
  by_cases h : (kdC cn).getD i false = true
  · rw [if_pos h, List.filter_cons_of_pos (p := fun j => (kdC cn).getD j false) h]; rfl
  · rw [if_neg h, List.filter_cons_of_neg (p := fun j => (kdC cn).getD j false) h]; rfl
abbrev natR (ns : List Nat) : List R := ns.map fun (i : Nat) => D2.rI (i : Int)
local macro_rules | `(tactic| ktf_call "e") => `(tactic| first
  | ((with_reducible show DE _ _ _ _ (.Call (.Name "isinstance" _) _ _ _) _); refine d_isE (by assumption) (by assumption) (by assumption) (by ktf_call "gl") (by ktf_call "mg") ?_)
  | ((with_reducible show DE _ _ _ _ (.Name "ValueError" _) _); refine de_ty (T := "ValueError") (by ktf_call "gl") (by ktf_call "mg") (by decide +kernel) ?_)
  | ((with_reducible show DE _ _ _ _ (.Name _ _) _); first | refine de_name (by ktf_call "lk") ?_ | refine de_cls (by ktf_call "gl") (by assumption) ?_))
local macro_rules | `(tactic| ktf_call "k") => `(tactic| first
  | ((with_reducible refine' Exists.intro _ (Exists.intro _ (Exists.intro _ (And.intro rfl (And.intro ?cl (And.intro ?kb ?_)))))); (case cl => first | exact ClsV.own _ | exact ClsV.ty _); (case kb => assumption)))
section
variable {P : Program} {w : World} {K : PySem.W.Frag} {mg : Str → Option Value} {base : Heap} {f : Addr} {fd : FuncData}
abbrev spKinds (K : PySem.W.Frag) (mg : Str → Option Value) : SpX := fun p G rs m Kr Ke => ∃ (C : Addr) (cn fld : Str) (fs : List (Str × D2.D)), rs = [rExc p] ∧ ExcN K mg C cn fld ∧ cn ∈ kdN ∧ Caught K G p C fs ∧ m = [] ∧ ∀ q, Kr (.own q) [(q, .lst [D2.rI (kix cn : Nat)])]
theorem sc__law_kinds : FnScope ["error", "told", "k"] ["error"] (defScope (top 63)) := ⟨rfl, rfl, rfl, by decide +kernel, rfl, by decide +kernel, by decide +kernel⟩
theorem ok__law_kinds (F : FunD K "_law_kinds" "_law_kinds" (defArgs (top 63)) (defBody (top 63)) (defScope (top 63)) [] [] f fd) (m0_isinstance : mg "isinstance" = none) (m0_ValueError : mg "ValueError" = none) (m0_range : mg "range" = none) (m0_len : mg "len" = none) : FnX P w K mg base (L2N.CX P w) (1) f fd ["error"] (spOfX K (spKinds K mg)) := by
  refine fn2X F sc__law_kinds (by decide +kernel) (fun p G rs m Kr Ke ⟨_, _, _, _, e, _⟩ => by rw [e]; rfl) fun X c p rs m Kr Ke D L hx ⟨C, cn, fld, fs, er, O, hcn, Cg, em, hk⟩ => ?_
  subst er em
  have hpin : p ∈ X.pn := L.pin
  obtain rfl := D.K
  obtain rfl := D.mg
  obtain rfl := D.prog
  obtain rfl := D.w
  obtain rfl := D.base
  have hex := O.ex
  have hxf := O.xf
  have hno := O.no
  have hver := O.ver
  obtain ⟨a_BadLetters, h_BadLetters, k_BadLetters⟩ := O.at_ "BadLetters" (by decide +kernel)
  obtain ⟨a_BadWord, h_BadWord, k_BadWord⟩ := O.at_ "BadWord" (by decide +kernel)
  obtain ⟨a_BadNumber, h_BadNumber, k_BadNumber⟩ := O.at_ "BadNumber" (by decide +kernel)
  obtain ⟨a_OtherLetters, h_OtherLetters, k_OtherLetters⟩ := O.at_ "OtherLetters" (by decide +kernel)
  obtain ⟨a_TooLarge, h_TooLarge, k_TooLarge⟩ := O.at_ "TooLarge" (by decide +kernel)
  obtain ⟨a_BadText, h_BadText, k_BadText⟩ := O.at_ "BadText" (by decide +kernel)
  obtain ⟨a_BadState, h_BadState, k_BadState⟩ := O.at_ "BadState" (by decide +kernel)
  obtain ⟨a_BadRow, h_BadRow, k_BadRow⟩ := O.at_ "BadRow" (by decide +kernel)
  obtain ⟨a_Future, h_Future, k_Future⟩ := O.at_ "Future" (by decide +kernel)
  obtain ⟨a_Past, h_Past, k_Past⟩ := O.at_ "Past" (by decide +kernel)
  obtain ⟨a_Free, h_Free, k_Free⟩ := O.at_ "Free" (by decide +kernel)
  obtain ⟨a_NoneThere, h_NoneThere, k_NoneThere⟩ := O.at_ "NoneThere" (by decide +kernel)
  obtain ⟨a_NoElement, h_NoElement, k_NoElement⟩ := O.at_ "NoElement" (by decide +kernel)
  obtain ⟨a_NoMember, h_NoMember, k_NoMember⟩ := O.at_ "NoMember" (by decide +kernel)
  obtain ⟨a_BadSort, h_BadSort, k_BadSort⟩ := O.at_ "BadSort" (by decide +kernel)
  obtain ⟨a_BadName, h_BadName, k_BadName⟩ := O.at_ "BadName" (by decide +kernel)
  obtain ⟨a_NoName, h_NoName, k_NoName⟩ := O.at_ "NoName" (by decide +kernel)
  obtain ⟨a_SameName, h_SameName, k_SameName⟩ := O.at_ "SameName" (by decide +kernel)
  obtain ⟨a_NothingThere, h_NothingThere, k_NothingThere⟩ := O.at_ "NothingThere" (by decide +kernel)
  obtain ⟨a_BadDeed, h_BadDeed, k_BadDeed⟩ := O.at_ "BadDeed" (by decide +kernel)
  obtain ⟨a_Refused, h_Refused, k_Refused⟩ := O.at_ "Refused" (by decide +kernel)
  obtain ⟨a_Untrue, h_Untrue, k_Untrue⟩ := O.at_ "Untrue" (by decide +kernel)
  have g_isinstance : Gl X "isinstance" := D.gl (by decide +kernel)
  have g_BadLetters : Gl X "BadLetters" := D.gl (by decide +kernel)
  have g_BadWord : Gl X "BadWord" := D.gl (by decide +kernel)
  have g_BadNumber : Gl X "BadNumber" := D.gl (by decide +kernel)
  have g_OtherLetters : Gl X "OtherLetters" := D.gl (by decide +kernel)
  have g_TooLarge : Gl X "TooLarge" := D.gl (by decide +kernel)
  have g_BadText : Gl X "BadText" := D.gl (by decide +kernel)
  have g_BadState : Gl X "BadState" := D.gl (by decide +kernel)
  have g_BadRow : Gl X "BadRow" := D.gl (by decide +kernel)
  have g_Future : Gl X "Future" := D.gl (by decide +kernel)
  have g_Past : Gl X "Past" := D.gl (by decide +kernel)
  have g_Free : Gl X "Free" := D.gl (by decide +kernel)
  have g_NoneThere : Gl X "NoneThere" := D.gl (by decide +kernel)
  have g_NoElement : Gl X "NoElement" := D.gl (by decide +kernel)
  have g_NoMember : Gl X "NoMember" := D.gl (by decide +kernel)
  have g_BadSort : Gl X "BadSort" := D.gl (by decide +kernel)
  have g_BadName : Gl X "BadName" := D.gl (by decide +kernel)
  have g_NoName : Gl X "NoName" := D.gl (by decide +kernel)
  have g_SameName : Gl X "SameName" := D.gl (by decide +kernel)
  have g_NothingThere : Gl X "NothingThere" := D.gl (by decide +kernel)
  have g_BadDeed : Gl X "BadDeed" := D.gl (by decide +kernel)
  have g_Refused : Gl X "Refused" := D.gl (by decide +kernel)
  have g_Untrue : Gl X "Untrue" := D.gl (by decide +kernel)
  have g_ValueError : Gl X "ValueError" := D.gl (by decide +kernel)
  have g_range : Gl X "range" := D.gl (by decide +kernel)
  have g_len : Gl X "len" := D.gl (by decide +kernel)
  have o_told : Own X "told" := D.own (by decide +kernel)
  have m_isinstance : X.mg "isinstance" = none := m0_isinstance
  have m_ValueError : X.mg "ValueError" = none := m0_ValueError
  have m_range : X.mg "range" = none := m0_range
  have m_len : X.mg "len" = none := m0_len
  refine dss_lo ?_
  show DSs X c [("error", some (rExc p)), ("told", none), ("k", none)] [] (_ :: _) _
  ktf_call "d2"
  rename_i pT
  refine de_lcHR (own := [("k", 2)]) (n := 23) (fun i rs m => rs = natR (kdsOf cn i) ∧ InM m pT (.lst ((kdC cn).map rB))) L (D.nd (by decide +kernel)) (blk_ok D (by decide +kernel)) (by decide +kernel) (by ktf_call "blk") (by ktf_call "put") List.mem_cons_self g_range m_range ?_ ?_ ?_
  · ktf_call "d2"
    exact ⟨rfl, by decide, rfl, InM.here⟩
  · rintro i rs m' hi ⟨rfl, ⟨m1, hT⟩⟩
    intro Xb c' hX hL
    show DT _ _ _ _ _ _
    refine dt_val ?_
    refine de_ix ?_
    refine de_name (by ktf_call "lk") ?_
    refine de_name (by ktf_call "lk") ?_
    refine x_B (xs := kdC cn) (.own hT) ⟨by omega, by show (i : Int) < 23; omega⟩ ?_
    rw [Int.toNat_natCast]
    refine ⟨_, rfl, fun hb => ?_, fun hb => ?_⟩
    · refine de_name (by ktf_call "lk") ?_
      refine ⟨?_, ⟨m1, hT⟩⟩
      rw [kds_snoc, if_pos hb, natR, natR, List.map_append]; rfl
    · refine ⟨?_, ⟨m1, hT⟩⟩
      rw [kds_snoc, if_neg (by rw [hb]; decide), List.append_nil]
  · rintro rs m' q ⟨rfl, _⟩
    rw [kd_all cn hcn]
    exact ⟨_, List.Sublist.cons_cons _ (List.nil_sublist _), hk q⟩
end
end
/-! ## NXD -/
section
set_option pp.maxSteps 1500
/-! pool D: the law's error told as a list -/
local macro_rules | `(tactic| ktf_call "s") => `(tactic| ((with_reducible show DSs _ _ _ _ (Stmt.If _ _ _ _ :: _) _); refine held ?_))
local macro_rules | `(tactic| ktf_call "k") => `(tactic| ((with_reducible show (_ = true → _) ∧ (_ = false → _)); refine ⟨fun hyp => ?_, fun hyp => ?_⟩ <;> (try simp only [decide_eq_true_eq, decide_eq_false_iff_not, Bool.not_eq_true', Bool.not_eq_false', Bool.not_true, Bool.not_false, Bool.true_eq_false, Bool.false_eq_true, Int.not_lt, Int.not_le, nil_len, Nat.pos_iff_ne_zero.symm, not_true_eq_false] at hyp)))
local macro_rules | `(tactic| ktf_call "k") => `(tactic| ((with_reducible show (_ = false → _) ∧ (_ = true → _)); refine ⟨fun hyp => ?_, fun hyp => ?_⟩ <;> (try simp only [decide_eq_true_eq, decide_eq_false_iff_not, Bool.not_eq_true', Bool.not_eq_false', Bool.not_true, Bool.not_false, Bool.true_eq_false, Bool.false_eq_true, Int.not_lt, Int.not_le, nil_len, Nat.pos_iff_ne_zero.symm, not_true_eq_false] at hyp)))
local macro_rules | `(tactic| ktf_call "go") => `(tactic| (refine Held.of ?_; refine dss_cons ?_; refine ds_if ?_; ktf_call "d2"))
abbrev tblD : List (Str × Str) := [("BadWord", "word"), ("TooLarge", "many")]
theorem tblD_kd : ∀ q ∈ tblD, q.1 ∈ kdN := by decide +kernel
section
variable {X : Cx} {c : Ct} {σ : Sl} {m m1 m2 m3 m4 : Mem} {K : R → Mem → Prop} {k : Nat} {a b a2 b2 : Addr} {d : D2.D} {pd : PyData} {i : Int}
theorem pv_trip (hd : DP d pd) (h : Has m a (.lst [rS (lit "refused"), .own a2, .dat d]) m1) (h2 : Has m a2 (.lst [D2.rI i]) m2) : PV m (.own a) (.list [.str (sOf (lit "refused")), .list [.int i], pd]) ∧ EqOk (.list [.str (sOf (lit "refused")), .list [.int i], pd]) := by
  obtain ⟨h1, h3, h4, h5⟩ := dp_pv (m := m) hd
  refine ⟨.lst (.own h) (.cons .str (.cons (.lst (.own h2) (.cons .int .nil)) (.cons h1 .nil))), ?_, ?_⟩
  · simp [PyData.plain, PyData.plainAll, h4]
  · simp [PyData.depth, PyData.depthAll, h5]
theorem o_neTrip (L : Live X c k) (hd : DP d pd) (ha : Has m a (.lst [rS (lit "refused"), .own a2, .dat d]) m1) (ha2 : Has m a2 (.lst [D2.rI i]) m2) (hb : Has m b (.lst [rS (lit "refused"), .own b2, .dat d]) m3) (hb2 : Has m b2 (.lst [D2.rI i]) m4) (z : K (rB false) m) : OP X c σ m (compareOp .NotEq) (.own a) (.own b) K :=
  o_neD L (pv_trip hd ha ha2).1 (pv_trip hd hb hb2).1 (pv_trip hd ha ha2).2 (pv_trip hd hb hb2).2 (by
    obtain ⟨h1, h3, h4, h5⟩ := dp_pv (m := []) hd
    have e : PyData.eqv (.list [.str (sOf (lit "refused")), .list [.int i], pd]) (.list [.str (sOf (lit "refused")), .list [.int i], pd]) = true := by simp [PyData.eqv, PyData.eqvAll, h3]
    rw [e]; exact z)
end
section
variable {P : Program} {w : World} {K : PySem.W.Frag} {mg : Str → Option Value} {base : Heap} {f : Addr} {fd : FuncData}
abbrev spErrD (K : PySem.W.Frag) (mg : Str → Option Value) : SpX := fun p G rs m Kr Ke => ∃ (C : Addr) (cn fld : Str) (fs : List (Str × D2.D)) (d : D2.D), rs = [rExc p] ∧ ExcN K mg C cn fld ∧ (cn, fld) ∈ tblD ∧ Caught K G p C fs ∧ fs.lookup fld = some d ∧ m = [] ∧ ∀ q q2, Kr (.own q) [(q, .lst [rS (lit "refused"), .own q2, .dat d]), (q2, .lst [D2.rI (kix cn : Nat)])]
local macro_rules | `(tactic| ktf_call "e") => `(tactic| first
  | ((with_reducible show DE _ _ _ _ (.Call (.Name "isinstance" _) _ _ _) _); refine d_isE (by assumption) (by assumption) (by assumption) (by ktf_call "gl") (by ktf_call "mg") ?_)
  | ((with_reducible show DE _ _ _ _ (.Call (.Name "_law_kinds" _) _ _ _) _); refine de_callX (by assumption) (by assumption) (by ktf_call "gl") ?_ (hjk := by omega))
  | ((with_reducible show DE _ _ _ _ (.Name _ _) _); first | refine de_name (by ktf_call "lk") ?_ | refine de_cls (by ktf_call "gl") (by assumption) ?_)
  | ((with_reducible show DE _ _ _ _ (.Attribute _ _ _) _); refine d_fldP (by assumption) (by assumption) (by assumption) (by assumption) (by assumption) ?_))
local macro_rules | `(tactic| ktf_call "k") => `(tactic| first
  | ((with_reducible show _ = rExc _ ∧ _); refine ⟨rfl, ?_⟩)
  | ((with_reducible refine' Exists.intro _ (Exists.intro _ (Exists.intro _ (And.intro rfl (And.intro ?cl (And.intro ?kb ?_)))))); (case cl => first | exact ClsV.own _ | exact ClsV.ty _); (case kb => assumption)))
theorem sc__law_error : FnScope ["error", "field"] ["error"] (defScope (top 64)) := ⟨rfl, rfl, rfl, by decide +kernel, rfl, by decide +kernel, by decide +kernel⟩
theorem ok_errD (F : FunD K "_law_error" "_law_error" (defArgs (top 64)) (defBody (top 64)) (defScope (top 64)) [] [] f fd) (m0_isinstance : mg "isinstance" = none) (cx__law_kinds : CalleeX P w K mg base "_law_kinds" 1 (spKinds K mg)) : FnX P w K mg base (L2N.CX P w) (2) f fd ["error"] (spOfX K (spErrD K mg)) := by
  refine fn2X F sc__law_error (by decide +kernel) (fun p G rs m Kr Ke ⟨_, _, _, _, _, e, _⟩ => by rw [e]; rfl) fun X c p rs m Kr Ke D L hx ⟨C, cn, fld, fs, d, er, O, hcn, Cg, hf, em, hk⟩ => ?_
  subst er em
  have hpin : p ∈ X.pn := L.pin
  obtain rfl := D.K
  obtain rfl := D.mg
  obtain rfl := D.prog
  obtain rfl := D.w
  obtain rfl := D.base
  have hex := O.ex
  have hxf := O.xf
  have hno := O.no
  have hver := O.ver
  obtain ⟨a_BadWord, h_BadWord, k_BadWord⟩ := O.at_ "BadWord" (by decide +kernel)
  obtain ⟨a_TooLarge, h_TooLarge, k_TooLarge⟩ := O.at_ "TooLarge" (by decide +kernel)
  have g_isinstance : Gl X "isinstance" := D.gl (by decide +kernel)
  have g_BadWord : Gl X "BadWord" := D.gl (by decide +kernel)
  have g_TooLarge : Gl X "TooLarge" := D.gl (by decide +kernel)
  have g__law_kinds : Gl X "_law_kinds" := D.gl (by decide +kernel)
  have o_field : Own X "field" := D.own (by decide +kernel)
  have m_isinstance : X.mg "isinstance" = none := m0_isinstance
  refine dss_lo ?_
  show DSs X c [("error", some (rExc p)), ("field", none)] [] (_ :: _) _
  have hkd := tblD_kd _ hcn
  simp only [tblD, List.mem_cons, List.not_mem_nil, or_false, Prod.mk.injEq] at hcn
  rcases hcn with ⟨rfl, rfl⟩ | ⟨rfl, rfl⟩
  · ktf_call "d2"
    ktf_call "go"
    refine ⟨[], _, Split.nil, fun G xG => ⟨C, _, _, fs, rfl, O, hkd, Cg.up xG, rfl, fun q2 => ?_⟩⟩
    dsimp only [List.nil_append, List.cons_append]
    ktf_call "d2"
    rename_i q
    exact ⟨_, List.Sublist.refl _, hk q q2⟩
  · ktf_call "d2"
    ktf_call "go"
    · rename_i h; exact absurd h (by decide)
    ktf_call "go"
    refine ⟨[], _, Split.nil, fun G xG => ⟨C, _, _, fs, rfl, O, hkd, Cg.up xG, rfl, fun q2 => ?_⟩⟩
    dsimp only [List.nil_append, List.cons_append]
    ktf_call "d2"
    rename_i q
    exact ⟨_, List.Sublist.refl _, hk q q2⟩
end
end
/-! ## NShA -/
section
set_option pp.maxSteps 1500
/-! sheets: is_item, is_row -/
local macro_rules | `(tactic| ktf_call "o") => `(tactic| first
  | ((with_reducible refine' o_inS ?ca ?kk); (case ca => assumption))
  | ((with_reducible refine' o_inCh ?kk))
  | ((with_reducible refine' x_tup ati_0 ?kk)))
local macro_rules | `(tactic| ktf_call "k") => `(tactic| ((with_reducible refine' Exists.intro _ (And.intro (Ln.tup ?sl) ?_)); (case sl => ktf_call "side")))
section
variable {P : Program} {w : World} {K : PySem.W.Frag} {mg : Str → Option Value} {base : Heap} {f : Addr} {fd : FuncData}
def spIsItem : Sp2 := fun rs m Kr Ke => ∃ (k : Nat) (it : It) (l : List Nat) (a : Nat), rs = [rS [k], .dat it.d, rS l, D2.rI a] ∧ it.fits l a k ∧ m = [] ∧ Kr (rB true) []
theorem sc_is_item : FnScope ["kind", "item", "letters", "at"] ["kind", "item", "letters", "at"] (defScope (top 28)) := ⟨rfl, rfl, rfl, by decide +kernel, rfl, by decide +kernel, by decide +kernel⟩
theorem ok_isItem (F : FunD K "is_item" "is_item" (defArgs (top 28)) (defBody (top 28)) (defScope (top 28)) [] [] f fd) (m0_isinstance : mg "isinstance" = none) (m0_int : mg "int" = none) (m0_bool : mg "bool" = none) (m0_str : mg "str" = none) (m0_len : mg "len" = none) (t_VARIABLES : TupG K mg "VARIABLES" [[120], [121], [122]]) : FnOk P w K mg base (L2N.CX P w) (1) f fd ["kind", "item", "letters", "at"] (spOf K spIsItem) := by
  refine fn2 F sc_is_item (by decide +kernel) (fun rs m Kr Ke ⟨_, _, _, _, e, _⟩ => by rw [e]; rfl) fun X c rs m Kr Ke D L hx ⟨k, it, l, a, er, hf, em, hk⟩ => ?_
  subst er em
  have m_isinstance : X.mg "isinstance" = none := D.mg_ m0_isinstance
  have m_int : X.mg "int" = none := D.mg_ m0_int
  have m_bool : X.mg "bool" = none := D.mg_ m0_bool
  have m_str : X.mg "str" = none := D.mg_ m0_str
  have m_len : X.mg "len" = none := D.mg_ m0_len
  have u_VARIABLES : TupG X.K X.mg "VARIABLES" [[120], [121], [122]] := by rw [D.K, D.mg]; exact t_VARIABLES
  have g_isinstance : Gl X "isinstance" := D.gl (by decide +kernel)
  have g_int : Gl X "int" := D.gl (by decide +kernel)
  have g_bool : Gl X "bool" := D.gl (by decide +kernel)
  have g_str : Gl X "str" := D.gl (by decide +kernel)
  have g_len : Gl X "len" := D.gl (by decide +kernel)
  have g_VARIABLES : Gl X "VARIABLES" := D.gl (by decide +kernel)
  refine dss_lo ?_
  show DSs X c [("kind", some (rS [k])), ("item", some (.dat it.d)), ("letters", some (rS l)), ("at", some (D2.rI a))] [] (_ :: _) _
  cases it with
  | n i =>
    obtain ⟨rfl, hi⟩ := hf
    dsimp only [It.d]
    ktf_call "d2"
    · refine de_chain (i := 0) (j := (i : Int)) (k := (a : Int)) L2.op_le L2.op_lt rfl rfl ?_
      ktf_call "d2"
      refine ⟨rfl, ?_⟩
      ktf_call "d2"
      refine ⟨rfl, fun _ => ?_, fun h => absurd (of_decide_eq_false h) (by omega)⟩
      ktf_call "d2"
      refine ⟨rfl, ?_⟩
      rw [decide_eq_true (show (i : Int) < (a : Int) by omega)]
      exact ⟨_, List.Sublist.refl _, hk⟩
    · rename_i h _ _; exact absurd (by decide) h
  | s t =>
    dsimp only [It.d]
    rcases hf with ⟨rfl, ch, rfl, hch⟩ | ⟨rfl, ht⟩
    · ktf_call "d2"
      · rename_i h _; exact absurd h (by decide)
      · rename_i h; exact absurd (show (([ch].length : Nat) : Int) = 1 from rfl) h
      · rw [decide_eq_true hch]
        exact ⟨_, List.Sublist.refl _, hk⟩
      · rename_i h; exact absurd (by decide) h
    · have hl : t.length = 1 := by
        simp only [List.mem_cons, List.not_mem_nil, or_false] at ht
        rcases ht with rfl | rfl | rfl <;> rfl
      ktf_call "d2"
      · rename_i h _; exact absurd h (by decide)
      · rename_i h; exact absurd (by omega) h
      · rename_i h; exact absurd h (by decide)
      · rw [decide_eq_true ht]
        exact ⟨_, List.Sublist.refl _, hk⟩
/-- a row that fits -/
def spIsRow : Sp2 := fun rs m Kr Ke => ∃ (r : Row) (sh : Tab2) (l : List Nat) (a : Nat), rs = [.dat r.d, rS l, D2.rI a, .dat (.dk (shD sh))] ∧ r.fits sh l a ∧ (r.its.length ≤ 1000 ∧ r.w.length ≤ 1000) ∧ m = [] ∧ Kr (rB true) []
theorem sIx_1 (n : Nat) : HT.sIx (n + 1) 0 (some 1) = 1 := by
  unfold HT.sIx
  simp
theorem cut_tl {α : Type} (x : α) (xs : List α) : cutL (x :: xs) (some 1) none = xs := by
  unfold cutL
  rw [List.length_cons, sIx_1]
  show List.take (HT.sIx (xs.length + 1) (xs.length + 1) none - 1) xs = xs
  exact List.take_of_length_le (by unfold HT.sIx; simp)
theorem ati_0 {α : Type} {x : α} {xs : List α} : atI (x :: xs) 0 = some x := ati 0 rfl rfl
theorem sc_is_row : FnScope ["row", "letters", "at", "shapes", "kinds", "kind", "item"] ["row", "letters", "at", "shapes"] (defScope (top 29)) := ⟨rfl, rfl, rfl, by decide +kernel, rfl, by decide +kernel, by decide +kernel⟩
theorem ok_isRow (F : FunD K "is_row" "is_row" (defArgs (top 29)) (defBody (top 29)) (defScope (top 29)) [] [] f fd) (m0_isinstance : mg "isinstance" = none) (m0_tuple : mg "tuple" = none) (m0_len : mg "len" = none) (m0_str : mg "str" = none) (m0_all : mg "all" = none) (m0_zip : mg "zip" = none) (c_is_item : CalleeG P w K mg base "is_item" 1 spIsItem) : FnOk P w K mg base (L2N.CX P w) (2) f fd ["row", "letters", "at", "shapes"] (spOf K spIsRow) := by
  refine fn2 F sc_is_row (by decide +kernel) (fun rs m Kr Ke ⟨_, _, _, _, e, _⟩ => by rw [e]; rfl) fun X c rs m Kr Ke D L hx ⟨r, sh, l, a, er, hf, ⟨hl, hw⟩, em, hk⟩ => ?_
  subst er em
  have m_isinstance : X.mg "isinstance" = none := D.mg_ m0_isinstance
  have m_tuple : X.mg "tuple" = none := D.mg_ m0_tuple
  have m_len : X.mg "len" = none := D.mg_ m0_len
  have m_str : X.mg "str" = none := D.mg_ m0_str
  have m_all : X.mg "all" = none := D.mg_ m0_all
  have m_zip : X.mg "zip" = none := D.mg_ m0_zip
  have e_is_item : Callee X "is_item" 1 spIsItem := D.callee c_is_item
  have g_isinstance : Gl X "isinstance" := D.gl (by decide +kernel)
  have g_tuple : Gl X "tuple" := D.gl (by decide +kernel)
  have g_len : Gl X "len" := D.gl (by decide +kernel)
  have g_str : Gl X "str" := D.gl (by decide +kernel)
  have g_all : Gl X "all" := D.gl (by decide +kernel)
  have g_zip : Gl X "zip" := D.gl (by decide +kernel)
  have o_kinds : Own X "kinds" := D.own (by decide +kernel)
  refine dss_lo ?_
  show DSs X c [("row", some (.dat r.d)), ("letters", some (rS l)), ("at", some (D2.rI a)), ("shapes", some (.dat (.dk (shD sh)))), ("kinds", none), ("kind", none), ("item", none)] [] (_ :: _) _
  obtain ⟨ks, hs, hlen, hfit⟩ := hf
  obtain ⟨rw_, its⟩ := r
  dsimp only [Row.d] at hs hlen hfit hl hw ⊢
  ktf_call "d2"
  · rename_i h; exact absurd h (by simp; omega)
  refine o_ninF L .str ?_
  rw [valD_shD, hs]
  ktf_call "yes"
  ktf_call "d2"
  refine x_fk L .str (by rw [valD_shD, hs]; rfl) ?_
  ktf_call "d2"
  · rename_i h; exact absurd (by simp; omega) h
  refine d_all L (by ktf_call "gl") (by ktf_call "mg") ?_
  refine de_lc (own := [("kind", 5), ("item", 6)]) (ds := zipD (ks.map fun ch => .str [ch]) (its.map It.d)) (fun i rs m => rs = (List.replicate i true).map rB ∧ m = []) L (D.nd (by decide +kernel)) (blk_ok D (by decide +kernel)) (by decide +kernel) (by ktf_call "blk") (.pair (by ktf_call "put") List.mem_cons_self (fun r => by ktf_call "put") (List.mem_cons_of_mem _ List.mem_cons_self)) (it_zip (by ktf_call "gl") (by ktf_call "mg") ?_) ?_ ?_ ?_
  · refine da_cons (de_name (by ktf_call "lk") (da_cons ?_))
    refine d_sliceT ?_
    ktf_call "d2"
    refine ⟨_, rfl, fun h => ?_, ?_⟩
    · rw [List.length_cons, sIx_1] at h
      exact absurd h.1 (by decide)
    · rw [cut_tl]
      exact da_nil ⟨_, _, _, _, rfl, .str, .tup, rfl, rfl, rfl⟩
  · rintro i d rs m' hd ⟨rfl, rfl⟩
    obtain ⟨x, y, hx, hy, rfl⟩ := zipD_at hd
    obtain ⟨h1, rfl⟩ := str_item hx
    rw [List.getElem?_map] at hy
    obtain ⟨it, hit, rfl⟩ := Option.map_eq_some_iff.mp hy
    obtain ⟨h2, rfl⟩ := List.getElem?_eq_some_iff.mp hit
    refine ⟨_, _, rfl, turn0 fun Xe c' hX hL => ?_⟩
    ktf_call "d2"
    refine ⟨[], [], .nil, ks[i], its[i], l, a, rfl, hfit i h1 h2, rfl, ?_⟩
    refine ⟨?_, rfl⟩
    rw [List.replicate_succ', List.map_append]; rfl
  · rw [zipD_len]; simp; omega
  · rintro rs m' p ⟨rfl, rfl⟩
    refine ⟨_, .own .here, ?_⟩
    rw [show (List.replicate (zipD (ks.map fun ch => D2.D.str [ch]) (its.map It.d)).length true).all id = true from by rw [List.all_eq_true]; exact fun b hb => by rw [List.eq_of_mem_replicate hb]; rfl]
    exact ⟨_, sub_nil, hk⟩
end
end
/-! ## NShB -/
section
set_option pp.maxSteps 1500
/-! sheets: checked_rows -/
local macro_rules | `(tactic| ktf_call "e") => `(tactic| ((with_reducible show DE _ _ _ _ (.Call (.Name "tuple" _) _ [] _) _); refine d_tupleL (by ktf_call "gl") (by ktf_call "mg") ?_))
section
variable {P : Program} {w : World} {K : PySem.W.Frag} {mg : Str → Option Value} {base : Heap} {f : Addr} {fd : FuncData}
/-- rows of bounded size -/
def Small (rs : List Row) : Prop := rs.length ≤ 40000 ∧ ∀ r ∈ rs, r.its.length ≤ 1000 ∧ r.w.length ≤ 1000
abbrev rowsR (rs : List Row) : List R := (rowsD rs).map .dat
/-- rows handed over: an own list, or a tuple that is data -/
inductive RowArg : R → Mem → List D2.D → Prop
  | own {q ds} : RowArg (.own q) [(q, .lst (ds.map .dat))] ds
  | tup {ds} : RowArg (.dat (.tup ds)) [] ds
def spCheckedRows : Sp2 := fun rs m Kr Ke => ∃ (rows : List Row) (sh : Tab2) (l : List Nat) (ra : R) (mr : Mem) (n : Int), rs = [rS l, ra, .dat (.dk (shD sh)), D2.rI n] ∧ RowArg ra mr (rowsD rows) ∧ Sheet sh l rows ∧ Small rows ∧ 0 < rows.length ∧ (rows.length : Int) ≤ n ∧ m = mr ∧ Kr (.dat (.tup (rowsD rows))) mr
theorem sc_checked_rows : FnScope ["letters", "rows", "shapes", "most", "at", "row"] ["letters", "rows", "shapes", "most"] (defScope (top 30)) := ⟨rfl, rfl, rfl, by decide +kernel, rfl, by decide +kernel, by decide +kernel⟩
theorem ok_checkedRows {C_TooLarge C_BadRow : Addr} {dvs : List V} (F : FunD K "checked_rows" "checked_rows" (defArgs (top 30)) (defBody (top 30)) (defScope (top 30)) dvs [] f fd) (m0_len : mg "len" = none) (x_TooLarge : MkC P w K mg base "TooLarge" C_TooLarge 1 1 [("many", 0)] SmallI) (m0_enumerate : mg "enumerate" = none) (c_is_row : CalleeG P w K mg base "is_row" 2 spIsRow) (x_BadRow : MkC P w K mg base "BadRow" C_BadRow 1 1 [("at", 0)] SmallI) (m0_tuple : mg "tuple" = none) : FnOk P w K mg base (L2N.CX P w) (3) f fd ["letters", "rows", "shapes", "most"] (spOf K spCheckedRows) := by
  refine fn2 F sc_checked_rows (by decide +kernel) (fun rs m Kr Ke ⟨_, _, _, _, _, _, e, _⟩ => by rw [e]; rfl) fun X c rs m Kr Ke D L hx ⟨rows, sh, l, ra, mr, n, er, hra, hsh, ⟨hsm, hsr⟩, h0, hn, em, hk⟩ => ?_
  subst er em
  have m_len : X.mg "len" = none := D.mg_ m0_len
  have y_TooLarge : MkC X.prog X.w X.K X.mg X.base "TooLarge" C_TooLarge 1 1 [("many", 0)] SmallI := by rw [D.prog, D.w, D.K, D.mg, D.base]; exact x_TooLarge
  have m_enumerate : X.mg "enumerate" = none := D.mg_ m0_enumerate
  have e_is_row : Callee X "is_row" 2 spIsRow := D.callee c_is_row
  have y_BadRow : MkC X.prog X.w X.K X.mg X.base "BadRow" C_BadRow 1 1 [("at", 0)] SmallI := by rw [D.prog, D.w, D.K, D.mg, D.base]; exact x_BadRow
  have m_tuple : X.mg "tuple" = none := D.mg_ m0_tuple
  have g_len : Gl X "len" := D.gl (by decide +kernel)
  have g_TooLarge : Gl X "TooLarge" := D.gl (by decide +kernel)
  have g_enumerate : Gl X "enumerate" := D.gl (by decide +kernel)
  have g_is_row : Gl X "is_row" := D.gl (by decide +kernel)
  have g_BadRow : Gl X "BadRow" := D.gl (by decide +kernel)
  have g_tuple : Gl X "tuple" := D.gl (by decide +kernel)
  have o_at : Own X "at" := D.own (by decide +kernel)
  have o_row : Own X "row" := D.own (by decide +kernel)
  refine dss_lo ?_
  show DSs X c [("letters", some (rS l)), ("rows", some (ra)), ("shapes", some (.dat (.dk (shD sh)))), ("most", some (D2.rI n)), ("at", none), ("row", none)] (m) (_ :: _) _
  have hlen : (rowsR rows).length = rows.length := by simp [rowsD]
  have hrl : (rowsD rows).length = rows.length := by simp [rowsD]
  have hlen2 : ((rowsD rows).map R.dat).length = rows.length := hlen
  cases hra with
  | @own q _ =>
    ktf_call "d2"
    · exact absurd hn (by omega)
    rotate_left
    · rename_i h _; exact absurd h (by omega)
    refine ds_keep (ds := rowsD rows) (a := q) (m0 := []) L rfl .nil fun c' L' hk' hx' => ?_
    refine ds_forE (ds := enumD 0 (rowsD rows)) (fun i σ m => σ = ([("letters", some (rS l)), ("rows", some (.own q)), ("shapes", some (.dat (.dk (shD sh)))), ("most", some (D2.rI n)), ("at", none), ("row", none)] : Sl) ∧ m = []) L' (it_enumO (by ktf_call "gl") (by ktf_call "mg") (by ktf_call "lk") hk' ⟨rfl, rfl, rfl⟩) ?_ ?_
    · rintro i d σ' m' hd ⟨rfl, rfl⟩
      obtain ⟨hi, rfl⟩ := enumD_at hd
      have hi2 : i < rows.length := by omega
      have eg : (rowsD rows)[i] = rows[i].d := by simp [rowsD]
      rw [eg]
      refine dg_tup L'.calm rfl ?_
      refine dgs_cons (dg_name o_at (by ktf_call "put") ?_)
      refine dgs_cons (dg_name o_row (by ktf_call "put") ?_)
      refine dgs_nil ?_
      refine dss_lo ?_
      rw [show (0 : Int) + (i : Int) = (i : Int) by omega]
      ktf_call "d2"
      refine ⟨[], [], .nil, rows[i], sh, l, i, rfl, hsh i hi2, hsr _ (List.getElem_mem hi2), rfl, ?_⟩
      ktf_call "yes"
      ktf_call "d2"
      exact ⟨_, _, by ktf_call "fog", List.Sublist.refl _, rfl, rfl⟩
    · rintro σ' m' ⟨rfl, rfl⟩
      show DSs _ _ _ _ _ _
      dsimp only [List.nil_append, List.cons_append]
      ktf_call "d2"
      exact ⟨_, .own .here, _, List.Sublist.refl _, hk⟩
  | tup =>
    ktf_call "d2"
    · exact absurd hn (by omega)
    rotate_left
    · rename_i h _; exact absurd h (by omega)
    refine ds_for (ds := enumD 0 (rowsD rows)) (fun i σ m => σ = ([("letters", some (rS l)), ("rows", some (.dat (.tup (rowsD rows)))), ("shapes", some (.dat (.dk (shD sh)))), ("most", some (D2.rI n)), ("at", none), ("row", none)] : Sl) ∧ m = []) L (it_enumB (by ktf_call "gl") (by ktf_call "mg") (de_name (by ktf_call "lk") ⟨_, .tup, rfl, rfl, rfl⟩)) ?_ ?_
    · rintro i d σ' m' hd ⟨rfl, rfl⟩
      obtain ⟨hi, rfl⟩ := enumD_at hd
      have hi2 : i < rows.length := by omega
      have eg : (rowsD rows)[i] = rows[i].d := by simp [rowsD]
      rw [eg]
      refine dg_tup L.calm rfl ?_
      refine dgs_cons (dg_name o_at (by ktf_call "put") ?_)
      refine dgs_cons (dg_name o_row (by ktf_call "put") ?_)
      refine dgs_nil ?_
      refine dss_lo ?_
      rw [show (0 : Int) + (i : Int) = (i : Int) by omega]
      ktf_call "d2"
      refine ⟨[], [], .nil, rows[i], sh, l, i, rfl, hsh i hi2, hsr _ (List.getElem_mem hi2), rfl, ?_⟩
      ktf_call "yes"
      ktf_call "d2"
      exact ⟨_, _, by ktf_call "fog", List.Sublist.refl _, rfl, rfl⟩
    · rintro σ' m' ⟨rfl, rfl⟩
      show DSs _ _ _ _ _ _
      refine dss_cons ?_
      refine ds_ret ?_
      refine d_tupleD (by ktf_call "gl") (by ktf_call "mg") ?_
      ktf_call "d2"
      exact ⟨_, rfl, _, List.nil_sublist _, hk⟩
end
end
/-! ## NShC -/
section
set_option pp.maxSteps 1500
/-! sheets: needed_rows -/
theorem rep_flat {α : Type} (x : α) : ∀ n : Nat, (List.replicate n [x]).flatten = List.replicate n x
  | 0 => rfl
  | n + 1 => by rw [List.replicate_succ, List.flatten_cons, rep_flat x n]; rfl
def Row.refsN (r : Row) (k : Nat) : List Nat := (r.its.take (k - 1)).filterMap It.ref
theorem refsN_all (r : Row) : r.refsN (r.its.length + 1) = r.refs := by
  unfold Row.refsN Row.refs
  rw [Nat.add_sub_cancel, List.take_length]
theorem refsN_n {r : Row} {k i : Nat} (hk : k < r.its.length) (h : r.its[k] = .n i) : r.refsN (k + 2) = r.refsN (k + 1) ++ [i] := by
  unfold Row.refsN
  rw [show k + 2 - 1 = k + 1 by omega, show k + 1 - 1 = k by omega, take_snoc hk, List.filterMap_append, h]; rfl
theorem refsN_s {r : Row} {k : Nat} {t : List Nat} (hk : k < r.its.length) (h : r.its[k] = .s t) : r.refsN (k + 2) = r.refsN (k + 1) := by
  unfold Row.refsN
  rw [show k + 2 - 1 = k + 1 by omega, show k + 1 - 1 = k by omega, take_snoc hk, List.filterMap_append, h]
  exact List.append_nil _
theorem getD_set {bs : List Bool} {i j : Nat} (hi : i < bs.length) : (bs.set i true).getD j false = true ↔ (bs.getD j false = true ∨ j = i) := by
  rw [List.getD_eq_getElem?_getD, List.getD_eq_getElem?_getD]
  by_cases e : j = i
  · subst e
    rw [List.getElem?_set_self hi]; simp
  · rw [List.getElem?_set_ne (fun h => e h.symm)]; simp [e]
theorem set_B {bs : List Bool} {i : Nat} : (bs.map rB).set i (rB true) = (bs.set i true).map rB := by rw [List.map_set]
local macro_rules | `(tactic| ktf_call "o") => `(tactic| ((with_reducible refine' o_rep ?ca ?cb ?cc ?cd (fun p => ?kk)); (case ca => ktf_call "vu"); (case cb => ktf_call "side"); (case cc => ktf_call "side"); (case cd => ktf_call "side")))
/-- a list or a tuple that is data -/
inductive SqD : R → List D2.D → Prop
  | tup {ds} : SqD (.dat (.tup ds)) ds
  | lst {ds} : SqD (.dat (.lst ds)) ds
theorem SqD.ln {m : Mem} {r : R} {ds : List D2.D} (h : SqD r ds) : Ln m r ds.length := by
  cases h with
  | tup => exact .tup
  | lst =>
    have := Ln.lst (m := m) (VL.dat (m := m) (ds := ds))
    rwa [List.length_map] at this
theorem x_sq {X : Cx} {c : Ct} {σ : Sl} {m : Mem} {ea eb : Expr} {r : R} {ds : List D2.D} {i : Int} {d : D2.D} {K : R → Mem → Prop} (h : SqD r ds) (e : atI ds i = some d) (k : K (.dat d) m) : IX X c σ m ea eb r (D2.rI i) K := by
  cases h with
  | tup => exact x_tup e k
  | lst =>
    refine x_lst (rs := ds.map R.dat) .dat ?_ k
    unfold atI at e ⊢
    rw [List.length_map]
    obtain ⟨j, h1, h2⟩ := Option.bind_eq_some_iff.mp e
    rw [h1]
    show (ds.map R.dat)[j]? = _
    rw [List.getElem?_map, h2]; rfl
local macro_rules | `(tactic| ktf_call "k") => `(tactic| first | ((with_reducible refine' Exists.intro _ (And.intro (Ln.tup) ?_))) | ((with_reducible refine' Exists.intro _ (And.intro (SqD.ln (by assumption)) ?_))))
section
variable {P : Program} {w : World} {K : PySem.W.Frag} {mg : Str → Option Value} {base : Heap} {f : Addr} {fd : FuncData}
def spNeeded : Sp2 := fun rs m Kr Ke => ∃ (rows : List Row) (rw : R), rs = [rw] ∧ SqD rw (rowsD rows) ∧ Back rows ∧ 0 < rows.length ∧ rows.length ≤ 40000 ∧ m = [] ∧ ∀ p l, Need rows l → Kr (.own p) [(p, .lst (l.map fun i => D2.rI (i : Nat)))]
theorem sc_needed_rows : FnScope ["rows", "needed", "at", "item"] ["rows"] (defScope (top 31)) := ⟨rfl, rfl, rfl, by decide +kernel, rfl, by decide +kernel, by decide +kernel⟩
theorem ok_needed (F : FunD K "needed_rows" "needed_rows" (defArgs (top 31)) (defBody (top 31)) (defScope (top 31)) [] [] f fd) (m0_len : mg "len" = none) (m0_reversed : mg "reversed" = none) (m0_range : mg "range" = none) (m0_isinstance : mg "isinstance" = none) (m0_int : mg "int" = none) : FnOk P w K mg base (L2N.CX P w) (1) f fd ["rows"] (spOf K spNeeded) := by
  refine fn2 F sc_needed_rows (by decide +kernel) (fun rs m Kr Ke ⟨_, _, e, _⟩ => by rw [e]; rfl) fun X c rs m Kr Ke D L hx ⟨rows, rw, er, hsq, hb, h0, hm, em, hk⟩ => ?_
  subst er em
  have m_len : X.mg "len" = none := D.mg_ m0_len
  have m_reversed : X.mg "reversed" = none := D.mg_ m0_reversed
  have m_range : X.mg "range" = none := D.mg_ m0_range
  have m_isinstance : X.mg "isinstance" = none := D.mg_ m0_isinstance
  have m_int : X.mg "int" = none := D.mg_ m0_int
  have g_len : Gl X "len" := D.gl (by decide +kernel)
  have g_reversed : Gl X "reversed" := D.gl (by decide +kernel)
  have g_range : Gl X "range" := D.gl (by decide +kernel)
  have g_isinstance : Gl X "isinstance" := D.gl (by decide +kernel)
  have g_int : Gl X "int" := D.gl (by decide +kernel)
  have o_needed : Own X "needed" := D.own (by decide +kernel)
  have o_at : Own X "at" := D.own (by decide +kernel)
  have o_item : Own X "item" := D.own (by decide +kernel)
  refine dss_lo ?_
  show DSs X c [("rows", some (rw)), ("needed", none), ("at", none), ("item", none)] [] (_ :: _) _
  have hrl : (rowsD rows).length = rows.length := by simp [rowsD]
  ktf_call "d2"
  rename_i p0 p
  rw [show (List.replicate ((rowsD rows).length : Int).toNat [R.dat (D2.D.bl false)]).flatten = (List.replicate rows.length false).map rB from by rw [rep_flat, List.map_replicate, hrl]; rfl]
  refine ⟨_, _, _, _, _, rfl, rfl, .here, ixN_ok (by omega) (by rw [List.length_map, List.length_replicate]; omega), ?_⟩
  rw [show R.dat (D2.D.bl true) = rB true from rfl, set_B]
  refine dss_in (σ' := ([("rows", some (rw)), ("needed", some (.own p)), ("at", none), ("item", none)] : Sl)) (m' := [(p, .lst (((List.replicate rows.length false).set ((((rowsD rows).length : Nat) : Int) - 1).toNat true).map rB))]) ?_ (Fog.refl _) (by ktf_call "sub")
  refine dss_cons ?_
  refine ds_for (ds := dns ((rows.length : Int) - 1) (-1) rows.length) (fun i σ m => ∃ bs : List Bool, σ = ([("rows", some (rw)), ("needed", some (.own p)), ("at", none), ("item", none)] : Sl) ∧ m = [(p, .lst (bs.map rB))] ∧ bs.length = rows.length ∧ ∀ j, bs.getD j false = true ↔ RK rows (rows.length - i) j) L (it_rev (by ktf_call "gl") (by ktf_call "mg") (by ktf_call "gl") (by ktf_call "mg") ?_) ?_ ?_
  · ktf_call "d2"
    refine ⟨by omega, by omega, by rw [hrl]; rfl, _, rfl, rfl, by rw [List.length_set, List.length_replicate], fun j => ?_⟩
    rw [getD_set (by rw [List.length_replicate]; omega)]
    constructor
    · rintro (h | h)
      · rw [List.getD_eq_getElem?_getD, List.getElem?_replicate] at h
        by_cases e : j < rows.length
        · rw [if_pos e] at h; cases h
        · rw [if_neg e] at h; cases h
      · exact .inl (by omega)
    · rintro (h | ⟨q, hq, hk, _⟩)
      · exact .inr (by omega)
      · omega
  · rintro i d σ' m' hd ⟨bs, rfl, rfl, hbl, hbs⟩
    obtain ⟨hi, rfl⟩ := dns_at hd
    obtain ⟨a, ha, ea⟩ : ∃ a : Nat, a + (i + 1) = rows.length ∧ (rows.length : Int) - 1 + (i : Int) * -1 = (a : Int) := ⟨rows.length - (i + 1), by omega, by omega⟩
    rw [ea]
    have ha2 : a < rows.length := by omega
    have eR : rows.length - i = a + 1 := by omega
    have eR2 : rows.length - (i + 1) = a := by omega
    rw [eR2]
    rw [eR] at hbs
    refine dg_name o_at (by ktf_call "put") ?_
    refine dss_lo ?_
    refine dss_cons ?_
    refine ds_if ?_
    refine dt_val ?_
    have eD : (rowsD rows)[a]'(by omega) = rows[a].d := by simp [rowsD]
    ktf_call "d2"
    · rename_i hyp
      have hra : Reach rows a := (rk_reach hb).mp ((hbs a).mp (by rw [Int.toNat_natCast] at hyp; exact hyp))
      refine ds_for (ds := .str rows[a].w :: rows[a].its.map It.d) (fun k σ m => ∃ cs : List Bool, σ = ([("rows", some (rw)), ("needed", some (.own p)), ("at", some (D2.rI a)), ("item", none)] : Sl) ∧ m = [(p, .lst (cs.map rB))] ∧ cs.length = rows.length ∧ ∀ j, cs.getD j false = true ↔ (bs.getD j false = true ∨ j ∈ rows[a].refsN k)) L (it_tup ?_) ?_ ?_
      · ktf_call "d2"
        refine x_sq hsq (ati a (by rw [List.getElem?_eq_getElem (by omega : a < (rowsD rows).length)]) rfl) ?_
        rw [eD]
        exact ⟨_, rfl, rfl, bs, rfl, rfl, hbl, fun j => by simp [Row.refsN]⟩
      · rintro k d σ' m' hd ⟨cs, rfl, rfl, hcl, hcs⟩
        refine dg_name o_item (by ktf_call "put") ?_
        refine dss_lo ?_
        cases k with
        | zero =>
          cases hd
          ktf_call "d2"
          exact ⟨_, _, by ktf_call "fog", List.Sublist.refl _, cs, rfl, rfl, hcl, fun j => by rw [hcs]; simp [Row.refsN]⟩
        | succ k =>
          rw [List.getElem?_cons_succ, List.getElem?_map] at hd
          obtain ⟨it, hit, rfl⟩ := Option.map_eq_some_iff.mp hd
          obtain ⟨hk, eit⟩ := List.getElem?_eq_some_iff.mp hit
          cases it with
          | n j0 =>
            dsimp only [It.d]
            have hj : j0 < rows.length := by
              have := hb a ha2 j0 (List.mem_filterMap.mpr ⟨.n j0, by rw [← eit]; exact List.getElem_mem hk, rfl⟩)
              omega
            ktf_call "d2"
            refine ⟨_, _, _, _, _, rfl, rfl, .here, ixN_ok (by omega) (by rw [List.length_map]; omega), ?_⟩
            rw [show R.dat (D2.D.bl true) = rB true from rfl, set_B, Int.toNat_natCast]
            ktf_call "d2"
            exact ⟨_, _, by ktf_call "fog", List.Sublist.refl _, cs.set j0 true, rfl, rfl, by rw [List.length_set]; exact hcl, fun j => by rw [getD_set (by omega), hcs, refsN_n hk eit, List.mem_append, List.mem_singleton, or_assoc]⟩
          | s t =>
            dsimp only [It.d]
            ktf_call "d2"
            exact ⟨_, _, by ktf_call "fog", List.Sublist.refl _, cs, rfl, rfl, hcl, fun j => by rw [hcs, refsN_s hk eit]⟩
      · rintro σ' m' ⟨cs, rfl, rfl, hcl, hcs⟩
        rw [List.length_cons, List.length_map, refsN_all] at hcs
        refine dss_nil ?_
        refine dss_nil ?_
        refine ⟨_, _, by ktf_call "fog", List.Sublist.refl _, cs, rfl, rfl, hcl, fun j => ?_⟩
        rw [hcs, hbs, rk_yes ha2 hra]
    · rename_i hyp
      have hra : ¬ Reach rows a := fun h => by
        have := (hbs a).mpr ((rk_reach hb).mpr h)
        rw [Int.toNat_natCast] at hyp
        rw [hyp] at this; cases this
      refine ⟨_, _, by ktf_call "fog", List.Sublist.refl _, bs, rfl, rfl, hbl, fun j => ?_⟩
      rw [hbs, rk_no hb hra]
  · rintro σ' m' ⟨bs, rfl, rfl, hbl, hbs⟩
    rw [dns_len, Nat.sub_self] at hbs
    refine dss_cons ?_
    refine ds_ret ?_
    refine de_lc (own := [("at", 2)]) (ds := ups 0 rows.length) (fun i rs m => rs = ((List.range i).filter fun j => bs.getD j false).map (fun (i : Nat) => D2.rI (i : Int)) ∧ m = [(p, .lst (bs.map rB))]) L (D.nd (by decide +kernel)) (blk_ok D (by decide +kernel)) (by decide +kernel) (by ktf_call "blk") (.name (by ktf_call "put") List.mem_cons_self) (it_rng1 (by ktf_call "gl") (by ktf_call "mg") ?_) ?_ ?_ ?_
    · ktf_call "d2"
      exact ⟨by omega, by omega, by rw [hrl]; rfl, rfl, rfl⟩
    · rintro i d rs m' hd ⟨rfl, rfl⟩
      obtain ⟨hi, rfl⟩ := ups_at hd
      rw [show (0 : Int) + (i : Int) = (i : Int) by omega]
      refine turn1 fun Xb c' hX hL => dt_val ?_
      ktf_call "d2"
      · rename_i hyp
        intro Xe hXe hLe
        ktf_call "d2"
        refine ⟨?_, rfl⟩
        rw [Int.toNat_natCast] at hyp
        rw [List.range_succ, List.filter_append, List.filter_cons_of_pos (p := fun j => bs.getD j false) hyp, List.map_append]; rfl
      · rename_i hyp
        refine ⟨?_, rfl⟩
        rw [Int.toNat_natCast] at hyp
        rw [List.range_succ, List.filter_append, List.filter_cons_of_neg (p := fun j => bs.getD j false) (by rw [hyp]; decide), List.filter_nil, List.append_nil]
    · rw [ups_len]; omega
    · rintro rs m' p2 ⟨rfl, rfl⟩
      rw [ups_len]
      refine ⟨_, List.Sublist.cons_cons _ (List.nil_sublist _), hk _ _ ⟨List.pairwise_lt_range.filter _, fun i => ?_⟩⟩
      rw [List.mem_filter, List.mem_range, hbs, reach_rk]
end
end
/-! ## NShD -/
section
set_option pp.maxSteps 1500
/-! sheets: sheet_text -/
def itemT : It → List Nat
  | .n i => numT (i : Int)
  | .s t => t
def rowT (r : Row) : List Nat := joinT (lit " ") (r.w :: r.its.map itemT)
def sheetT (l : List Nat) (rows : List Row) : List Nat := joinT (lit "\n") ((lit "letters " ++ l) :: rows.map rowT)
def It.fine : It → Prop
  | .n i => i < 100000
  | .s t => t.length ≤ 7
/-- rows of bounded size -/
def Fine (rs : List Row) : Prop := rs.length ≤ 16000 ∧ ∀ r ∈ rs, r.its.length ≤ 3 ∧ r.w.length ≤ 20 ∧ ∀ it ∈ r.its, it.fine
theorem log_1920 {n : Nat} (h : n < 100000) : n.log2 < 1920 := by
  by_cases e : n = 0
  · subst e; decide
  · exact Nat.lt_trans ((Nat.log2_lt e).mpr (show n < 2 ^ 17 by omega)) (by decide)
theorem itemT_len {it : It} (h : it.fine) : (itemT it).length ≤ 7 := by
  cases it with
  | n i => exact numT_len (by have : i < 100000 := h; omega)
  | s t => exact h
theorem sum_le {l : List Nat} {b : Nat} (h : ∀ x ∈ l, x ≤ b) : l.sum ≤ l.length * b := by
  induction l with
  | nil => simp
  | cons a l ih =>
    have h1 := h a List.mem_cons_self
    have h2 := ih fun x hx => h x (List.mem_cons_of_mem _ hx)
    rw [List.sum_cons, List.length_cons, Nat.succ_mul]
    omega
theorem rowT_sum {r : Row} (h : r.its.length ≤ 3 ∧ r.w.length ≤ 20 ∧ ∀ it ∈ r.its, it.fine) : ((r.w :: r.its.map itemT).map (·.length)).sum + (r.w :: r.its.map itemT).length * (lit " ").length ≤ 45 := by
  have h1 : ((r.its.map itemT).map (·.length)).sum ≤ (r.its.map itemT).length * 7 := by
    have := sum_le (l := (r.its.map itemT).map (·.length)) (b := 7) fun x hx => by
      obtain ⟨t, ht, rfl⟩ := List.mem_map.mp hx
      obtain ⟨it, hit, rfl⟩ := List.mem_map.mp ht
      exact itemT_len (h.2.2 it hit)
    rwa [List.length_map] at this
  have h2 : (lit " ").length = 1 := by decide
  rw [List.map_cons, List.sum_cons, List.length_cons, h2]
  rw [List.length_map] at h1 ⊢
  have := h.1
  have := h.2.1
  omega
theorem rowT_len {r : Row} (h : r.its.length ≤ 3 ∧ r.w.length ≤ 20 ∧ ∀ it ∈ r.its, it.fine) : (rowT r).length ≤ 45 := Nat.le_trans (joinT_len _ _) (rowT_sum h)
theorem sheetT_sum {l : List Nat} {rows : List Row} (hl : l.length ≤ 3) (h : Fine rows) : (((lit "letters " ++ l) :: rows.map rowT).map (·.length)).sum + ((lit "letters " ++ l) :: rows.map rowT).length * (lit "\n").length ≤ 800000 := by
  have h1 : ((rows.map rowT).map (·.length)).sum ≤ (rows.map rowT).length * 45 := by
    have := sum_le (l := (rows.map rowT).map (·.length)) (b := 45) fun x hx => by
      obtain ⟨t, ht, rfl⟩ := List.mem_map.mp hx
      obtain ⟨r, hr, rfl⟩ := List.mem_map.mp ht
      exact rowT_len (h.2 r hr)
    rwa [List.length_map] at this
  have h2 : (lit "\n").length = 1 := by decide
  have h3 : (lit "letters " ++ l).length = 8 + l.length := by rw [List.length_append]; rfl
  rw [List.map_cons, List.sum_cons, List.length_cons, h2, h3]
  rw [List.length_map] at h1 ⊢
  have := h.1
  omega
local macro_rules | `(tactic| ktf_call "e") => `(tactic| ((with_reducible show DE _ _ _ _ (.Call (.Attribute _ "join" _) _ _ _) _); refine d_joinS ?_))
section
variable {P : Program} {w : World} {K : PySem.W.Frag} {mg : Str → Option Value} {base : Heap} {f : Addr} {fd : FuncData}
def spSheetText : Sp2 := fun rs m Kr Ke => ∃ (rows : List Row) (l : List Nat), rs = [rS l, .dat (.tup (rowsD rows))] ∧ l.length ≤ 3 ∧ Fine rows ∧ m = [] ∧ Kr (rS (sheetT l rows)) []
theorem sc_sheet_text : FnScope ["letters", "rows", "lines", "row", "item"] ["letters", "rows"] (defScope (top 35)) := ⟨rfl, rfl, rfl, by decide +kernel, rfl, by decide +kernel, by decide +kernel⟩
theorem ok_sheetText (F : FunD K "sheet_text" "sheet_text" (defArgs (top 35)) (defBody (top 35)) (defScope (top 35)) [] [] f fd) (m0_str : mg "str" = none) : FnOk P w K mg base (L2N.CX P w) (1) f fd ["letters", "rows"] (spOf K spSheetText) := by
  refine fn2 F sc_sheet_text (by decide +kernel) (fun rs m Kr Ke ⟨_, _, e, _⟩ => by rw [e]; rfl) fun X c rs m Kr Ke D L hx ⟨rows, l, er, hl, hf, em, hk⟩ => ?_
  subst er em
  have m_str : X.mg "str" = none := D.mg_ m0_str
  have o_lines : Own X "lines" := D.own (by decide +kernel)
  have o_row : Own X "row" := D.own (by decide +kernel)
  refine dss_lo ?_
  show DSs X c [("letters", some (rS l)), ("rows", some (.dat (.tup (rowsD rows)))), ("lines", none), ("row", none), ("item", none)] [] (_ :: _) _
  have hrl : (rowsD rows).length = rows.length := by simp [rowsD]
  have hfl := hf.1
  ktf_call "d2"
  refine o_addS (by show 8 + l.length ≤ _; omega) ?_
  ktf_call "d2"
  rename_i p
  refine ds_for (ds := rowsD rows) (fun i σ m => σ = ([("letters", some (rS l)), ("rows", some (.dat (.tup (rowsD rows)))), ("lines", some (.own p)), ("row", none), ("item", none)] : Sl) ∧ m = [(p, .lst (((lit "letters " ++ l) :: (rows.take i).map rowT).map rS))]) L (it_tup ?_) ?_ ?_
  · ktf_call "d2"
    exact ⟨_, rfl, rfl, rfl, rfl⟩
  · rintro i d σ' m' hd ⟨rfl, rfl⟩
    rw [show rowsD rows = rows.map Row.d from rfl, List.getElem?_map] at hd
    obtain ⟨r, hr, rfl⟩ := Option.map_eq_some_iff.mp hd
    obtain ⟨hi, er⟩ := List.getElem?_eq_some_iff.mp hr
    have hrf := hf.2 r (by rw [← er]; exact List.getElem_mem hi)
    refine dg_name o_row (by ktf_call "put") ?_
    refine dss_lo ?_
    ktf_call "d2"
    refine de_lc (own := [("item", 4)]) (ds := .str r.w :: r.its.map It.d) (fun k rs m => rs = ((r.w :: r.its.map itemT).take k).map rS ∧ m = [(p, .lst (((lit "letters " ++ l) :: (rows.take i).map rowT).map rS))]) L (D.nd (by decide +kernel)) (blk_ok D (by decide +kernel)) (by decide +kernel) (by ktf_call "blk") (.name (by ktf_call "put") List.mem_cons_self) (it_tup ?_) ?_ ?_ ?_
    · ktf_call "d2"
      exact ⟨_, rfl, rfl, rfl, rfl⟩
    · rintro k d rs m' hd ⟨rfl, rfl⟩
      refine turn0 fun Xe c' hX hL => ?_
      cases k with
      | zero =>
        cases hd
        refine d_strS (by ktf_call "gl") (by ktf_call "mg") ?_
        ktf_call "d2"
        exact ⟨rfl, rfl⟩
      | succ k =>
        rw [List.getElem?_cons_succ, List.getElem?_map] at hd
        obtain ⟨it, hit, rfl⟩ := Option.map_eq_some_iff.mp hd
        obtain ⟨hk2, eit⟩ := List.getElem?_eq_some_iff.mp hit
        have e1 : ((r.w :: r.its.map itemT).take (k + 1)).map rS ++ [rS (itemT it)] = ((r.w :: r.its.map itemT).take (k + 1 + 1)).map rS := by
          rw [List.take_succ_cons, List.take_succ_cons, take_snoc (by rw [List.length_map]; exact hk2), List.getElem_map, eit, ← List.cons_append, List.map_append]; rfl
        have hif := hrf.2.2 it (by rw [← eit]; exact List.getElem_mem hk2)
        cases it with
        | n j0 =>
          have hj : j0 < 100000 := hif
          refine d_strI (by ktf_call "gl") (by ktf_call "mg") ?_
          dsimp only [It.d]
          ktf_call "d2"
          exact ⟨by rw [Int.natAbs_natCast]; exact log_1920 hj, e1, rfl⟩
        | s t =>
          refine d_strS (by ktf_call "gl") (by ktf_call "mg") ?_
          dsimp only [It.d]
          ktf_call "d2"
          exact ⟨e1, rfl⟩
    · simp; omega
    · rintro rs m' p2 ⟨rfl, rfl⟩
      have : ((r.w :: r.its.map itemT).take (D2.D.str r.w :: r.its.map It.d).length) = r.w :: r.its.map itemT := by
        rw [List.take_of_length_le]; simp
      rw [this]
      refine ⟨r.w :: r.its.map itemT, .own .here, by have := rowT_sum hrf; omega, _, _, .there .here, by simp; omega, ?_⟩
      ktf_call "d2"
      refine ⟨_, _, by ktf_call "fog", List.Sublist.cons _ (List.Sublist.refl _), rfl, ?_⟩
      rw [take_snoc hi, List.map_append, ← List.cons_append, List.map_append, er]; rfl
  · rintro σ' m' ⟨rfl, rfl⟩
    rw [hrl, List.take_length]
    ktf_call "d2"
    exact ⟨_, .own .here, by have := sheetT_sum hl hf; omega, _, List.nil_sublist _, hk⟩
end
end
/-! ## NTf -/
section
set_option pp.maxSteps 1500
/-! time formulas: row_depths -/
def maxN (l : List Nat) : Nat := l.foldr max 0
theorem maxN_le {l : List Nat} : ∀ x ∈ l, x ≤ maxN l := by
  induction l with
  | nil => simp
  | cons a l ih =>
    intro x hx
    rcases List.mem_cons.mp hx with rfl | hx
    · exact Nat.le_max_left _ _
    · exact Nat.le_trans (ih x hx) (Nat.le_max_right _ _)
theorem maxN_mem {l : List Nat} (h : l ≠ []) : maxN l ∈ l := by
  induction l with
  | nil => exact absurd rfl h
  | cons a l ih =>
    by_cases e : l = []
    · subst e; simp [maxN]
    · have := ih e
      show max a (maxN l) ∈ _
      rcases Nat.le_total a (maxN l) with q | q
      · rw [Nat.max_eq_right q]; exact List.mem_cons_of_mem _ this
      · rw [Nat.max_eq_left q]; exact List.mem_cons_self
theorem maxN_of {l : List Nat} {f : Nat → Nat} {M : Int} (h1 : (l.map fun j => ((f j : Nat) : Int)) = [] → M = 0) (h2 : (l.map fun j => ((f j : Nat) : Int)) ≠ [] → M ∈ (l.map fun j => ((f j : Nat) : Int)) ∧ ∀ y ∈ (l.map fun j => ((f j : Nat) : Int)), y ≤ M) : M = (maxN (l.map f) : Nat) := by
  by_cases e : l = []
  · subst e; exact h1 rfl
  · obtain ⟨a, b⟩ := h2 (by simpa using e)
    obtain ⟨j, hj, rfl⟩ := List.mem_map.mp a
    have h3 := maxN_le (f j) (List.mem_map_of_mem (f := f) hj)
    obtain ⟨j2, hj2, e2⟩ := List.mem_map.mp (maxN_mem (l := l.map f) (by simpa using e))
    have h4 := b _ (List.mem_map_of_mem (f := fun j => ((f j : Nat) : Int)) hj2)
    have h4' : ((f j2 : Nat) : Int) ≤ ((f j : Nat) : Int) := h4
    omega
def tempW (w : List Nat) : Prop := w ∈ pastW ∨ w ∈ futW
instance (w : List Nat) : Decidable (tempW w) := inferInstanceAs (Decidable (_ ∨ _))
def depN (r : Row) (acc : List Nat) : Nat := maxN (r.refs.map fun j => acc.getD j 0) + if tempW r.w then 1 else 0
def depthsOf (rows : List Row) : List Nat := rows.foldl (fun acc r => acc ++ [depN r acc]) []
theorem depthsOf_snoc (rows : List Row) (r : Row) : depthsOf (rows ++ [r]) = depthsOf rows ++ [depN r (depthsOf rows)] := by
  unfold depthsOf
  rw [List.foldl_append]; rfl
theorem depthsOf_len (rows : List Row) : (depthsOf rows).length = rows.length := by
  have h : ∀ (rows : List Row) (acc : List Nat), (rows.foldl (fun acc r => acc ++ [depN r acc]) acc).length = acc.length + rows.length := by
    intro rows
    induction rows with
    | nil => intro acc; rfl
    | cons r rows ih => intro acc; rw [List.foldl_cons, ih, List.length_append]; simp; omega
  unfold depthsOf
  rw [h]; simp
local macro_rules | `(tactic| ktf_call "o") => `(tactic| first
  | ((with_reducible refine' o_inS ?ca ?kk); (case ca => assumption))
  | ((with_reducible refine' x_tup ati_0 ?kk)))
section
variable {P : Program} {w : World} {K : PySem.W.Frag} {mg : Str → Option Value} {base : Heap} {f : Addr} {fd : FuncData}
def spDepths : Sp2 := fun rs m Kr Ke => ∃ (rows : List Row), rs = [.dat (.tup (rowsD rows))] ∧ Back rows ∧ Fine rows ∧ m = [] ∧ ∀ p, Kr (.own p) [(p, .lst ((depthsOf rows).map fun (i : Nat) => D2.rI (i : Int)))]
end
end
/-! ## NLetters -/
section
local macro_rules | `(tactic| ktf_call "s") => `(tactic| first
  | ((with_reducible show DS _ _ _ _ (.Raise _ _ _) _); refine ds_raise (by assumption) (by assumption) (by ktf_call "gl") ?_))
local macro_rules | `(tactic| ktf_call "e") => `(tactic| first
  | ((with_reducible show DE _ _ _ _ (.Name "ALPHABETS" _) _); refine de_tupG (by assumption) (by assumption) ?_)
  | ((with_reducible show DE _ _ _ _ (.Name "WAIT_SORTS" _) _); refine de_tupG (by assumption) (by assumption) ?_)
  | ((with_reducible show DE _ _ _ _ (.Call (.Attribute _ "strip" _) _ _ _) _); refine d_stripC ?_))
local macro_rules | `(tactic| ktf_call "k") => `(tactic| ((with_reducible show _ ≤ 1000000 ∧ DE _ _ _ _ _ _); refine ⟨by ktf_call "side", ?_⟩))
local macro_rules | `(tactic| ktf_call "o") => `(tactic| ((with_reducible refine' o_ninS ?ca ?kk); (case ca => assumption)))
section
variable {P : Program} {w : World} {K : PySem.W.Frag} {mg : Str → Option Value} {base : Heap} {f : Addr} {fd : FuncData}
/-- the letters l only -/
def InL (l s : List Nat) : Prop := ∀ c ∈ s, c ∈ l
instance (l s : List Nat) : Decidable (InL l s) := inferInstanceAs (Decidable (∀ c ∈ s, c ∈ l))
def spCheckLetters (CB : Addr) : Sp2 := fun rs m Kr Ke => ∃ l : List Nat, rs = [rS l] ∧ m = [] ∧ (l ∉ alphabets → Ke CB [("given", .str l)] []) ∧ (l ∈ alphabets → Kr (rS l) [])
theorem sc_check_letters : FnScope ["letters"] ["letters"] (defScope (top 43)) := ⟨rfl, rfl, rfl, by decide +kernel, rfl, by decide +kernel, by decide +kernel⟩
theorem ok_checkLetters {C_BadLetters : Addr} (F : FunD K "check_letters" "check_letters" (defArgs (top 43)) (defBody (top 43)) (defScope (top 43)) [] [] f fd) (t_ALPHABETS : TupG K mg "ALPHABETS" (NC.alphabets)) (x_BadLetters : MkC P w K mg base "BadLetters" C_BadLetters 1 1 [("given", 0)] (fun _ => True)) : FnOk P w K mg base (L2N.CX P w) (3) f fd ["letters"] (spOf K (spCheckLetters C_BadLetters)) := by
  refine fn2 F sc_check_letters (by decide +kernel) (fun rs m Kr Ke ⟨_, e, _⟩ => by rw [e]; rfl) fun X c rs m Kr Ke D L hx ⟨l, er, em, h1, h2⟩ => ?_
  subst er em
  have u_ALPHABETS : TupG X.K X.mg "ALPHABETS" (NC.alphabets) := by rw [D.K, D.mg]; exact t_ALPHABETS
  have y_BadLetters : MkC X.prog X.w X.K X.mg X.base "BadLetters" C_BadLetters 1 1 [("given", 0)] (fun _ => True) := by rw [D.prog, D.w, D.K, D.mg, D.base]; exact x_BadLetters
  have g_ALPHABETS : Gl X "ALPHABETS" := D.gl (by decide +kernel)
  have g_BadLetters : Gl X "BadLetters" := D.gl (by decide +kernel)
  refine dss_lo ?_
  show DSs X c [("letters", some (rS l))] [] (_ :: _) _
  ktf_call "d2"
  · rename_i hw
    exact ⟨[.str l], [], .cons .dat .nil, rfl, fun _ _ _ _ => trivial, hx _ _ _ _ (h1 hw)⟩
  · rename_i hw
    exact ⟨[], sub_nil, h2 hw⟩
def spIsWord : Sp2 := fun rs m Kr Ke => ∃ l s : List Nat, rs = [rS l, rS s] ∧ s.length ≤ 1000000 ∧ m = [] ∧ Kr (rB (decide (InL l s))) []
theorem sc_is_word : FnScope ["letters", "word"] ["letters", "word"] (defScope (top 44)) := ⟨rfl, rfl, rfl, by decide +kernel, rfl, by decide +kernel, by decide +kernel⟩
theorem ok_isWord (F : FunD K "is_word" "is_word" (defArgs (top 44)) (defBody (top 44)) (defScope (top 44)) [] [] f fd) : FnOk P w K mg base (L2N.CX P w) (1) f fd ["letters", "word"] (spOf K spIsWord) := by
  refine fn2 F sc_is_word (by decide +kernel) (fun rs m Kr Ke ⟨_, _, e, _⟩ => by rw [e]; rfl) fun X c rs m Kr Ke D L hx ⟨l, s, er, hs, em, hk⟩ => ?_
  subst er em
  refine dss_lo ?_
  show DSs X c [("letters", some (rS l)), ("word", some (rS s))] [] (_ :: _) _
  ktf_call "d2"
  have e : decide (lit (Txt.stripChars (sOf s) (sOf l)) = lit ("" : Str)) = decide (InL l s) := by
    rw [Bool.eq_iff_iff, decide_eq_true_eq, decide_eq_true_eq]
    exact strip_nil s l
  rw [e]
  exact ⟨[], sub_nil, hk⟩
/-- letters, word, most -/
def spCheckWord (CB CW CL : Addr) : Sp2 := fun rs m Kr Ke => ∃ (l s : List Nat) (n : Int), rs = [rS l, rS s, D2.rI n] ∧ s.length ≤ 1000000 ∧ m = [] ∧ (l ∉ alphabets → Ke CB [("given", .str l)] []) ∧ (l ∈ alphabets → ¬ InL l s → Ke CW [("word", .str s)] []) ∧ (l ∈ alphabets → InL l s → n < s.length → Ke CL [("many", .int s.length)] []) ∧ (l ∈ alphabets → InL l s → (s.length : Int) ≤ n → Kr (rS s) [])
theorem sc_check_word : FnScope ["letters", "word", "most"] ["letters", "word", "most"] (defScope (top 45)) := ⟨rfl, rfl, rfl, by decide +kernel, rfl, by decide +kernel, by decide +kernel⟩
theorem ok_checkWord {C_BadLetters C_BadWord C_TooLarge : Addr} {kws : List (Str × V)} (F : FunD K "check_word" "check_word" (defArgs (top 45)) (defBody (top 45)) (defScope (top 45)) [] kws f fd) (c_check_letters : CalleeG P w K mg base "check_letters" 3 (spCheckLetters C_BadLetters)) (c_is_word : CalleeG P w K mg base "is_word" 1 spIsWord) (x_BadWord : MkC P w K mg base "BadWord" C_BadWord 1 1 [("word", 0)] (fun _ => True)) (m0_len : mg "len" = none) (x_TooLarge : MkC P w K mg base "TooLarge" C_TooLarge 1 1 [("many", 0)] SmallI) : FnOk P w K mg base (L2N.CX P w) (4) f fd ["letters", "word", "most"] (spOf K (spCheckWord C_BadLetters C_BadWord C_TooLarge)) := by
  refine fn2 F sc_check_word (by decide +kernel) (fun rs m Kr Ke ⟨_, _, _, e, _⟩ => by rw [e]; rfl) fun X c rs m Kr Ke D L hx ⟨l, s, n, er, hs, em, h0, h1, h2, h3⟩ => ?_
  subst er em
  have e_check_letters : Callee X "check_letters" 3 (spCheckLetters C_BadLetters) := D.callee c_check_letters
  have e_is_word : Callee X "is_word" 1 spIsWord := D.callee c_is_word
  have y_BadWord : MkC X.prog X.w X.K X.mg X.base "BadWord" C_BadWord 1 1 [("word", 0)] (fun _ => True) := by rw [D.prog, D.w, D.K, D.mg, D.base]; exact x_BadWord
  have m_len : X.mg "len" = none := D.mg_ m0_len
  have y_TooLarge : MkC X.prog X.w X.K X.mg X.base "TooLarge" C_TooLarge 1 1 [("many", 0)] SmallI := by rw [D.prog, D.w, D.K, D.mg, D.base]; exact x_TooLarge
  have g_check_letters : Gl X "check_letters" := D.gl (by decide +kernel)
  have g_is_word : Gl X "is_word" := D.gl (by decide +kernel)
  have g_BadWord : Gl X "BadWord" := D.gl (by decide +kernel)
  have g_len : Gl X "len" := D.gl (by decide +kernel)
  have g_TooLarge : Gl X "TooLarge" := D.gl (by decide +kernel)
  refine dss_lo ?_
  show DSs X c [("letters", some (rS l)), ("word", some (rS s)), ("most", some (D2.rI n))] [] (_ :: _) _
  ktf_call "d2"
  refine ⟨[], _, Split.nil, (show spCheckLetters _ _ _ _ _ from ⟨l, rfl, rfl, fun hl => hx _ _ _ _ (h0 hl), fun hl => ?_⟩)⟩
  ktf_call "d2"
  refine ⟨[], _, Split.nil, (show spIsWord _ _ _ _ from ⟨l, s, rfl, hs, rfl, ?_⟩)⟩
  ktf_call "d2"
  · rename_i hw
    exact ⟨[.str s], [], .cons .dat .nil, rfl, fun _ _ _ _ => trivial, hx _ _ _ _ (h1 hl (by simpa using hw))⟩
  · rename_i hw hn
    refine ⟨[.int s.length], [], .cons .dat .nil, rfl, fun Kf G vs rv => ?_, hx _ _ _ _ (h2 hl (by simpa using hw) (by omega))⟩
    cases rv with | cons a b =>
    cases b
    cases a
    exact ⟨_, rfl, by omega, by omega⟩
  · rename_i hw hn
    exact ⟨[], sub_nil, h3 hl (by simpa using hw) (by omega)⟩
end
/-- letters abc -/
theorem sp_checkWord {m : Mem} {s : List Nat} {n : Int} {CB CW CL : Addr} {Kr : Mem → R → Mem → Prop} {Ke : Mem → Addr → List (Str × D2.D) → Mem → Prop} (hs : s.length ≤ 1000000) (h1 : ¬ Abc s → Ke m CW [("word", .str s)] []) (h2 : Abc s → n < s.length → Ke m CL [("many", .int s.length)] []) (h3 : Abc s → (s.length : Int) ≤ n → Kr m (rS s) []) :
    ∃ mf rest, Split m mf rest ∧ spCheckWord CB CW CL [rS abc3, rS s, D2.rI n] mf (Kr rest) (Ke rest) :=
  ⟨[], m, .nil, abc3, s, n, rfl, hs, rfl, fun h => absurd (by decide) h, fun _ => h1, fun _ => h2, fun _ => h3⟩
end
/-! ## NTg -/
section
set_option pp.maxSteps 1500
/-! time formulas: TimeFormula.__init__ -/
/-- the first words of the needed rows -/
def wordsN (rows : List Row) (nd : List Nat) : List (List Nat) := nd.map fun i => (rows.getD i ⟨[], []⟩).w
abbrev tfF (l : List Nat) (rows : List Row) (nd : List Nat) : List (Str × D2.D) :=
  [("letters", .str l), ("rows", .tup (rowsD rows)), ("text", .str (sheetT l rows)), ("depth", .int ((depthsOf rows).getD (rows.length - 1) 0 : Nat)), ("needed", .tup (nd.map fun (i : Nat) => .int (i : Int))),
    ("temporal", .int (((wordsN rows nd).filter fun w => tempW w).length : Nat)), ("past", .bl (decide (((wordsN rows nd).filter fun w => w ∈ futW).length = 0))), ("future", .bl (decide (((wordsN rows nd).filter fun w => w ∈ pastW).length = 0)))]
abbrev tfR (l : List Nat) (rows : List Row) (nd : List Nat) : List (Str × R) := (tfF l rows nd).map fun p => (p.1, R.dat p.2)
local macro_rules | `(tactic| ktf_call "e") => `(tactic| first
  | ((with_reducible show DE _ _ _ _ (.Call (.Name "tuple" _) _ [] _) _); refine d_tupleL (by ktf_call "gl") (by ktf_call "mg") ?_)
  | ((with_reducible show DE _ _ _ _ (.Call (.Name "dict" _) _ [] _) _); refine d_dictC (by ktf_call "gl") (by ktf_call "mg") (by ktf_call "gl") (by assumption) (fun q => ?_))
  | ((with_reducible show DE _ _ _ _ (.Call (.Name "checked_rows" _) _ [] _) _); refine de_callD (by assumption) (by assumption) (by ktf_call "gl") ?_ (hjk := by omega)))
abbrev tf5 (l : List Nat) (rows : List Row) (nd : List Nat) : List (Str × R) := [("letters", rS l), ("rows", .dat (.tup (rowsD rows))), ("text", rS (sheetT l rows)), ("depth", D2.rI ((depthsOf rows).getD (rows.length - 1) 0 : Nat)), ("needed", .dat (.tup (nd.map fun (i : Nat) => .int (i : Int))))]
theorem IsBlk.cls {X Xb : Cx} {sc : Scope} {C : Addr} (h : IsBlk X sc Xb) (c : Cls X.K C) : Cls Xb.K C := by
  obtain ⟨_, _, _, _, _, rfl⟩ := h
  exact c
theorem IsBlk.noat {X Xb : Cx} {sc : Scope} {C : Addr} {f : Str} (h : IsBlk X sc Xb) (c : NoAttr X.K C f) : NoAttr Xb.K C f := by
  obtain ⟨_, _, _, _, _, rfl⟩ := h
  exact c
theorem IsBlk.tup {X Xb : Cx} {sc : Scope} {x : Str} {ss : List (List Nat)} (h : IsBlk X sc Xb) (c : TupG X.K X.mg x ss) : TupG Xb.K Xb.mg x ss := by
  obtain ⟨_, _, _, _, _, rfl⟩ := h
  exact c
theorem fil_yes {ws : List (List Nat)} {p : List Nat → Bool} {i : Nat} (hi : i < ws.length) (h : p ws[i] = true) : ((ws.take i).filter p).map rS ++ [R.dat (D2.D.str ws[i])] = ((ws.take (i + 1)).filter p).map rS := by
  rw [take_snoc hi, List.filter_append, List.filter_cons_of_pos h, List.map_append]; rfl
theorem fil_no {ws : List (List Nat)} {p : List Nat → Bool} {i : Nat} (hi : i < ws.length) (h : ¬ p ws[i] = true) : ((ws.take i).filter p).map rS = ((ws.take (i + 1)).filter p).map rS := by
  rw [take_snoc hi, List.filter_append, List.filter_cons_of_neg h, List.filter_nil, List.append_nil]
theorem asc_len {n : Nat} : ∀ (l : List Nat) (k : Nat), l.Pairwise (· < ·) → (∀ i ∈ l, k ≤ i ∧ i < n) → l.length ≤ n - k
  | [], _, _, _ => Nat.zero_le _
  | a :: l, k, hp, h => by
    obtain ⟨h1, h2⟩ := List.pairwise_cons.mp hp
    obtain ⟨h3, h4⟩ := h a List.mem_cons_self
    have := asc_len l (a + 1) h2 fun i hi => ⟨h1 i hi, (h i (List.mem_cons_of_mem _ hi)).2⟩
    rw [List.length_cons]
    omega
theorem Need.len {rows : List Row} {nd : List Nat} (h : Need rows nd) : nd.length ≤ rows.length := asc_len nd 0 h.1 fun i hi => ⟨Nat.zero_le _, ((h.2 i).mp hi).1⟩
theorem wordsN_len (rows : List Row) (nd : List Nat) : (wordsN rows nd).length = nd.length := List.length_map _
theorem wordsN_get {rows : List Row} {nd : List Nat} {i a : Nat} (hi : i < (wordsN rows nd).length) (ea : nd[i]'(by rw [← wordsN_len rows nd]; exact hi) = a) (ha : a < rows.length) : (wordsN rows nd)[i] = rows[a].w := by
  have e : (wordsN rows nd)[i] = (rows.getD (nd[i]'(by rw [← wordsN_len rows nd]; exact hi)) ⟨[], []⟩).w := List.getElem_map _
  rw [e, ea, List.getD_eq_getElem?_getD, List.getElem?_eq_getElem ha]; rfl
theorem ati_m1 {α : Type} {xs : List α} {v : α} (h0 : 0 < xs.length) (h : xs[xs.length - 1]? = some v) : atI xs (-1) = some v := by
  have e : ixN xs.length (-1) = some (xs.length - 1) := by
    unfold ixN
    rw [if_neg (by omega), if_pos (by omega)]
    congr 1
    omega
  unfold atI
  rw [e]
  exact h
local macro_rules | `(tactic| ktf_call "o") => `(tactic| ((with_reducible refine' o_inS ?ca ?kk); (case ca => assumption)))
section
variable {P : Program} {w : World} {K : PySem.W.Frag} {mg : Str → Option Value} {base : Heap} {f : Addr} {fd : FuncData}
def spTfInit (CT : Addr) : Sp2 := fun rs m Kr Ke => ∃ (s dx : Addr) (l : List Nat) (rows : List Row) (q : Addr), rs = [.own s, rS l, .own q] ∧ l ∈ alphabets ∧ Sheet shapesT l rows ∧ Fine rows ∧ 0 < rows.length ∧ m = [(s, .ins CT dx []), (q, .lst (rowsR rows))] ∧ ∀ nd, Need rows nd → Kr (.dat .non) [(s, .ins CT dx (tfR l rows nd)), (q, .lst (rowsR rows))]
end
end
/-! ## NSt2 -/
section
set_option pp.maxSteps 1500
/-! stretches: split_bits -/
section
variable {X : Cx} {c : Ct} {σ : Sl} {m : Mem} {K : R → Mem → Prop} {a b : Nat}
theorem o_shlN (ha : a < 2 ^ 64) (hb : b ≤ 1000000) (z : K (rI ((a * 2 ^ b : Nat) : Int)) m) : OP X c σ m (binaryOp .LShift) (rI (a : Int)) (rI (b : Int)) K :=
  o_shl ⟨by omega, by omega, by simpa using ha⟩ (by rw [Int.toNat_natCast]; rw [Int.natCast_mul, Int.natCast_pow] at z; exact z)
theorem o_shrN (z : K (rI ((a >>> b : Nat) : Int)) m) : OP X c σ m (binaryOp .RShift) (rI (a : Int)) (rI (b : Int)) K :=
  o_shr (by omega) (by rw [Int.toNat_natCast]; rw [Nat.shiftRight_eq_div_pow, Int.natCast_ediv, Int.natCast_pow] at z; exact z)
theorem o_andN (z : K (rI ((a &&& b : Nat) : Int)) m) : OP X c σ m (binaryOp .BitAnd) (rI (a : Int)) (rI (b : Int)) K := o_band (by rw [and_nat]; exact z)
theorem cmulW {a b : Nat} (ha : a < 2 ^ 5000) (hb : b < 2 ^ 5000) : CMulW (a : Int) (b : Int) := by
  have l : ∀ x : Nat, x < 2 ^ 5000 → (x : Int).natAbs.log2 < 5000 := fun x hx => by
    rw [Int.natAbs_natCast]
    by_cases h : x = 0
    · subst h; decide
    · exact (Nat.log2_lt h).mpr hx
  have := l a ha
  have := l b hb
  unfold CMulW
  omega
theorem o_mulN (ha : a < 2 ^ 5000) (hb : b < 2 ^ 5000) (z : K (rI ((a * b : Nat) : Int)) m) : OP X c σ m (binaryOp .Mult) (rI (a : Int)) (rI (b : Int)) K :=
  o_mul (cmulW ha hb) (by rw [Int.natCast_mul] at z; exact z)
end
local macro_rules | `(tactic| ktf_call "s") => `(tactic| ((with_reducible show DSs _ _ _ _ (Stmt.If _ _ _ _ :: _) _); refine held ?_))
local macro_rules | `(tactic| ktf_call "k") => `(tactic| ((with_reducible show (_ = true → _) ∧ (_ = false → _)); refine ⟨fun hyp => ?_, fun hyp => ?_⟩ <;> (try simp only [decide_eq_true_eq, decide_eq_false_iff_not, Bool.not_eq_true', Bool.not_eq_false', Bool.not_true, Bool.not_false, Bool.true_eq_false, Bool.false_eq_true, Int.not_lt, Int.not_le, nil_len, Nat.pos_iff_ne_zero.symm, not_true_eq_false] at hyp)))
local macro_rules | `(tactic| ktf_call "k") => `(tactic| ((with_reducible show (_ = false → _) ∧ (_ = true → _)); refine ⟨fun hyp => ?_, fun hyp => ?_⟩ <;> (try simp only [decide_eq_true_eq, decide_eq_false_iff_not, Bool.not_eq_true', Bool.not_eq_false', Bool.not_true, Bool.not_false, Bool.true_eq_false, Bool.false_eq_true, Int.not_lt, Int.not_le, nil_len, Nat.pos_iff_ne_zero.symm, not_true_eq_false] at hyp)))
local macro_rules | `(tactic| ktf_call "go") => `(tactic| (refine Held.of ?_; refine dss_cons ?_; refine ds_if ?_; ktf_call "d2"))
local macro_rules | `(tactic| ktf_call "o") => `(tactic| first
  | ((with_reducible refine' o_shrN ?kk))
  | ((with_reducible refine' o_andN ?kk))
  | ((with_reducible refine' o_orN ?kk)))
theorem splitB_no {v : List Nat} {c m : Nat} {P Q : Nat → Nat → Bool} (h : v.getD m 0 ≠ c) (g k : Nat) : splitB v c P Q m g k = splitB v c P Q (m + 1) g k := by
  unfold splitB
  refine decide_eq_decide.mpr ⟨fun ⟨p, h1, q⟩ => ⟨p, by omega, q⟩, fun ⟨p, h1, h2, q⟩ => ⟨p, ?_, h2, q⟩⟩
  by_cases e : p = m
  · subst e; exact absurd h2 h
  · omega
section
variable {P : Program} {w : World} {K : PySem.W.Frag} {mg : Str → Option Value} {base : Heap} {f : Addr} {fd : FuncData}
def spSplitBits : Sp2 := fun rs m Kr Ke => ∃ (v : List Nat) (ch a b : Nat) (Pa Pb : Nat → Nat → Bool), rs = [rS v, rS [ch], D2.rI (a : Int), D2.rI (b : Int), D2.rI (startN (v.length + 1) (v.length + 1) : Nat)] ∧ Mat v.length a Pa ∧ Mat v.length b Pb ∧ v.length ≤ 60 ∧ m = [] ∧ ∀ r : Nat, Mat v.length r (splitB v ch Pa Pb v.length) → Kr (D2.rI (r : Int)) []
theorem sc_split_bits : FnScope ["word", "letter", "first", "second", "starts", "width", "every", "result", "gap", "found", "sources", "targets"] ["word", "letter", "first", "second", "starts"] (defScope (top 48)) := ⟨rfl, rfl, rfl, by decide +kernel, rfl, by decide +kernel, by decide +kernel⟩
theorem ok_splitBits (F : FunD K "split_bits" "split_bits" (defArgs (top 48)) (defBody (top 48)) (defScope (top 48)) [] [] f fd) (m0_len : mg "len" = none) (m0_enumerate : mg "enumerate" = none) : FnOk P w K mg base (L2N.CX P w) (1) f fd ["word", "letter", "first", "second", "starts"] (spOf K spSplitBits) := by
  refine fn2 F sc_split_bits (by decide +kernel) (fun rs m Kr Ke ⟨_, _, _, _, _, _, e, _⟩ => by rw [e]; rfl) fun X c rs m Kr Ke D L hx ⟨v, ch, a, b, Pa, Pb, er, ha, hb, hv, em, hk⟩ => ?_
  subst er em
  have m_len : X.mg "len" = none := D.mg_ m0_len
  have m_enumerate : X.mg "enumerate" = none := D.mg_ m0_enumerate
  have g_len : Gl X "len" := D.gl (by decide +kernel)
  have g_enumerate : Gl X "enumerate" := D.gl (by decide +kernel)
  have o_width : Own X "width" := D.own (by decide +kernel)
  have o_every : Own X "every" := D.own (by decide +kernel)
  have o_result : Own X "result" := D.own (by decide +kernel)
  have o_gap : Own X "gap" := D.own (by decide +kernel)
  have o_found : Own X "found" := D.own (by decide +kernel)
  have o_sources : Own X "sources" := D.own (by decide +kernel)
  have o_targets : Own X "targets" := D.own (by decide +kernel)
  refine dss_lo ?_
  show DSs X c [("word", some (rS v)), ("letter", some (rS [ch])), ("first", some (D2.rI (a : Int))), ("second", some (D2.rI (b : Int))), ("starts", some (D2.rI (startN (v.length + 1) (v.length + 1) : Nat))), ("width", none), ("every", none), ("result", none), ("gap", none), ("found", none), ("sources", none), ("targets", none)] [] (_ :: _) _
  have e1 : ((v.length : Nat) : Int) + 1 = ((v.length + 1 : Nat) : Int) := by omega
  have e2 : ((2 ^ (v.length + 1) : Nat) : Int) - 1 = ((2 ^ (v.length + 1) - 1 : Nat) : Int) := by
    have := Nat.two_pow_pos (v.length + 1)
    generalize 2 ^ (v.length + 1) = x at this
    omega
  ktf_call "d2"
  rw [e1]
  refine o_shl1 (by omega) ?_
  ktf_call "d2"
  rw [e2]
  refine ds_for (ds := enumS v) (fun i σ m => ∃ r : Nat, σ = ([("word", some (rS v)), ("letter", some (rS [ch])), ("first", some (D2.rI (a : Int))), ("second", some (D2.rI (b : Int))), ("starts", some (D2.rI (startN (v.length + 1) (v.length + 1) : Nat))), ("width", some (D2.rI (v.length + 1 : Nat))), ("every", some (D2.rI (2 ^ (v.length + 1) - 1 : Nat))), ("result", some (D2.rI (r : Int))), ("gap", none), ("found", none), ("sources", none), ("targets", none)] : Sl) ∧ m = [] ∧ Mat v.length r (splitB v ch Pa Pb i)) L (it_enumS (by ktf_call "gl") (by ktf_call "mg") ?_) ?_ ?_
  · ktf_call "d2"
    exact ⟨rfl, 0, rfl, rfl, (Mat.zero _).congr fun g h _ _ => by
      unfold splitB
      exact (decide_eq_false fun ⟨p, hp, _⟩ => absurd hp (by omega)).symm⟩
  · rintro i d σ' m' hd ⟨r, rfl, rfl, hr⟩
    obtain ⟨hi, rfl⟩ := enumS_at hd
    have e3 : ((v.length + 1 : Nat) : Int) * ((i : Int) + 1) = (((v.length + 1) * (i + 1) : Nat) : Int) := by rw [Int.natCast_mul]; rfl
    have hvi : v.getD i 0 = v[i] := by rw [List.getD_eq_getElem?_getD, List.getElem?_eq_getElem hi]; rfl
    have b1 : (a >>> i &&& startN (v.length + 1) (v.length + 1)) < 2 ^ 5000 := Nat.lt_of_lt_of_le (Nat.and_lt_two_pow _ (startN_lt (by omega) _)) (Nat.pow_le_pow_right (by omega) (Nat.le_trans (Nat.mul_le_mul (show v.length + 1 ≤ 61 by omega) (show v.length + 1 ≤ 61 by omega)) (by decide)))
    have b2 : (b >>> ((v.length + 1) * (i + 1)) &&& (2 ^ (v.length + 1) - 1)) < 2 ^ 5000 := Nat.lt_of_lt_of_le (Nat.and_lt_two_pow _ (n := v.length + 1) (by have := Nat.two_pow_pos (v.length + 1); omega)) (Nat.pow_le_pow_right (by omega) (by omega))
    have hstep := fun hc : v.getD i 0 = ch => Mat.step (v := v) (n := v.length) (m := i) rfl hi hc ha hb hr
    refine dg_tup L.calm rfl ?_
    refine dgs_cons (dg_name o_gap (by ktf_call "put") ?_)
    refine dgs_cons (dg_name o_found (by ktf_call "put") ?_)
    refine dgs_nil ?_
    refine dss_lo ?_
    ktf_call "d2"
    ktf_call "go"
    · rename_i hyp
      rw [e3]
      ktf_call "d2"
      refine o_mulN b1 b2 ?_
      ktf_call "d2"
      exact ⟨_, _, by ktf_call "fog", List.Sublist.refl _, _, rfl, rfl, hstep (by rw [hvi]; simpa using hyp)⟩
    · rename_i hyp
      exact ⟨_, _, by ktf_call "fog", List.Sublist.refl _, r, rfl, rfl, hr.congr fun g h _ _ => splitB_no (by rw [hvi]; simpa using hyp) g h⟩
  rintro σ' m' ⟨r, rfl, rfl, hr⟩
  rw [enumS_len] at hr
  ktf_call "d2"
  exact ⟨_, List.Sublist.refl _, hk r hr⟩
end
end
/-! ## NSt3 -/
section
set_option pp.maxSteps 1500
/-! stretches: row_bits -/
local macro_rules | `(tactic| ktf_call "s") => `(tactic| ((with_reducible show DSs _ _ _ _ (Stmt.If _ _ _ _ :: _) _); refine held ?_))
local macro_rules | `(tactic| ktf_call "k") => `(tactic| ((with_reducible show (_ = true → _) ∧ (_ = false → _)); refine ⟨fun hyp => ?_, fun hyp => ?_⟩ <;> (try simp only [decide_eq_true_eq, decide_eq_false_iff_not, Bool.not_eq_true', Bool.not_eq_false', Bool.not_true, Bool.not_false, Bool.true_eq_false, Bool.false_eq_true, Int.not_lt, Int.not_le, nil_len, Nat.pos_iff_ne_zero.symm, not_true_eq_false] at hyp)))
local macro_rules | `(tactic| ktf_call "k") => `(tactic| ((with_reducible show (_ = false → _) ∧ (_ = true → _)); refine ⟨fun hyp => ?_, fun hyp => ?_⟩ <;> (try simp only [decide_eq_true_eq, decide_eq_false_iff_not, Bool.not_eq_true', Bool.not_eq_false', Bool.not_true, Bool.not_false, Bool.true_eq_false, Bool.false_eq_true, Int.not_lt, Int.not_le, nil_len, Nat.pos_iff_ne_zero.symm, not_true_eq_false] at hyp)))
local macro_rules | `(tactic| ktf_call "go") => `(tactic| (refine Held.of ?_; refine dss_cons ?_; refine ds_if ?_; ktf_call "d2"))
local macro_rules | `(tactic| ktf_call "o") => `(tactic| ((with_reducible refine' x_tup ?ati ?kk); (case ati => first | exact ati 0 rfl rfl | exact ati 1 rfl rfl | exact ati 2 rfl rfl | exact ati 3 rfl rfl)))
theorem int_keyX {i : Nat} : IsKey (R.dat (D2.D.int (i : Int))) (.inl (i : Int)) := .int
section
variable {P : Program} {w : World} {K : PySem.W.Frag} {mg : Str → Option Value} {base : Heap} {f : Addr} {fd : FuncData}
def spRowBits : Sp2 := fun rs m Kr Ke => ∃ (r : XR) (v : List Nat) (told : Nat → List Nat → Bool) (pk : Addr) (kt : List (Key × R)), rs = [.dat r.row.d, rS v, .own pk, D2.rI (wholeN (v.length + 1) (v.length + 1) : Nat), D2.rI (startN (v.length + 1) (v.length + 1) : Nat)] ∧ v.length ≤ 60 ∧ (∀ i ∈ r.row.refs, ∃ s : Nat, valR kt (.inl (i : Int)) = some (D2.rI s) ∧ Mat v.length s (str v (told i))) ∧ m = [(pk, .dk kt)] ∧ ∀ t : Nat, Mat v.length t (str v (r.tr told)) → Kr (D2.rI t) [(pk, .dk kt)]
theorem sc_row_bits : FnScope ["row", "word", "known", "whole", "starts", "kind"] ["row", "word", "known", "whole", "starts"] (defScope (top 49)) := ⟨rfl, rfl, rfl, by decide +kernel, rfl, by decide +kernel, by decide +kernel⟩
theorem ok_rowBits (F : FunD K "row_bits" "row_bits" (defArgs (top 49)) (defBody (top 49)) (defScope (top 49)) [] [] f fd) (c_split_bits : CalleeG P w K mg base "split_bits" 1 spSplitBits) : FnOk P w K mg base (L2N.CX P w) (2) f fd ["row", "word", "known", "whole", "starts"] (spOf K spRowBits) := by
  refine fn2 F sc_row_bits (by decide +kernel) (fun rs m Kr Ke ⟨_, _, _, _, _, e, _⟩ => by rw [e]; rfl) fun X c rs m Kr Ke D L hx ⟨r, v, told, pk, kt, er, hv, ht, em, hk⟩ => ?_
  subst er em
  have e_split_bits : Callee X "split_bits" 1 spSplitBits := D.callee c_split_bits
  have g_split_bits : Gl X "split_bits" := D.gl (by decide +kernel)
  have o_kind : Own X "kind" := D.own (by decide +kernel)
  refine dss_lo ?_
  show DSs X c [("row", some (.dat r.row.d)), ("word", some (rS v)), ("known", some (.own pk)), ("whole", some (D2.rI (wholeN (v.length + 1) (v.length + 1) : Nat))), ("starts", some (D2.rI (startN (v.length + 1) (v.length + 1) : Nat))), ("kind", none)] [(pk, .dk kt)] (_ :: _) _
  cases r with
  | non =>
    dsimp only [XR.row, Row.d, List.map_nil]
    ktf_call "d2"
    ktf_call "go"
    exact ⟨_, List.Sublist.refl _, hk 0 (Mat.zero _)⟩
  | all =>
    dsimp only [XR.row, Row.d, List.map_nil]
    ktf_call "d2"
    ktf_call "go"
    · rename_i h; exact absurd h (by decide)
    ktf_call "go"
    exact ⟨_, List.Sublist.refl _, hk _ (whole_mat _)⟩
  | not i =>
    obtain ⟨s, hs, hb⟩ := ht i (by simp [XR.row, Row.refs, It.ref])
    dsimp only [XR.row, Row.d, List.map_cons, List.map_nil, It.d]
    ktf_call "d2"
    ktf_call "go"
    · rename_i h; exact absurd h (by decide)
    ktf_call "go"
    · rename_i h; exact absurd h (by decide)
    ktf_call "go"
    refine x_dk L .here int_keyX hs ?_
    ktf_call "d2"
    obtain ⟨hle, hb2⟩ := (whole_mat v.length).not hb
    rw [show ((wholeN (v.length + 1) (v.length + 1) : Nat) : Int) - (s : Int) = ((wholeN (v.length + 1) (v.length + 1) - s : Nat) : Int) by omega]
    exact ⟨_, List.Sublist.refl _, hk _ hb2⟩
  | and i j =>
    obtain ⟨s, hs, hb⟩ := ht i (by simp [XR.row, Row.refs, It.ref])
    obtain ⟨u, hu, hc⟩ := ht j (by simp [XR.row, Row.refs, It.ref])
    dsimp only [XR.row, Row.d, List.map_cons, List.map_nil, It.d]
    ktf_call "d2"
    ktf_call "go"
    · rename_i h; exact absurd h (by decide)
    ktf_call "go"
    · rename_i h; exact absurd h (by decide)
    ktf_call "go"
    · rename_i h; exact absurd h (by decide)
    ktf_call "go"
    refine x_dk L .here int_keyX hs ?_
    ktf_call "d2"
    refine x_dk L .here int_keyX hu ?_
    refine o_andN ?_
    exact ⟨_, List.Sublist.refl _, hk _ (hb.and hc)⟩
  | or i j =>
    obtain ⟨s, hs, hb⟩ := ht i (by simp [XR.row, Row.refs, It.ref])
    obtain ⟨u, hu, hc⟩ := ht j (by simp [XR.row, Row.refs, It.ref])
    dsimp only [XR.row, Row.d, List.map_cons, List.map_nil, It.d]
    ktf_call "d2"
    ktf_call "go"
    · rename_i h; exact absurd h (by decide)
    ktf_call "go"
    · rename_i h; exact absurd h (by decide)
    ktf_call "go"
    · rename_i h; exact absurd h (by decide)
    ktf_call "go"
    · rename_i h; exact absurd h (by decide)
    ktf_call "go"
    refine x_dk L .here int_keyX hs ?_
    ktf_call "d2"
    refine x_dk L .here int_keyX hu ?_
    refine o_orN ?_
    exact ⟨_, List.Sublist.refl _, hk _ (hb.or hc)⟩
  | split i c j =>
    obtain ⟨s, hs, hb⟩ := ht i (by simp [XR.row, Row.refs, It.ref])
    obtain ⟨u, hu, hc⟩ := ht j (by simp [XR.row, Row.refs, It.ref])
    dsimp only [XR.row, Row.d, List.map_cons, List.map_nil, It.d]
    ktf_call "d2"
    ktf_call "go"
    · rename_i h; exact absurd h (by decide)
    ktf_call "go"
    · rename_i h; exact absurd h (by decide)
    ktf_call "go"
    · rename_i h; exact absurd h (by decide)
    ktf_call "go"
    · rename_i h; exact absurd h (by decide)
    ktf_call "go"
    · rename_i h; exact absurd h (by decide)
    ktf_call "d2"
    refine x_dk L .here int_keyX hs ?_
    ktf_call "d2"
    refine x_dk L .here int_keyX hu ?_
    ktf_call "d2"
    refine ⟨[], _, .nil, v, c, s, u, _, _, rfl, hb, hc, hv, rfl, fun r hr => ?_⟩
    exact ⟨_, List.Sublist.refl _, hk r (hr.congr fun g h h1 h2 => str_cut h1 h2)⟩
end
end
/-! ## NTr1 -/
section
set_option pp.maxSteps 1500
/-! truth at moments: _all_moments, _single_moved -/
local macro_rules | `(tactic| ktf_call "s") => `(tactic| ((with_reducible show DSs _ _ _ _ (Stmt.If _ _ _ _ :: _) _); refine held ?_))
local macro_rules | `(tactic| ktf_call "k") => `(tactic| ((with_reducible show (_ = true → _) ∧ (_ = false → _)); refine ⟨fun hyp => ?_, fun hyp => ?_⟩ <;> (try simp only [decide_eq_true_eq, decide_eq_false_iff_not, Bool.not_eq_true', Bool.not_eq_false', Bool.not_true, Bool.not_false, Bool.true_eq_false, Bool.false_eq_true, Int.not_lt, Int.not_le, nil_len, Nat.pos_iff_ne_zero.symm, not_true_eq_false] at hyp)))
local macro_rules | `(tactic| ktf_call "k") => `(tactic| ((with_reducible show (_ = false → _) ∧ (_ = true → _)); refine ⟨fun hyp => ?_, fun hyp => ?_⟩ <;> (try simp only [decide_eq_true_eq, decide_eq_false_iff_not, Bool.not_eq_true', Bool.not_eq_false', Bool.not_true, Bool.not_false, Bool.true_eq_false, Bool.false_eq_true, Int.not_lt, Int.not_le, nil_len, Nat.pos_iff_ne_zero.symm, not_true_eq_false] at hyp)))
local macro_rules | `(tactic| ktf_call "go") => `(tactic| (refine Held.of ?_; refine dss_cons ?_; refine ds_if ?_; ktf_call "d2"))
inductive Sk where
  | prev | succ | later | once
def Sk.nm : Sk → List Nat
  | .prev => lit "prev"
  | .succ => lit "succ"
  | .later => lit "later"
  | .once => lit "once"
/-- the truth of a row prev, succ, later, once, given that of the row that it names -/
def Sk.tr (n : Nat) (p : Nat → Bool) : Sk → Nat → Bool
  | .prev => fun m => decide (2 ≤ m) && p (m - 1)
  | .succ => fun m => decide (m < n) && p (m + 1)
  | .later => laterB n p
  | .once => onceB n p
local macro_rules | `(tactic| ktf_call "e") => `(tactic| ((with_reducible show DE _ _ _ _ (.Call (.Attribute _ "bit_length" _) [] [] _) _); refine d_bits ?_))
theorem o_shlW {X : Cx} {c : Ct} {σ : Sl} {m : Mem} {K : R → Mem → Prop} {i j : Int} (hc : CShl i j) (k : K (D2.rI (i * 2 ^ j.toNat)) m) : OP X c σ m (binaryOp .LShift) (D2.rI i) (D2.rI j) K := opI op_shlW hc k
section
variable {P : Program} {w : World} {K : PySem.W.Frag} {mg : Str → Option Value} {base : Heap} {f : Addr} {fd : FuncData}
def spAllM : Sp2 := fun rs m Kr Ke => ∃ n : Nat, rs = [D2.rI n] ∧ n ≤ 10000 ∧ m = [] ∧ Kr (D2.rI ((2 ^ (n + 2) - 1 : Nat) : Int)) []
def spSingle : Sp2 := fun rs m Kr Ke => ∃ (k : Sk) (n s : Nat) (p : Nat → Bool), rs = [rS k.nm, D2.rI s, D2.rI n] ∧ n ≤ 10000 ∧ Bits n s p ∧ m = [] ∧ ∀ t : Nat, Bits n t (k.tr n p) → Kr (D2.rI t) []
end
end
/-! ## NTr2 -/
section
set_option pp.maxSteps 1500
/-! truth at moments: _since, _until -/
/-- behind a place of q, p all the way up to x -/
def hold (p q : Nat → Bool) : Nat → Bool
  | 0 => false
  | x + 1 => q (x + 1) || (hold p q x && p (x + 1))
def sinceB (p q : Nat → Bool) (m : Nat) : Bool := hold p q (m - 1)
def untilB (n : Nat) (p q : Nat → Bool) (m : Nat) : Bool := hold (fun y => p (n + 1 - y)) (fun y => q (n + 1 - y)) (n - m)
theorem and_bit (a k : Nat) : ((((a &&& 2 ^ k : Nat) : Int)) != 0) = a.testBit k := by
  cases h : a.testBit k with
  | true =>
    refine bne_iff_ne.mpr fun e => ?_
    have e2 : a &&& 2 ^ k = 0 := by omega
    have e3 : (a &&& 2 ^ k).testBit k = true := by rw [Nat.testBit_and, h, Nat.testBit_two_pow]; simp
    rw [e2, Nat.zero_testBit] at e3
    cases e3
  | false =>
    have e2 : a &&& 2 ^ k = 0 := Nat.eq_of_testBit_eq fun i => by
      rw [Nat.testBit_and, Nat.testBit_two_pow, Nat.zero_testBit]
      by_cases e : k = i
      · subst e; rw [h]; rfl
      · rw [decide_eq_false e, Bool.and_false]
    rw [e2]; rfl
theorem or_bit (a k m : Nat) : (a ||| 2 ^ k).testBit m = (a.testBit m || decide (k = m)) := by rw [Nat.testBit_or, Nat.testBit_two_pow]
local macro_rules | `(tactic| ktf_call "e") => `(tactic| ((with_reducible show DE _ _ _ _ (.Call (.Name "bool" _) _ [] _) _); refine d_boolI (by ktf_call "gl") (by ktf_call "mg") ?_))
local macro_rules | `(tactic| ktf_call "o") => `(tactic| ((with_reducible refine' o_band ?kk)))
section
variable {P : Program} {w : World} {K : PySem.W.Frag} {mg : Str → Option Value} {base : Heap} {f : Addr} {fd : FuncData}
def spSince : Sp2 := fun rs m Kr Ke => ∃ (n a b : Nat) (p q : Nat → Bool), rs = [D2.rI a, D2.rI b, D2.rI n] ∧ n ≤ 10000 ∧ Bits n a p ∧ Bits n b q ∧ m = [] ∧ ∀ t : Nat, Bits n t (sinceB p q) → Kr (D2.rI t) []
def spUntil : Sp2 := fun rs m Kr Ke => ∃ (n a b : Nat) (p q : Nat → Bool), rs = [D2.rI a, D2.rI b, D2.rI n] ∧ n ≤ 10000 ∧ Bits n a p ∧ Bits n b q ∧ m = [] ∧ ∀ t : Nat, Bits n t (untilB n p q) → Kr (D2.rI t) []
end
end
/-! ## NTr3 -/
section
set_option pp.maxSteps 1500
/-! truth at moments: _row_moments -/
local macro_rules | `(tactic| ktf_call "s") => `(tactic| ((with_reducible show DSs _ _ _ _ (Stmt.If _ _ _ _ :: _) _); refine held ?_))
local macro_rules | `(tactic| ktf_call "k") => `(tactic| ((with_reducible show (_ = true → _) ∧ (_ = false → _)); refine ⟨fun hyp => ?_, fun hyp => ?_⟩ <;> (try simp only [decide_eq_true_eq, decide_eq_false_iff_not, Bool.not_eq_true', Bool.not_eq_false', Bool.not_true, Bool.not_false, Bool.true_eq_false, Bool.false_eq_true, Int.not_lt, Int.not_le, nil_len, Nat.pos_iff_ne_zero.symm, not_true_eq_false] at hyp)))
local macro_rules | `(tactic| ktf_call "k") => `(tactic| ((with_reducible show (_ = false → _) ∧ (_ = true → _)); refine ⟨fun hyp => ?_, fun hyp => ?_⟩ <;> (try simp only [decide_eq_true_eq, decide_eq_false_iff_not, Bool.not_eq_true', Bool.not_eq_false', Bool.not_true, Bool.not_false, Bool.true_eq_false, Bool.false_eq_true, Int.not_lt, Int.not_le, nil_len, Nat.pos_iff_ne_zero.symm, not_true_eq_false] at hyp)))
local macro_rules | `(tactic| ktf_call "go") => `(tactic| (refine Held.of ?_; refine dss_cons ?_; refine ds_if ?_; ktf_call "d2"))
/-- a row of a time formula -/
inductive TR where
  | yes | letter (c : Nat) | not (i : Nat) | and (i j : Nat) | or (i j : Nat) | since (i j : Nat) | until (i j : Nat) | one (k : Sk) (i : Nat)
def TR.row : TR → Row
  | .yes => ⟨lit "yes", []⟩
  | .letter c => ⟨lit "letter", [.s [c]]⟩
  | .not i => ⟨lit "not", [.n i]⟩
  | .and i j => ⟨lit "and", [.n i, .n j]⟩
  | .or i j => ⟨lit "or", [.n i, .n j]⟩
  | .since i j => ⟨lit "since", [.n i, .n j]⟩
  | .until i j => ⟨lit "until", [.n i, .n j]⟩
  | .one k i => ⟨k.nm, [.n i]⟩
/-- letter c at the moment -/
def atL (w : List Nat) (c m : Nat) : Bool := decide (1 ≤ m) && (decide (m ≤ w.length) && decide (w.getD (m - 1) 0 = c))
/-- the truth of a row at the moments of w, told that of earlier rows -/
def TR.tr (w : List Nat) (told : Nat → Nat → Bool) : TR → Nat → Bool
  | .yes => fun _ => true
  | .letter c => atL w c
  | .not i => fun m => !told i m
  | .and i j => fun m => told i m && told j m
  | .or i j => fun m => told i m || told j m
  | .since i j => sinceB (told i) (told j)
  | .until i j => untilB w.length (told i) (told j)
  | .one k i => k.tr w.length (told i)
local macro_rules | `(tactic| ktf_call "o") => `(tactic| ((with_reducible refine' x_tup ?ati ?kk); (case ati => exact ati 0 rfl rfl)))
theorem int_key {i : Nat} : IsKey (R.dat (D2.D.int (i : Int))) (.inl (i : Int)) := .int
section
variable {P : Program} {w : World} {K : PySem.W.Frag} {mg : Str → Option Value} {base : Heap} {f : Addr} {fd : FuncData}
def spRowM : Sp2 := fun rs m Kr Ke => ∃ (r : TR) (v : List Nat) (told : Nat → Nat → Bool) (pt ps : Addr) (kt ks : List (Key × R)), rs = [.dat r.row.d, .own pt, .own ps, D2.rI (v.length : Nat)] ∧ v.length ≤ 10000 ∧ (∀ i ∈ r.row.refs, ∃ s : Nat, valR kt (.inl (i : Int)) = some (D2.rI s) ∧ Bits v.length s (told i)) ∧ (∀ ch, r = .letter ch → ∃ s : Nat, valR ks (.inr (sOf [ch])) = some (D2.rI s) ∧ Bits v.length s (atL v ch)) ∧ m = [(pt, .dk kt), (ps, .dk ks)] ∧ ∀ t : Nat, Bits v.length t (r.tr v told) → Kr (D2.rI t) [(pt, .dk kt), (ps, .dk ks)]
end
end
/-! ## NTr4 -/
section
/-! truth at moments, plain: the table of all rows -/
/-- the truths of the rows, each told those of the earlier ones -/
def tvs (v : List Nat) (rs : List TR) : List (Nat → Bool) := rs.foldl (fun acc r => acc ++ [r.tr v fun i => acc.getD i fun _ => false]) []
def tv (v : List Nat) (rs : List TR) (i : Nat) : Nat → Bool := (tvs v rs).getD i fun _ => false
theorem tvs_snoc (v : List Nat) (rs : List TR) (r : TR) : tvs v (rs ++ [r]) = tvs v rs ++ [r.tr v (tv v rs)] := by
  unfold tvs
  rw [List.foldl_append]; rfl
theorem tvs_len (v : List Nat) (rs : List TR) : (tvs v rs).length = rs.length := by
  have h : ∀ (rs : List TR) (acc : List (Nat → Bool)), (rs.foldl (fun acc r => acc ++ [r.tr v fun i => acc.getD i fun _ => false]) acc).length = acc.length + rs.length := by
    intro rs
    induction rs with
    | nil => intro acc; rfl
    | cons r rs ih => intro acc; rw [List.foldl_cons, ih, List.length_append]; simp; omega
  unfold tvs
  rw [h]; simp
theorem tv_take (v : List Nat) (rs : List TR) : ∀ (k i : Nat), i < k → k ≤ rs.length → tv v (rs.take k) i = tv v (rs.take (i + 1)) i := by
  intro k
  induction k with
  | zero => intro i h; omega
  | succ k ih =>
    intro i hi hk
    by_cases e : i = k
    · subst e; rfl
    · rw [← ih i (by omega) (by omega)]
      unfold tv
      rw [take_snoc (by omega : k < rs.length), tvs_snoc, List.getD_eq_getElem?_getD, List.getD_eq_getElem?_getD, List.getElem?_append_left (by rw [tvs_len, List.length_take]; omega)]
theorem TR.tr_congr {v : List Nat} {t1 t2 : Nat → Nat → Bool} {r : TR} (h : ∀ i ∈ r.row.refs, t1 i = t2 i) : r.tr v t1 = r.tr v t2 := by
  cases r <;> simp only [TR.row, Row.refs, It.ref, List.filterMap_cons, List.filterMap_nil, List.mem_cons, List.not_mem_nil, or_false, forall_eq_or_imp, forall_eq] at h <;> simp only [TR.tr, h]
theorem tv_at {v : List Nat} {rs : List TR} {i : Nat} (hi : i < rs.length) (hb : ∀ j ∈ rs[i].row.refs, j < i) : tv v rs i = rs[i].tr v (tv v rs) := by
  have e1 : tv v rs i = tv v (rs.take (i + 1)) i := by
    have := tv_take v rs rs.length i hi (Nat.le_refl _)
    rwa [List.take_length] at this
  have e2 : tv v (rs.take (i + 1)) i = rs[i].tr v (tv v (rs.take i)) := by
    unfold tv
    rw [take_snoc hi, tvs_snoc, List.getD_eq_getElem?_getD, List.getElem?_append_right (by rw [tvs_len, List.length_take]; omega), tvs_len, List.length_take, show i - min i rs.length = 0 by omega]
    rfl
  rw [e1, e2]
  refine TR.tr_congr fun j hj => ?_
  have hji := hb j hj
  have a := tv_take v rs i j hji (by omega)
  have b := tv_take v rs rs.length j (by omega) (Nat.le_refl _)
  rw [List.take_length] at b
  rw [a, b]
end
/-! ## NTr5 -/
section
set_option pp.maxSteps 1500
/-! truth at moments: moments_of -/
/-- the moments of a letter, as far as k -/
def spotL (v : List Nat) (ch k : Nat) : List Int := ((List.range k).filter fun i => decide (v.getD i 0 = ch)).map fun i => ((2 ^ (i + 1) : Nat) : Int)
def spotN (v : List Nat) (ch : Nat) : Nat → Nat
  | 0 => 0
  | k + 1 => spotN v ch k + if v.getD k 0 = ch then 2 ^ (k + 1) else 0
theorem spotL_succ (v : List Nat) (ch k : Nat) : spotL v ch (k + 1) = spotL v ch k ++ if v.getD k 0 = ch then [((2 ^ (k + 1) : Nat) : Int)] else [] := by
  unfold spotL
  rw [List.range_succ, List.filter_append, List.map_append]
  by_cases e : v.getD k 0 = ch
  · rw [if_pos e, List.filter_cons_of_pos (by simpa using e)]; rfl
  · rw [if_neg e, List.filter_cons_of_neg (by simpa using e)]; rfl
theorem spotL_sum (v : List Nat) (ch : Nat) : ∀ k, (spotL v ch k).sum = (spotN v ch k : Nat)
  | 0 => rfl
  | k + 1 => by
    rw [spotL_succ, List.sum_append, spotL_sum v ch k, spotN]
    by_cases e : v.getD k 0 = ch
    · rw [if_pos e, if_pos e]; simp
    · rw [if_neg e, if_neg e]; simp
theorem spotN_test (v : List Nat) (ch : Nat) : ∀ k m, (spotN v ch k).testBit m = (decide (1 ≤ m) && (decide (m ≤ k) && decide (v.getD (m - 1) 0 = ch)))
  | 0, m => by
    rw [spotN, Nat.zero_testBit]
    by_cases e : 1 ≤ m
    · rw [decide_eq_false (show ¬ m ≤ 0 by omega)]; simp
    · rw [decide_eq_false e]; rfl
  | k + 1, m => by
    have ih := spotN_test v ch k
    have hlt : spotN v ch k < 2 ^ (k + 1) := Nat.lt_pow_two_of_testBit _ fun i hi => by rw [ih i, decide_eq_false (show ¬ i ≤ k by omega)]; simp
    rw [spotN]
    by_cases e : v.getD k 0 = ch
    · rw [if_pos e, show spotN v ch k + 2 ^ (k + 1) = 2 ^ (k + 1) * 1 + spotN v ch k by omega, Nat.testBit_two_pow_mul_add _ hlt]
      by_cases h : m < k + 1
      · rw [if_pos h, ih m, show decide (m ≤ k) = decide (m ≤ k + 1) from by rw [decide_eq_decide]; omega]
      · rw [if_neg h]
        by_cases g : m = k + 1
        · subst g; rw [show k + 1 - (k + 1) = 0 by omega, show k + 1 - 1 = k by omega, decide_eq_true e]; simp
        · rw [decide_eq_false (show ¬ m ≤ k + 1 by omega)]
          have : Nat.testBit 1 (m - (k + 1)) = false := Bool.eq_false_iff.mpr fun z => by have := Nat.testBit_one_eq_true_iff_self_eq_zero.mp z; omega
          rw [this]; simp
    · rw [if_neg e, Nat.add_zero, ih m]
      by_cases g : m = k + 1
      · subst g; rw [show k + 1 - 1 = k by omega, decide_eq_false e]; simp
      · rw [show decide (m ≤ k) = decide (m ≤ k + 1) from by rw [decide_eq_decide]; omega]
theorem spotN_bits (v : List Nat) (ch : Nat) : Bits v.length (spotN v ch v.length) (atL v ch) := fun m => by
  rw [spotN_test]
  unfold atL
  by_cases e : m ≤ v.length
  · rw [decide_eq_true (show m < v.length + 2 by omega), Bool.true_and]
  · rw [decide_eq_false e]; simp
theorem find_repl {k k' : Key} {r : R} : ∀ kvs : List (Key × R), ((kvs.map fun kv => if kv.1 = k then (kv.1, r) else kv).find? fun kv => decide (kv.1 = k')) = (kvs.find? fun kv => decide (kv.1 = k')).map fun kv => if kv.1 = k then (kv.1, r) else kv
  | [] => rfl
  | kv :: kvs => by
    rw [List.map_cons, List.find?_cons, List.find?_cons, find_repl kvs]
    have e : (if kv.1 = k then (kv.1, r) else kv).1 = kv.1 := by by_cases h : kv.1 = k <;> simp [h]
    rw [e]
    cases decide (kv.1 = k') <;> rfl
theorem valR_put (kvs : List (Key × R)) (k k' : Key) (r : R) : valR (putR kvs k r) k' = if k' = k then some r else valR kvs k' := by
  unfold valR putR
  by_cases c : (kvs.any fun kv => decide (kv.1 = k)) = true
  · rw [if_pos c, find_repl]
    by_cases e : k' = k
    · subst e
      rw [if_pos rfl]
      obtain ⟨kv, h1, h2⟩ := List.any_eq_true.mp c
      cases q : kvs.find? fun kv => decide (kv.1 = k') with
      | none => exact absurd (by simpa using h2) (by simpa using List.find?_eq_none.mp q kv h1)
      | some x =>
        have hx : x.1 = k' := by simpa using List.find?_some q
        simp [hx]
    · rw [if_neg e]
      cases q : kvs.find? fun kv => decide (kv.1 = k') with
      | none => rfl
      | some x =>
        have hx : x.1 = k' := by simpa using List.find?_some q
        simp [hx, e]
  · rw [if_neg c, List.find?_append]
    by_cases e : k' = k
    · subst e
      rw [if_pos rfl]
      have : kvs.find? (fun kv => decide (kv.1 = k')) = none := List.find?_eq_none.mpr fun kv h1 h2 => c (List.any_eq_true.mpr ⟨kv, h1, h2⟩)
      rw [this]
      simp
    · rw [if_neg e]
      have : [(k, r)].find? (fun kv => decide (kv.1 = k')) = none := List.find?_eq_none.mpr fun kv h1 h2 => by
        rw [List.mem_singleton.mp h1] at h2
        exact e (by simpa using h2 : k = k').symm
      rw [this, Option.or_none]
end
/-! ## NTr6 -/
section
set_option pp.maxSteps 1500
/-! truth at moments: moments_of -/
local macro_rules | `(tactic| ktf_call "s") => `(tactic| ((with_reducible show DS _ _ _ _ (.Assign [.Subscript _ _ _] _ _) _); refine ds_setD (by assumption) ?_))
theorem putR_len (kvs : List (Key × R)) (k : Key) (r : R) : (putR kvs k r).length ≤ kvs.length + 1 := by
  unfold putR
  by_cases c : (kvs.any fun kv => decide (kv.1 = k)) = true
  · rw [if_pos c, List.length_map]; omega
  · rw [if_neg c, List.length_append]; simp
section
variable {P : Program} {w : World} {K : PySem.W.Frag} {mg : Str → Option Value} {base : Heap} {f : Addr} {fd : FuncData}
/-- a time formula made: its letters, rows, needed rows -/
structure TfOk (l : List Nat) (trs : List TR) (nd : List Nat) : Prop where
  need : Need (trs.map TR.row) nd
  back : Back (trs.map TR.row)
  ne : 0 < trs.length
  ll : l.length ≤ 3
  lt : ∀ i (h : i < trs.length) ch, trs[i] = .letter ch → ch ∈ l
  sz : trs.length ≤ 6000
abbrev tfD (CT : Addr) (l : List Nat) (trs : List TR) (nd : List Nat) : D2.D := .ins CT (tfF l (trs.map TR.row) nd)
def spMoments (CT : Addr) : Sp2 := fun rs m Kr Ke => ∃ (l : List Nat) (trs : List TR) (nd v : List Nat), rs = [.dat (tfD CT l trs nd), rS v] ∧ TfOk l trs nd ∧ v.length ≤ 1000 ∧ m = [] ∧ ∀ t : Nat, Bits v.length t (tv v trs (trs.length - 1)) → Kr (D2.rI t) []
end
end
/-! ## NSt4 -/
section
set_option pp.maxSteps 1500
/-! stretches: stretch_bits, gap_bits, expression_truth -/
local macro_rules | `(tactic| ktf_call "s") => `(tactic| ((with_reducible show DSs _ _ _ _ (Stmt.If _ _ _ _ :: _) _); refine held ?_))
local macro_rules | `(tactic| ktf_call "k") => `(tactic| ((with_reducible show (_ = true → _) ∧ (_ = false → _)); refine ⟨fun hyp => ?_, fun hyp => ?_⟩ <;> (try simp only [decide_eq_true_eq, decide_eq_false_iff_not, Bool.not_eq_true', Bool.not_eq_false', Bool.not_true, Bool.not_false, Bool.true_eq_false, Bool.false_eq_true, Int.not_lt, Int.not_le, nil_len, Nat.pos_iff_ne_zero.symm, not_true_eq_false] at hyp)))
local macro_rules | `(tactic| ktf_call "k") => `(tactic| ((with_reducible show (_ = false → _) ∧ (_ = true → _)); refine ⟨fun hyp => ?_, fun hyp => ?_⟩ <;> (try simp only [decide_eq_true_eq, decide_eq_false_iff_not, Bool.not_eq_true', Bool.not_eq_false', Bool.not_true, Bool.not_false, Bool.true_eq_false, Bool.false_eq_true, Int.not_lt, Int.not_le, nil_len, Nat.pos_iff_ne_zero.symm, not_true_eq_false] at hyp)))
local macro_rules | `(tactic| ktf_call "go") => `(tactic| (refine Held.of ?_; refine dss_cons ?_; refine ds_if ?_; ktf_call "d2"))
abbrev rowsX (xs : List XR) : List D2.D := rowsD (xs.map XR.row)
/-- an expression as data -/
abbrev exD (CX : Addr) (l : List Nat) (xs : List XR) (d : Nat) : D2.D := .ins CX [("letters", .str l), ("rows", .tup (rowsX xs)), ("text", .str (sheetT l (xs.map XR.row))), ("depth", .int (d : Int))]
structure ExOk (l : List Nat) (xs : List XR) : Prop where
  back : Back (xs.map XR.row)
  ne : 0 < xs.length
  sz : xs.length ≤ 6000
def startL (w k : Nat) : List Nat := (List.range k).map fun g => 2 ^ (w * g)
theorem startL_succ (w k : Nat) : startL w (k + 1) = startL w k ++ [2 ^ (w * k)] := by
  unfold startL
  rw [List.range_succ, List.map_append]; rfl
theorem startL_sum (w : Nat) : ∀ k, (startL w k).sum = startN w k
  | 0 => rfl
  | k + 1 => by rw [startL_succ, List.sum_append, startL_sum w k]; simp [startN]
def wholeL (w k : Nat) : List Nat := (List.range k).map fun g => (2 ^ w - 2 ^ g) * 2 ^ (w * g)
theorem wholeL_succ (w k : Nat) : wholeL w (k + 1) = wholeL w k ++ [(2 ^ w - 2 ^ k) * 2 ^ (w * k)] := by
  unfold wholeL
  rw [List.range_succ, List.map_append]; rfl
theorem wholeL_sum (w : Nat) : ∀ k, (wholeL w k).sum = wholeN w k
  | 0 => rfl
  | k + 1 => by rw [wholeL_succ, List.sum_append, wholeL_sum w k]; simp [wholeN]
local macro_rules | `(tactic| ktf_call "s") => `(tactic| ((with_reducible show DS _ _ _ _ (.Assign [.Subscript _ _ _] _ _) _); refine ds_setD (by assumption) ?_))
theorem bit_one (t n : Nat) : decide (((t >>> n &&& 1 : Nat) : Int) = 1) = t.testBit n := by
  rw [Bool.eq_iff_iff, decide_eq_true_eq]
  have h : t >>> n &&& 1 = (t >>> n) % 2 := Nat.and_one_is_mod _
  rw [h, Nat.testBit, Nat.one_and_eq_mod_two]
  have := Nat.mod_two_eq_zero_or_one (t >>> n)
  simp only [bne_iff_ne, ne_eq]
  omega
section
variable {P : Program} {w : World} {K : PySem.W.Frag} {mg : Str → Option Value} {base : Heap} {f : Addr} {fd : FuncData}
def spStretchBits (CX : Addr) : Sp2 := fun rs m Kr Ke => ∃ (l : List Nat) (xs : List XR) (d : Nat) (v : List Nat), rs = [.dat (exD CX l xs d), rS v] ∧ ExOk l xs ∧ v.length ≤ 60 ∧ m = [] ∧ ∀ t : Nat, Mat v.length t (str v (xv xs (xs.length - 1))) → Kr (D2.rI t) []
theorem sc_stretch_bits : FnScope ["expression", "word", "width", "starts", "whole", "known", "number", "gap"] ["expression", "word"] (defScope (top 50)) := ⟨rfl, rfl, rfl, by decide +kernel, rfl, by decide +kernel, by decide +kernel⟩
theorem ok_stretchBits {C_Expression : Addr} (F : FunD K "stretch_bits" "stretch_bits" (defArgs (top 50)) (defBody (top 50)) (defScope (top 50)) [] [] f fd) (m0_len : mg "len" = none) (m0_sum : mg "sum" = none) (m0_range : mg "range" = none) (c_needed_rows : CalleeG P w K mg base "needed_rows" 1 spNeeded) (c_row_bits : CalleeG P w K mg base "row_bits" 2 spRowBits) (k_Expression : Cls K C_Expression) (n_Expression_rows : NoAttr K C_Expression "rows") : FnOk P w K mg base (L2N.CX P w) (3) f fd ["expression", "word"] (spOf K (spStretchBits C_Expression)) := by
  refine fn2 F sc_stretch_bits (by decide +kernel) (fun rs m Kr Ke ⟨_, _, _, _, e, _⟩ => by rw [e]; rfl) fun X c rs m Kr Ke D L hx ⟨l, xs, d, v, er, ok, hv, em, hk⟩ => ?_
  subst er em
  have m_len : X.mg "len" = none := D.mg_ m0_len
  have m_sum : X.mg "sum" = none := D.mg_ m0_sum
  have m_range : X.mg "range" = none := D.mg_ m0_range
  have e_needed_rows : Callee X "needed_rows" 1 spNeeded := D.callee c_needed_rows
  have e_row_bits : Callee X "row_bits" 2 spRowBits := D.callee c_row_bits
  have kk_Expression : Cls X.K C_Expression := D.cls k_Expression
  have nn_Expression_rows : NoAttr X.K C_Expression "rows" := D.noat n_Expression_rows
  have g_len : Gl X "len" := D.gl (by decide +kernel)
  have g_sum : Gl X "sum" := D.gl (by decide +kernel)
  have g_range : Gl X "range" := D.gl (by decide +kernel)
  have g_needed_rows : Gl X "needed_rows" := D.gl (by decide +kernel)
  have g_row_bits : Gl X "row_bits" := D.gl (by decide +kernel)
  have o_width : Own X "width" := D.own (by decide +kernel)
  have o_starts : Own X "starts" := D.own (by decide +kernel)
  have o_whole : Own X "whole" := D.own (by decide +kernel)
  have o_known : Own X "known" := D.own (by decide +kernel)
  have o_number : Own X "number" := D.own (by decide +kernel)
  refine dss_lo ?_
  show DSs X c [("expression", some (.dat (exD C_Expression l xs d))), ("word", some (rS v)), ("width", none), ("starts", none), ("whole", none), ("known", none), ("number", none), ("gap", none)] [] (_ :: _) _
  have e1 : ((v.length : Nat) : Int) + 1 = ((v.length + 1 : Nat) : Int) := by omega
  have hq : ∀ i, i < v.length + 1 → (v.length + 1) * i ≤ 1000000 := fun i hi => Nat.le_trans (Nat.mul_le_mul (show v.length + 1 ≤ 61 by omega) (show i ≤ 61 by omega)) (by decide)
  ktf_call "d2"
  rw [e1]
  refine d_sum L (by ktf_call "gl") (by ktf_call "mg") ?_
  refine de_lc (own := [("gap", 7)]) (ds := ups 0 (v.length + 1)) (fun i rs m => rs = nR (startL (v.length + 1) i) ∧ m = []) L (D.nd (by decide +kernel)) (blk_ok D (by decide +kernel)) (by decide +kernel) (by ktf_call "blk") (.name (by ktf_call "put") List.mem_cons_self) (it_rng1 (by ktf_call "gl") (by ktf_call "mg") ?_) ?_ ?_ ?_
  · ktf_call "d2"
    exact ⟨by omega, by omega, by rw [Int.toNat_natCast], rfl, rfl⟩
  · rintro i d rs m' hd ⟨rfl, rfl⟩
    obtain ⟨hi, rfl⟩ := ups_at hd
    rw [show (0 : Int) + (i : Int) = (i : Int) by omega]
    refine turn0 fun Xe c' hX hL => ?_
    ktf_call "d2"
    rw [← Int.natCast_mul]
    refine o_shl1 (hq i hi) ?_
    exact ⟨by rw [startL_succ, ← nR_snoc], rfl⟩
  · rw [ups_len]; omega
  rintro rs m' q ⟨rfl, rfl⟩
  rw [ups_len]
  refine ⟨nI (startL (v.length + 1) (v.length + 1)), .own .here, ?_⟩
  rw [nI_sum, startL_sum]
  refine dss_in (m' := []) ?_ (Fog.refl _) (List.nil_sublist _)
  ktf_call "d2"
  refine d_sum L (by ktf_call "gl") (by ktf_call "mg") ?_
  refine de_lc (own := [("gap", 7)]) (ds := ups 0 (v.length + 1)) (fun i rs m => rs = nR (wholeL (v.length + 1) i) ∧ m = []) L (D.nd (by decide +kernel)) (blk_ok D (by decide +kernel)) (by decide +kernel) (by ktf_call "blk") (.name (by ktf_call "put") List.mem_cons_self) (it_rng1 (by ktf_call "gl") (by ktf_call "mg") ?_) ?_ ?_ ?_
  · ktf_call "d2"
    exact ⟨by omega, by omega, by rw [Int.toNat_natCast], rfl, rfl⟩
  · rintro i d rs m' hd ⟨rfl, rfl⟩
    obtain ⟨hi, rfl⟩ := ups_at hd
    rw [show (0 : Int) + (i : Int) = (i : Int) by omega]
    have hp : 2 ^ i ≤ 2 ^ (v.length + 1) := Nat.pow_le_pow_right (by omega) (by omega)
    have hp2 : 2 ^ (v.length + 1) ≤ 2 ^ 61 := Nat.pow_le_pow_right (by omega) (by omega)
    have hp3 : ((2 ^ (v.length + 1) : Nat) : Int) - ((2 ^ i : Nat) : Int) = ((2 ^ (v.length + 1) - 2 ^ i : Nat) : Int) := by
      generalize 2 ^ i = a at hp
      generalize 2 ^ (v.length + 1) = b at hp
      omega
    refine turn0 fun Xe c' hX hL => ?_
    ktf_call "d2"
    refine o_shl1 (by omega) ?_
    ktf_call "d2"
    refine o_shl1 (by omega) ?_
    ktf_call "d2"
    rw [hp3, ← Int.natCast_mul]
    refine o_shlN (Nat.lt_of_le_of_lt (Nat.sub_le _ _) (Nat.lt_of_le_of_lt hp2 (by decide))) (hq i hi) ?_
    exact ⟨by rw [wholeL_succ, ← nR_snoc], rfl⟩
  · rw [ups_len]; omega
  rintro rs m' q ⟨rfl, rfl⟩
  rw [ups_len]
  refine ⟨nI (wholeL (v.length + 1) (v.length + 1)), .own .here, ?_⟩
  rw [nI_sum, wholeL_sum]
  refine dss_in (m' := []) ?_ (Fog.refl _) (List.nil_sublist _)
  ktf_call "d2"
  rename_i pk
  refine ds_forP (fun ds i σ m => ∃ (nd : List Nat) (kt : List (Key × R)), ds = nd.map (fun (i : Nat) => .int (i : Int)) ∧ Need (xs.map XR.row) nd ∧ σ = ([("expression", some (.dat (exD C_Expression l xs d))), ("word", some (rS v)), ("width", some (D2.rI (v.length + 1 : Nat))), ("starts", some (D2.rI (startN (v.length + 1) (v.length + 1) : Nat))), ("whole", some (D2.rI (wholeN (v.length + 1) (v.length + 1) : Nat))), ("known", some (.own pk)), ("number", none), ("gap", none)] : Sl) ∧ m = [(pk, .dk kt)] ∧ kt.length ≤ i ∧ ∀ j (h : j < nd.length), j < i → ∃ s : Nat, valR kt (.inl (nd[j] : Int)) = some (D2.rI s) ∧ Mat v.length s (str v (xv xs nd[j]))) L (it_list ?_) ?_ ?_
  · ktf_call "d2"
    refine ⟨[], _, .nil, xs.map XR.row, _, rfl, .tup, ok.back, by rw [List.length_map]; exact ok.ne, by rw [List.length_map]; have := ok.sz; omega, rfl, fun pn nd hnd => ?_⟩
    dsimp only [List.nil_append, List.cons_append]
    exact ⟨_, _, .lst .here (frzs_f _ (fun (i : Nat) => D2.D.int (i : Int)) nd), nd, [], rfl, hnd, rfl, rfl, Nat.le_refl _, fun j _ h => absurd h (by omega)⟩
  · rintro ds i d' σ' m' hd ⟨nd, kt, rfl, hnd, rfl, rfl, hktl, hkt⟩
    have hnl : nd.length ≤ 6000 := by
      have := hnd.len
      rw [List.length_map] at this
      have := ok.sz
      omega
    rw [List.getElem?_map] at hd
    obtain ⟨a, ha, rfl⟩ := Option.map_eq_some_iff.mp hd
    obtain ⟨hi, ea⟩ := List.getElem?_eq_some_iff.mp ha
    obtain ⟨ha1, hra⟩ := (hnd.2 a).mp (by rw [← ea]; exact List.getElem_mem hi)
    have ha2 : a < xs.length := by rwa [List.length_map] at ha1
    have erow : (xs.map XR.row)[a] = xs[a].row := List.getElem_map _
    have hbk := ok.back a ha1
    have hrefs : ∀ j ∈ xs[a].row.refs, j < a ∧ ∃ s : Nat, valR kt (.inl (j : Int)) = some (D2.rI s) ∧ Mat v.length s (str v (xv xs j)) := fun j hj => by
      rw [erow] at hbk
      have hja := hbk j hj
      have hjn : j ∈ nd := (hnd.2 j).mpr ⟨by rw [List.length_map]; omega, .step ha1 hra (by rw [erow]; exact hj)⟩
      obtain ⟨x, hx, ex⟩ := List.getElem_of_mem hjn
      have hxi : x < i := by
        rcases Nat.lt_trichotomy x i with q | q | q
        · exact q
        · subst q; omega
        · have := List.pairwise_iff_getElem.mp hnd.1 i x hi hx q
          omega
      obtain ⟨s, h1, h2⟩ := hkt x hx hxi
      rw [ex] at h1 h2
      exact ⟨hja, s, h1, h2⟩
    refine dg_name o_number (by ktf_call "put") ?_
    refine dss_lo ?_
    ktf_call "d2"
    refine x_tup (ati a (show (rowsD (xs.map XR.row))[a]? = some (xs[a].row.d) by rw [show rowsD (xs.map XR.row) = (xs.map XR.row).map Row.d from rfl, List.getElem?_map, List.getElem?_eq_getElem ha1, erow]; rfl) rfl) ?_
    ktf_call "d2"
    refine ⟨[(pk, .dk kt)], [], .cons .here .nil, xs[a], v, xv xs, pk, kt, rfl, by omega, fun j hj => (hrefs j hj).2, rfl, fun t htb => ?_⟩
    dsimp only [List.nil_append, List.cons_append]
    ktf_call "d2"
    refine ⟨_, _, _, _, rfl, int_keyX, .here, by omega, ?_⟩
    ktf_call "d2"
    refine ⟨_, _, by ktf_call "fog", List.Sublist.refl _, nd, _, rfl, hnd, rfl, rfl, by have := putR_len kt (.inl (a : Int)) (D2.rI (t : Nat)); omega, fun j hj hji => ?_⟩
    rw [valR_put]
    by_cases e : nd[j] = a
    · rw [if_pos (by rw [e]), e]
      refine ⟨t, rfl, ?_⟩
      rw [xv_at ha2 fun j hj => (hrefs j hj).1]
      exact htb
    · rw [if_neg (fun z => e (by have := Sum.inl.inj z; omega))]
      exact hkt j hj (by
        by_cases q : j = i
        · subst q; exact absurd ea e
        · omega)
  rintro ds σ' m' ⟨nd, kt, rfl, hnd, rfl, rfl, hktl, hkt⟩
  rw [List.length_map] at hkt
  ktf_call "d2"
  have h0 := ok.ne
  have hlast : xs.length - 1 ∈ nd := (hnd.2 _).mpr ⟨by rw [List.length_map]; omega, by have := Reach.last (rs := xs.map XR.row); rwa [List.length_map] at this⟩
  obtain ⟨x, hx, ex⟩ := List.getElem_of_mem hlast
  obtain ⟨s, h1, h2⟩ := hkt x hx hx
  rw [ex] at h1 h2
  have ekey : (((rowsX xs).length : Nat) : Int) - 1 = ((xs.length - 1 : Nat) : Int) := by
    have : (rowsX xs).length = xs.length := by simp [rowsD]
    omega
  rw [ekey]
  refine x_dk L .here int_keyX h1 ?_
  exact ⟨_, List.nil_sublist _, hk s h2⟩
def spExTruth (CX : Addr) : Sp2 := fun rs m Kr Ke => ∃ (l : List Nat) (xs : List XR) (d : Nat) (v : List Nat), rs = [.dat (exD CX l xs d), rS v] ∧ ExOk l xs ∧ v.length ≤ 60 ∧ m = [] ∧ Kr (rB (xv xs (xs.length - 1) v)) []
theorem sc_expression_truth : FnScope ["expression", "word"] ["expression", "word"] (defScope (top 52)) := ⟨rfl, rfl, rfl, by decide +kernel, rfl, by decide +kernel, by decide +kernel⟩
theorem ok_exTruth {C_Expression : Addr} (F : FunD K "expression_truth" "expression_truth" (defArgs (top 52)) (defBody (top 52)) (defScope (top 52)) [] [] f fd) (c_stretch_bits : CalleeG P w K mg base "stretch_bits" 3 (spStretchBits C_Expression)) (m0_len : mg "len" = none) : FnOk P w K mg base (L2N.CX P w) (4) f fd ["expression", "word"] (spOf K (spExTruth C_Expression)) := by
  refine fn2 F sc_expression_truth (by decide +kernel) (fun rs m Kr Ke ⟨_, _, _, _, e, _⟩ => by rw [e]; rfl) fun X c rs m Kr Ke D L hx ⟨l, xs, d, v, er, ok, hv, em, hk⟩ => ?_
  subst er em
  have e_stretch_bits : Callee X "stretch_bits" 3 (spStretchBits C_Expression) := D.callee c_stretch_bits
  have m_len : X.mg "len" = none := D.mg_ m0_len
  have g_stretch_bits : Gl X "stretch_bits" := D.gl (by decide +kernel)
  have g_len : Gl X "len" := D.gl (by decide +kernel)
  refine dss_lo ?_
  show DSs X c [("expression", some (.dat (exD C_Expression l xs d))), ("word", some (rS v))] [] (_ :: _) _
  ktf_call "d2"
  refine ⟨[], _, .nil, l, xs, d, v, rfl, ok, hv, rfl, fun t ht => ?_⟩
  dsimp only [List.nil_append, List.cons_append]
  ktf_call "d2"
  refine o_shrN ?_
  ktf_call "d2"
  refine o_andN (b := 1) ?_
  ktf_call "d2"
  refine ⟨_, List.Sublist.refl _, ?_⟩
  rw [bit_one, ht v.length, Nat.div_eq_of_lt (by omega), Nat.mod_eq_of_lt (by omega)]
  show Kr (rB (decide (0 ≤ v.length) && decide (0 ≤ v.length) && xv xs (xs.length - 1) ((v.take v.length).drop 0))) []
  rw [decide_eq_true (Nat.zero_le _), List.take_length]
  exact hk
end
end
/-! ## NSx -/
section
set_option pp.maxSteps 1500
/-! expressions: split_depths -/
/-- the depth of a row, told those of earlier ones -/
def depX (r : Row) (acc : List Nat) : Nat := maxN (r.refs.map fun j => acc.getD j 0) + if r.w = lit "split" then 1 else 0
def depthsX (rows : List Row) : List Nat := rows.foldl (fun acc r => acc ++ [depX r acc]) []
theorem depthsX_snoc (rows : List Row) (r : Row) : depthsX (rows ++ [r]) = depthsX rows ++ [depX r (depthsX rows)] := by
  unfold depthsX
  rw [List.foldl_append]; rfl
theorem depthsX_len (rows : List Row) : (depthsX rows).length = rows.length := by
  have h : ∀ (rows : List Row) (acc : List Nat), (rows.foldl (fun acc r => acc ++ [depX r acc]) acc).length = acc.length + rows.length := by
    intro rows
    induction rows with
    | nil => intro acc; rfl
    | cons r rows ih => intro acc; rw [List.foldl_cons, ih, List.length_append]; simp; omega
  unfold depthsX
  rw [h]; simp
theorem max0 {l : List Nat} {M : Int} (h1 : M ∈ (0 : Int) :: nI l) (h2 : ∀ y, y ∈ (0 : Int) :: nI l → y ≤ M) : M = ((maxN l : Nat) : Int) := by
  have h0 : (0 : Int) ≤ M := h2 0 List.mem_cons_self
  have hle : ((maxN l : Nat) : Int) ≤ M := by
    by_cases e : l = []
    · subst e; simpa [maxN] using h0
    · exact h2 _ (List.mem_cons_of_mem _ (List.mem_map.mpr ⟨_, maxN_mem e, rfl⟩))
  rcases List.mem_cons.mp h1 with rfl | h
  · omega
  · obtain ⟨x, hx, rfl⟩ := List.mem_map.mp h
    have := maxN_le x hx
    omega
local macro_rules | `(tactic| ktf_call "o") => `(tactic| ((with_reducible refine' x_tup ati_0 ?kk)))
local macro_rules | `(tactic| ktf_call "e") => `(tactic| ((with_reducible show DE _ _ _ _ (.Call (.Name "max" _) [_] _ _) _); refine d_maxL (by assumption) (by ktf_call "gl") (by ktf_call "mg") ?_))
section
variable {P : Program} {w : World} {K : PySem.W.Frag} {mg : Str → Option Value} {base : Heap} {f : Addr} {fd : FuncData}
def spSplitDepths : Sp2 := fun rs m Kr Ke => ∃ (rows : List Row), rs = [.dat (.tup (rowsD rows))] ∧ Back rows ∧ Fine rows ∧ m = [] ∧ ∀ p, Kr (.own p) [(p, .lst (nR (depthsX rows)))]
theorem sc_split_depths : FnScope ["rows", "depths", "row", "named", "more", "item"] ["rows"] (defScope (top 57)) := ⟨rfl, rfl, rfl, by decide +kernel, rfl, by decide +kernel, by decide +kernel⟩
theorem ok_splitDepths (F : FunD K "split_depths" "split_depths" (defArgs (top 57)) (defBody (top 57)) (defScope (top 57)) [] [] f fd) (m0_max : mg "max" = none) (m0_isinstance : mg "isinstance" = none) (m0_int : mg "int" = none) : FnOk P w K mg base (L2N.CX P w) (1) f fd ["rows"] (spOf K spSplitDepths) := by
  refine fn2 F sc_split_depths (by decide +kernel) (fun rs m Kr Ke ⟨_, e, _⟩ => by rw [e]; rfl) fun X c rs m Kr Ke D L hx ⟨rows, er, hb, hf, em, hk⟩ => ?_
  subst er em
  have m_max : X.mg "max" = none := D.mg_ m0_max
  have m_isinstance : X.mg "isinstance" = none := D.mg_ m0_isinstance
  have m_int : X.mg "int" = none := D.mg_ m0_int
  have g_max : Gl X "max" := D.gl (by decide +kernel)
  have o_depths : Own X "depths" := D.own (by decide +kernel)
  have o_row : Own X "row" := D.own (by decide +kernel)
  have o_named : Own X "named" := D.own (by decide +kernel)
  have o_more : Own X "more" := D.own (by decide +kernel)
  refine dss_lo ?_
  show DSs X c [("rows", some (.dat (.tup (rowsD rows)))), ("depths", none), ("row", none), ("named", none), ("more", none), ("item", none)] [] (_ :: _) _
  have hrl : (rowsD rows).length = rows.length := by simp [rowsD]
  have hfl := hf.1
  ktf_call "d2"
  rename_i p
  refine ds_for (ds := rowsD rows) (fun i σ m => σ = ([("rows", some (.dat (.tup (rowsD rows)))), ("depths", some (.own p)), ("row", none), ("named", none), ("more", none), ("item", none)] : Sl) ∧ m = [(p, .lst (nR (depthsX (rows.take i))))]) L (it_tup ?_) ?_ ?_
  · ktf_call "d2"
    exact ⟨_, rfl, rfl, rfl, rfl⟩
  · rintro i d σ' m' hd ⟨rfl, rfl⟩
    rw [show rowsD rows = rows.map Row.d from rfl, List.getElem?_map] at hd
    obtain ⟨r, hr, rfl⟩ := Option.map_eq_some_iff.mp hd
    obtain ⟨hi, er⟩ := List.getElem?_eq_some_iff.mp hr
    have hrf := hf.2 r (by rw [← er]; exact List.getElem_mem hi)
    have hbk := hb i hi
    rw [er] at hbk
    have hal : (depthsX (rows.take i)).length = i := by rw [depthsX_len, List.length_take]; omega
    have hsn : depthsX (rows.take (i + 1)) = depthsX (rows.take i) ++ [depX r (depthsX (rows.take i))] := by rw [take_snoc hi, er, depthsX_snoc]
    generalize hacc : depthsX (rows.take i) = acc at hal hsn
    have hnl := nI_len acc
    refine dg_name o_row (by ktf_call "put") ?_
    refine dss_lo ?_
    obtain ⟨rw_, its⟩ := r
    dsimp only [Row.d]
    ktf_call "d2"
    refine ds_lc (own := [("item", 5)]) (ds := .str rw_ :: its.map It.d) (fun k rs m => rs = nR (((its.take (k - 1)).filterMap It.ref).map fun j => acc.getD j 0) ∧ m = [(p, .lst (nR acc))]) L (D.nd (by decide +kernel)) (by rw [D.sc]; decide +kernel) (by ktf_call "put") (blk_ok D (by decide +kernel)) (by decide +kernel) (by ktf_call "blk") (.name (by ktf_call "put") List.mem_cons_self) (it_tup ?_) ?_ ?_ ?_ (sw_d D (by decide +kernel) (by decide +kernel) rfl (by decide +kernel))
    · ktf_call "d2"
      exact ⟨_, rfl, rfl, rfl, rfl⟩
    · rintro k d rs m' hd ⟨rfl, rfl⟩
      refine turn1 fun Xb c' hX hL => dt_val ?_
      rcases k with _ | k
      · cases hd
        ktf_call "d2"
        exact ⟨rfl, rfl⟩
      · rw [List.getElem?_cons_succ, List.getElem?_map] at hd
        obtain ⟨it, hit, rfl⟩ := Option.map_eq_some_iff.mp hd
        obtain ⟨hk2, eit⟩ := List.getElem?_eq_some_iff.mp hit
        rw [Nat.add_sub_cancel, Nat.add_sub_cancel]
        cases it with
        | n j0 =>
          have hj : j0 < acc.length := by
            rw [hal]
            exact hbk j0 (List.mem_filterMap.mpr ⟨.n j0, by rw [← eit]; exact List.getElem_mem hk2, rfl⟩)
          dsimp only [It.d]
          ktf_call "d2"
          intro Xe hXe hLe
          ktf_call "d2"
          rw [Int.toNat_natCast, nI_at]
          refine ⟨?_, rfl⟩
          rw [take_snoc hk2, eit, List.filterMap_append, List.map_append, nR_snoc]; rfl
        | s t =>
          dsimp only [It.d]
          ktf_call "d2"
          refine ⟨?_, rfl⟩
          rw [take_snoc hk2, eit, List.filterMap_append]
          show _ = nR (List.map _ (_ ++ []))
          rw [List.append_nil]
    · have : its.length ≤ 3 := hrf.1
      simp; omega
    rintro rs m' p2 ⟨rfl, rfl⟩
    rw [List.length_cons, List.length_map, Nat.add_sub_cancel, List.take_length]
    have eref : its.filterMap It.ref = Row.refs ⟨rw_, its⟩ := rfl
    rw [eref]
    have hrl3 : (Row.refs ⟨rw_, its⟩).length ≤ 3 := Nat.le_trans (List.length_filterMap_le _ _) hrf.1
    obtain ⟨Lr, eL⟩ : ∃ Lr, (Row.refs ⟨rw_, its⟩).map (fun j => acc.getD j 0) = Lr := ⟨_, rfl⟩
    have hLl : Lr.length ≤ 3 := by rw [← eL, List.length_map]; exact hrl3
    rw [eL]
    have hnL := nI_len Lr
    show DSs _ _ _ _ _ _
    have hdep : depX ⟨rw_, its⟩ acc = maxN Lr + if rw_ = lit "split" then 1 else 0 := by rw [← eL]; rfl
    ktf_call "d2"
    · rename_i hyp p3 p4
      refine ⟨(0 : Int) :: nI Lr, .own .here, by simp, fun M h1 h2 => ?_⟩
      obtain rfl := max0 h1 h2
      ktf_call "d2"
      refine ⟨_, _, by ktf_call "fog", List.Sublist.cons _ (List.Sublist.cons _ (List.Sublist.cons _ (List.Sublist.refl _))), rfl, ?_⟩
      rw [hsn, ← nR_snoc, hdep, if_pos hyp]; rfl
    · rename_i hyp p3 p4
      refine ⟨(0 : Int) :: nI Lr, .own .here, by simp, fun M h1 h2 => ?_⟩
      obtain rfl := max0 h1 h2
      ktf_call "d2"
      refine ⟨_, _, by ktf_call "fog", List.Sublist.cons _ (List.Sublist.cons _ (List.Sublist.cons _ (List.Sublist.refl _))), rfl, ?_⟩
      rw [hsn, ← nR_snoc, hdep, if_neg hyp]; rfl
  rintro σ' m' ⟨rfl, rfl⟩
  rw [hrl, List.take_length]
  ktf_call "d2"
  exact ⟨_, List.Sublist.refl _, hk p⟩
end
end
/-! ## NSy -/
section
set_option pp.maxSteps 1500
/-! expressions: Expression.__init__ -/
local macro_rules | `(tactic| ktf_call "e") => `(tactic| first
  | ((with_reducible show DE _ _ _ _ (.Call (.Name "tuple" _) _ [] _) _); refine d_tupleL (by ktf_call "gl") (by ktf_call "mg") ?_)
  | ((with_reducible show DE _ _ _ _ (.Call (.Name "dict" _) _ [] _) _); refine d_dictC (by ktf_call "gl") (by ktf_call "mg") (by ktf_call "gl") (by assumption) (fun q => ?_))
  | ((with_reducible show DE _ _ _ _ (.Call (.Name "checked_rows" _) _ [] _) _); refine de_callD (by assumption) (by assumption) (by ktf_call "gl") ?_ (hjk := by omega)))
abbrev exF (l : List Nat) (rows : List Row) : List (Str × D2.D) := [("letters", .str l), ("rows", .tup (rowsD rows)), ("text", .str (sheetT l rows)), ("depth", .int ((depthsX rows).getD (rows.length - 1) 0 : Nat))]
abbrev exR (l : List Nat) (rows : List Row) : List (Str × R) := (exF l rows).map fun p => (p.1, R.dat p.2)
section
variable {P : Program} {w : World} {K : PySem.W.Frag} {mg : Str → Option Value} {base : Heap} {f : Addr} {fd : FuncData}
def spExInit (CX : Addr) : Sp2 := fun rs m Kr Ke => ∃ (s dx : Addr) (l : List Nat) (rows : List Row) (ra : R) (mr : Mem), rs = [.own s, rS l, ra] ∧ RowArg ra mr (rowsD rows) ∧ l ∈ alphabets ∧ Sheet shapesX l rows ∧ Fine rows ∧ 0 < rows.length ∧ m = (s, .ins CX dx []) :: mr ∧ Kr (.dat .non) ((s, .ins CX dx (exR l rows)) :: mr)
theorem sc_Expression___init__ : FnScope ["self", "letters", "rows"] ["self", "letters", "rows"] (defScope (clsDef (top 58) 0)) := ⟨rfl, rfl, rfl, by decide +kernel, rfl, by decide +kernel, by decide +kernel⟩
theorem ok_exInit {C_BadLetters C_Expression : Addr} (F : FunD K "__init__" "Expression.__init__" (defArgs (clsDef (top 58) 0)) (defBody (clsDef (top 58) 0)) (defScope (clsDef (top 58) 0)) [] [] f fd) (c_check_letters : CalleeG P w K mg base "check_letters" 3 (spCheckLetters C_BadLetters)) (cd_checked_rows : CalleeD P w K mg base "checked_rows" 3 [D2.rI 40000] spCheckedRows) (m0_dict : mg "dict" = none) (t_SHAPES : DicG K w mg "SHAPES" (NC.shapesX)) (c_sheet_text : CalleeG P w K mg base "sheet_text" 1 spSheetText) (c_split_depths : CalleeG P w K mg base "split_depths" 1 spSplitDepths) (k_Expression : Cls K C_Expression) (n_Expression_letters : NoAttr K C_Expression "letters") (n_Expression_rows : NoAttr K C_Expression "rows") (n_Expression_text : NoAttr K C_Expression "text") (n_Expression_depth : NoAttr K C_Expression "depth") : FnOk P w K mg base (L2N.CX P w) (4) f fd ["self", "letters", "rows"] (spOf K (spExInit C_Expression)) := by
  refine fn2 F sc_Expression___init__ (by decide +kernel) (fun rs m Kr Ke ⟨_, _, _, _, _, _, e, _⟩ => by rw [e]; rfl) fun X c rs m Kr Ke D L hx ⟨s, dx, l, rows, ra, mr, er, hra, hl, hsh, hf, h0, em, hk⟩ => ?_
  subst er em
  have e_check_letters : Callee X "check_letters" 3 (spCheckLetters C_BadLetters) := D.callee c_check_letters
  have ed_checked_rows : CalleeD X.prog X.w X.K X.mg X.base "checked_rows" 3 [D2.rI 40000] spCheckedRows := by rw [D.prog, D.w, D.K, D.mg, D.base]; exact cd_checked_rows
  have m_dict : X.mg "dict" = none := D.mg_ m0_dict
  have u_SHAPES : DicG X.K X.w X.mg "SHAPES" (NC.shapesX) := by rw [D.K, D.w, D.mg]; exact t_SHAPES
  have e_sheet_text : Callee X "sheet_text" 1 spSheetText := D.callee c_sheet_text
  have e_split_depths : Callee X "split_depths" 1 spSplitDepths := D.callee c_split_depths
  have kk_Expression : Cls X.K C_Expression := D.cls k_Expression
  have nn_Expression_letters : NoAttr X.K C_Expression "letters" := D.noat n_Expression_letters
  have nn_Expression_rows : NoAttr X.K C_Expression "rows" := D.noat n_Expression_rows
  have nn_Expression_text : NoAttr X.K C_Expression "text" := D.noat n_Expression_text
  have nn_Expression_depth : NoAttr X.K C_Expression "depth" := D.noat n_Expression_depth
  have g_check_letters : Gl X "check_letters" := D.gl (by decide +kernel)
  have g_checked_rows : Gl X "checked_rows" := D.gl (by decide +kernel)
  have g_dict : Gl X "dict" := D.gl (by decide +kernel)
  have g_SHAPES : Gl X "SHAPES" := D.gl (by decide +kernel)
  have g_sheet_text : Gl X "sheet_text" := D.gl (by decide +kernel)
  have g_split_depths : Gl X "split_depths" := D.gl (by decide +kernel)
  refine dss_lo ?_
  show DSs X c [("self", some (.own s)), ("letters", some (rS l)), ("rows", some (ra))] ((s, .ins C_Expression dx []) :: mr) (_ :: _) _
  have hll := (alph_len hl).2.1
  have hfl := hf.1
  have hsm : Small rows := ⟨by omega, fun r hr => by have := hf.2 r hr; omega⟩
  cases hra with
  | @own q _ =>
    ktf_call "d2"
    refine ⟨[], _, .nil, l, rfl, rfl, fun h => absurd hl h, fun _ => ?_⟩
    dsimp only [List.nil_append, List.cons_append]
    ktf_call "d2"
    refine ⟨_, _, _, _, rfl, by ktf_call "chg", Nat.lt_of_le_of_lt (Nat.le_refl 0) (by decide), ?_⟩
    show DSs _ _ _ [(s, .ins C_Expression dx [(("letters" : Str), rS l)]), (q, .lst (rowsR rows))] _ _
    refine dss_cons ?_
    refine ds_fld (by assumption) (by assumption) ?_
    refine de_callD (by assumption) (by assumption) (by ktf_call "gl") ?_ (hjk := by omega)
    refine da_cons (de_name (by ktf_call "lk") (da_cons (de_name (by ktf_call "lk") (da_cons ?_))))
    refine de_frzK ?_
    ktf_call "d2"
    rename_i p0
    refine ⟨_, shD shapesX, _, rfl, by rw [kvT_shD]; exact .here, ?_⟩
    refine da_nil ⟨[(q, .lst (rowsR rows))], [(s, .ins C_Expression dx [(("letters" : Str), rS l)])], .cons (.there .here) .nil, rows, shapesX, l, _, _, 40000, rfl, .own, hsh, hsm, h0, by omega, rfl, ?_⟩
    dsimp only [List.nil_append, List.cons_append]
    ktf_call "d2"
    refine ⟨_, _, _, _, rfl, by ktf_call "chg", Nat.lt_of_le_of_lt (Nat.le_refl 1) (by decide), ?_⟩
    show DSs _ _ _ [(q, .lst (rowsR rows)), (s, .ins C_Expression dx [(("letters" : Str), rS l), ("rows", .dat (.tup (rowsD rows)))])] _ _
    ktf_call "d2"
    refine ⟨[], _, .nil, rows, l, rfl, hll, hf, rfl, ?_⟩
    dsimp only [List.nil_append, List.cons_append]
    ktf_call "d2"
    refine ⟨_, _, _, _, rfl, by ktf_call "chg", Nat.lt_of_le_of_lt (Nat.le_refl 2) (by decide), ?_⟩
    show DSs _ _ _ [(q, .lst (rowsR rows)), (s, .ins C_Expression dx [(("letters" : Str), rS l), ("rows", .dat (.tup (rowsD rows))), ("text", rS (sheetT l rows))])] _ _
    ktf_call "d2"
    refine ⟨[], _, .nil, rows, rfl, hsh.back, hf, rfl, fun p => ?_⟩
    dsimp only [List.nil_append, List.cons_append]
    ktf_call "d2"
    have hdl : (depthsX rows).length = rows.length := depthsX_len rows
    have hat : atI (nR (depthsX rows)) (-1) = some (D2.rI ((depthsX rows).getD (rows.length - 1) 0 : Nat)) := ati_m1 (by rw [List.length_map, List.length_map]; omega) (by rw [List.length_map, List.length_map, List.getElem?_map, List.getElem?_map, hdl, List.getD_eq_getElem?_getD, List.getElem?_eq_getElem (show rows.length - 1 < (depthsX rows).length by omega)]; rfl)
    refine x_lst (.own .here) hat ?_
    refine de_name (by ktf_call "lk") ?_
    refine ⟨_, _, _, _, rfl, by ktf_call "chg", Nat.lt_of_le_of_lt (Nat.le_refl 3) (by decide), ?_⟩
    refine dss_in (m' := [(q, .lst (rowsR rows)), (s, .ins C_Expression dx (exR l rows))]) ?_ (Fog.refl _) (List.Sublist.cons _ (List.Sublist.refl _))
    refine dss_perm (List.Perm.swap _ _ _) ?_
    ktf_call "d2"
    exact ⟨_, _, Fog.refl _, List.Sublist.refl _, hk⟩
  | tup =>
    ktf_call "d2"
    refine ⟨[], _, .nil, l, rfl, rfl, fun h => absurd hl h, fun _ => ?_⟩
    dsimp only [List.nil_append, List.cons_append]
    ktf_call "d2"
    refine ⟨_, _, _, _, rfl, by ktf_call "chg", Nat.lt_of_le_of_lt (Nat.le_refl 0) (by decide), ?_⟩
    show DSs _ _ _ [(s, .ins C_Expression dx [(("letters" : Str), rS l)])] _ _
    refine dss_cons ?_
    refine ds_fld (by assumption) (by assumption) ?_
    refine de_callD (by assumption) (by assumption) (by ktf_call "gl") ?_ (hjk := by omega)
    refine da_cons (de_name (by ktf_call "lk") (da_cons (de_name (by ktf_call "lk") (da_cons ?_))))
    refine de_frzK ?_
    ktf_call "d2"
    rename_i p0
    refine ⟨_, shD shapesX, _, rfl, by rw [kvT_shD]; exact .here, ?_⟩
    refine da_nil ⟨[], [(s, .ins C_Expression dx [(("letters" : Str), rS l)])], .nil, rows, shapesX, l, _, _, 40000, rfl, .tup, hsh, hsm, h0, by omega, rfl, ?_⟩
    dsimp only [List.nil_append, List.cons_append]
    ktf_call "d2"
    refine ⟨_, _, _, _, rfl, by ktf_call "chg", Nat.lt_of_le_of_lt (Nat.le_refl 1) (by decide), ?_⟩
    show DSs _ _ _ [(s, .ins C_Expression dx [(("letters" : Str), rS l), ("rows", .dat (.tup (rowsD rows)))])] _ _
    ktf_call "d2"
    refine ⟨[], _, .nil, rows, l, rfl, hll, hf, rfl, ?_⟩
    dsimp only [List.nil_append, List.cons_append]
    ktf_call "d2"
    refine ⟨_, _, _, _, rfl, by ktf_call "chg", Nat.lt_of_le_of_lt (Nat.le_refl 2) (by decide), ?_⟩
    show DSs _ _ _ [(s, .ins C_Expression dx [(("letters" : Str), rS l), ("rows", .dat (.tup (rowsD rows))), ("text", rS (sheetT l rows))])] _ _
    ktf_call "d2"
    refine ⟨[], _, .nil, rows, rfl, hsh.back, hf, rfl, fun p => ?_⟩
    dsimp only [List.nil_append, List.cons_append]
    ktf_call "d2"
    have hdl : (depthsX rows).length = rows.length := depthsX_len rows
    have hat : atI (nR (depthsX rows)) (-1) = some (D2.rI ((depthsX rows).getD (rows.length - 1) 0 : Nat)) := ati_m1 (by rw [List.length_map, List.length_map]; omega) (by rw [List.length_map, List.length_map, List.getElem?_map, List.getElem?_map, hdl, List.getD_eq_getElem?_getD, List.getElem?_eq_getElem (show rows.length - 1 < (depthsX rows).length by omega)]; rfl)
    refine x_lst (.own .here) hat ?_
    refine de_name (by ktf_call "lk") ?_
    refine ⟨_, _, _, _, rfl, by ktf_call "chg", Nat.lt_of_le_of_lt (Nat.le_refl 3) (by decide), ?_⟩
    refine dss_in (m' := [(s, .ins C_Expression dx (exR l rows))]) ?_ (Fog.refl _) (List.Sublist.cons _ (List.Sublist.refl _))
    ktf_call "d2"
    exact ⟨_, _, Fog.refl _, List.Sublist.refl _, hk⟩
end
end
/-! ## NSz -/
section
set_option pp.maxSteps 1500
/-! expressions: gap_bits, holds, stretches -/
local macro_rules | `(tactic| ktf_call "s") => `(tactic| ((with_reducible show DSs _ _ _ _ (Stmt.If _ _ _ _ :: _) _); refine held ?_))
local macro_rules | `(tactic| ktf_call "k") => `(tactic| ((with_reducible show (_ = true → _) ∧ (_ = false → _)); refine ⟨fun hyp => ?_, fun hyp => ?_⟩ <;> (try simp only [decide_eq_true_eq, decide_eq_false_iff_not, Bool.not_eq_true', Bool.not_eq_false', Bool.not_true, Bool.not_false, Bool.true_eq_false, Bool.false_eq_true, Int.not_lt, Int.not_le, nil_len, Nat.pos_iff_ne_zero.symm, not_true_eq_false] at hyp)))
local macro_rules | `(tactic| ktf_call "k") => `(tactic| ((with_reducible show (_ = false → _) ∧ (_ = true → _)); refine ⟨fun hyp => ?_, fun hyp => ?_⟩ <;> (try simp only [decide_eq_true_eq, decide_eq_false_iff_not, Bool.not_eq_true', Bool.not_eq_false', Bool.not_true, Bool.not_false, Bool.true_eq_false, Bool.false_eq_true, Int.not_lt, Int.not_le, nil_len, Nat.pos_iff_ne_zero.symm, not_true_eq_false] at hyp)))
local macro_rules | `(tactic| ktf_call "go") => `(tactic| (refine Held.of ?_; refine dss_cons ?_; refine ds_if ?_; ktf_call "d2"))
local macro_rules | `(tactic| ktf_call "o") => `(tactic| first
  | ((with_reducible refine' o_shrN ?kk))
  | ((with_reducible refine' o_andN ?kk)))
/-- the bits of a gap -/
def GapOk (n : Nat) (t : List Nat → Bool) (v : List Nat) (bs : List Nat) : Prop := bs.length = n + 1 ∧ ∀ g, g ≤ n → ∀ h, (bs.getD g 0).testBit h = (decide (g ≤ h) && decide (h ≤ n) && str v t g h)
def gapL (t w k : Nat) : List Nat := (List.range k).map fun g => t >>> (w * g) &&& (2 ^ w - 1)
theorem gapL_succ (t w k : Nat) : gapL t w (k + 1) = gapL t w k ++ [t >>> (w * k) &&& (2 ^ w - 1)] := by
  unfold gapL
  rw [List.range_succ, List.map_append]; rfl
theorem gapL_ok {v : List Nat} {t : Nat} {p : List Nat → Bool} (ht : Mat v.length t (str v p)) : GapOk v.length p v (gapL t (v.length + 1) (v.length + 1)) := by
  refine ⟨by simp [gapL], fun g hg h => ?_⟩
  have e : (gapL t (v.length + 1) (v.length + 1)).getD g 0 = t >>> ((v.length + 1) * g) &&& (2 ^ (v.length + 1) - 1) := by
    unfold gapL
    rw [List.getD_eq_getElem?_getD, List.getElem?_map, List.getElem?_range (by omega)]; rfl
  rw [e, Nat.testBit_and, Nat.testBit_shiftRight, Nat.testBit_two_pow_sub_one]
  by_cases hh : h < v.length + 1
  · obtain ⟨d1, d2⟩ := div_w (w := v.length + 1) (g := g) (h := h) hh
    rw [ht, d1, d2, decide_eq_true hh, decide_eq_true hg, decide_eq_true (show h ≤ v.length by omega)]; simp
  · rw [decide_eq_false hh, decide_eq_false (show ¬ h ≤ v.length by omega)]; simp
local macro_rules | `(tactic| ktf_call "e") => `(tactic| ((with_reducible show DE _ _ _ _ (.Call (.Name "check_word" _) [_, _] [] _) _); refine de_callD (by assumption) (by assumption) (by ktf_call "gl") ?_ (hjk := by omega)))
/-- the word is examined -/
structure WdEn (n : Nat) (CW CL : Addr) (Ke : Addr → List (Str × D2.D) → Mem → Prop) (l v : List Nat) : Prop where
  word : ¬ InL l v → Ke CW [("word", .str v)] []
  large : InL l v → n < v.length → Ke CL [("many", .int v.length)] []
section
variable {P : Program} {w : World} {K : PySem.W.Frag} {mg : Str → Option Value} {base : Heap} {f : Addr} {fd : FuncData}
def spGapBits (CX : Addr) : Sp2 := fun rs m Kr Ke => ∃ (l : List Nat) (xs : List XR) (d : Nat) (v : List Nat), rs = [.dat (exD CX l xs d), rS v] ∧ ExOk l xs ∧ v.length ≤ 60 ∧ m = [] ∧ ∀ p bs, GapOk v.length (xv xs (xs.length - 1)) v bs → Kr (.own p) [(p, .lst (nR bs))]
theorem sc_gap_bits : FnScope ["expression", "word", "width", "bits", "gap"] ["expression", "word"] (defScope (top 51)) := ⟨rfl, rfl, rfl, by decide +kernel, rfl, by decide +kernel, by decide +kernel⟩
theorem ok_gapBits {C_Expression : Addr} (F : FunD K "gap_bits" "gap_bits" (defArgs (top 51)) (defBody (top 51)) (defScope (top 51)) [] [] f fd) (m0_len : mg "len" = none) (c_stretch_bits : CalleeG P w K mg base "stretch_bits" 3 (spStretchBits C_Expression)) (m0_range : mg "range" = none) : FnOk P w K mg base (L2N.CX P w) (4) f fd ["expression", "word"] (spOf K (spGapBits C_Expression)) := by
  refine fn2 F sc_gap_bits (by decide +kernel) (fun rs m Kr Ke ⟨_, _, _, _, e, _⟩ => by rw [e]; rfl) fun X c rs m Kr Ke D L hx ⟨l, xs, d, v, er, ok, hv, em, hk⟩ => ?_
  subst er em
  have m_len : X.mg "len" = none := D.mg_ m0_len
  have e_stretch_bits : Callee X "stretch_bits" 3 (spStretchBits C_Expression) := D.callee c_stretch_bits
  have m_range : X.mg "range" = none := D.mg_ m0_range
  have g_len : Gl X "len" := D.gl (by decide +kernel)
  have g_stretch_bits : Gl X "stretch_bits" := D.gl (by decide +kernel)
  have g_range : Gl X "range" := D.gl (by decide +kernel)
  have o_width : Own X "width" := D.own (by decide +kernel)
  have o_bits : Own X "bits" := D.own (by decide +kernel)
  refine dss_lo ?_
  show DSs X c [("expression", some (.dat (exD C_Expression l xs d))), ("word", some (rS v)), ("width", none), ("bits", none), ("gap", none)] [] (_ :: _) _
  have e1 : ((v.length : Nat) : Int) + 1 = ((v.length + 1 : Nat) : Int) := by omega
  ktf_call "d2"
  refine ⟨[], _, .nil, l, xs, d, v, rfl, ok, hv, rfl, fun t ht => ?_⟩
  dsimp only [List.nil_append, List.cons_append]
  ktf_call "d2"
  rw [e1]
  refine de_lc (own := [("gap", 4)]) (ds := ups 0 (v.length + 1)) (fun i rs m => rs = nR (gapL t (v.length + 1) i) ∧ m = []) L (D.nd (by decide +kernel)) (blk_ok D (by decide +kernel)) (by decide +kernel) (by ktf_call "blk") (.name (by ktf_call "put") List.mem_cons_self) (it_rng1 (by ktf_call "gl") (by ktf_call "mg") ?_) ?_ ?_ ?_
  · ktf_call "d2"
    exact ⟨by omega, by omega, by rw [Int.toNat_natCast], rfl, rfl⟩
  · rintro i d rs m' hd ⟨rfl, rfl⟩
    obtain ⟨hi, rfl⟩ := ups_at hd
    rw [show (0 : Int) + (i : Int) = (i : Int) by omega]
    have e2 : ((2 ^ (v.length + 1) : Nat) : Int) - 1 = ((2 ^ (v.length + 1) - 1 : Nat) : Int) := by
      have := Nat.two_pow_pos (v.length + 1)
      generalize 2 ^ (v.length + 1) = x at this
      omega
    refine turn0 fun Xe c' hX hL => ?_
    ktf_call "d2"
    rw [← Int.natCast_mul]
    ktf_call "d2"
    refine o_shl1 (by omega) ?_
    ktf_call "d2"
    rw [e2]
    ktf_call "d2"
    exact ⟨by rw [gapL_succ, ← nR_snoc], rfl⟩
  · rw [ups_len]; omega
  rintro rs m' q ⟨rfl, rfl⟩
  rw [ups_len]
  exact ⟨_, List.Sublist.refl _, hk q _ (gapL_ok ht)⟩
def spHolds (CX CW CL : Addr) : Sp2 := fun rs m Kr Ke => ∃ (l : List Nat) (xs : List XR) (d : Nat) (v : List Nat), rs = [.dat (exD CX l xs d), rS v] ∧ l ∈ alphabets ∧ ExOk l xs ∧ v.length ≤ 1000 ∧ m = [] ∧ WdEn 60 CW CL Ke l v ∧ (InL l v → v.length ≤ 60 → Kr (rB (xv xs (xs.length - 1) v)) [])
theorem sc_holds : FnScope ["expression", "word"] ["expression", "word"] (defScope (top 53)) := ⟨rfl, rfl, rfl, by decide +kernel, rfl, by decide +kernel, by decide +kernel⟩
theorem ok_holds {C_BadLetters C_BadWord C_TooLarge C_Expression : Addr} (F : FunD K "holds" "holds" (defArgs (top 53)) (defBody (top 53)) (defScope (top 53)) [] [] f fd) (cd_check_word : CalleeD P w K mg base "check_word" 4 [D2.rI 60] (spCheckWord C_BadLetters C_BadWord C_TooLarge)) (c_expression_truth : CalleeG P w K mg base "expression_truth" 4 (spExTruth C_Expression)) (k_Expression : Cls K C_Expression) (n_Expression_letters : NoAttr K C_Expression "letters") : FnOk P w K mg base (L2N.CX P w) (5) f fd ["expression", "word"] (spOf K (spHolds C_Expression C_BadWord C_TooLarge)) := by
  refine fn2 F sc_holds (by decide +kernel) (fun rs m Kr Ke ⟨_, _, _, _, e, _⟩ => by rw [e]; rfl) fun X c rs m Kr Ke D L hx ⟨l, xs, d, v, er, hl, ok, hv, em, hE, hk⟩ => ?_
  subst er em
  have ed_check_word : CalleeD X.prog X.w X.K X.mg X.base "check_word" 4 [D2.rI 60] (spCheckWord C_BadLetters C_BadWord C_TooLarge) := by rw [D.prog, D.w, D.K, D.mg, D.base]; exact cd_check_word
  have e_expression_truth : Callee X "expression_truth" 4 (spExTruth C_Expression) := D.callee c_expression_truth
  have kk_Expression : Cls X.K C_Expression := D.cls k_Expression
  have nn_Expression_letters : NoAttr X.K C_Expression "letters" := D.noat n_Expression_letters
  have g_check_word : Gl X "check_word" := D.gl (by decide +kernel)
  have g_expression_truth : Gl X "expression_truth" := D.gl (by decide +kernel)
  refine dss_lo ?_
  show DSs X c [("expression", some (.dat (exD C_Expression l xs d))), ("word", some (rS v))] [] (_ :: _) _
  ktf_call "d2"
  refine ⟨[], _, .nil, l, v, 60, rfl, by omega, rfl, fun h => absurd hl h, fun _ h => hx _ _ _ _ (hE.word h), fun _ h1 h2 => hx _ _ _ _ (hE.large h1 (by omega)), fun _ h1 h2 => ?_⟩
  dsimp only [List.nil_append, List.cons_append]
  ktf_call "d2"
  exact ⟨[], _, .nil, l, xs, d, v, rfl, ok, by omega, rfl, _, sub_nil, hk h1 (by omega)⟩
end
end
/-! ## NSs -/
section
set_option pp.maxSteps 1500
/-! expressions: stretches -/
local macro_rules | `(tactic| ktf_call "s") => `(tactic| ((with_reducible show DSs _ _ _ _ (Stmt.If _ _ _ _ :: _) _); refine held ?_))
local macro_rules | `(tactic| ktf_call "k") => `(tactic| ((with_reducible show (_ = true → _) ∧ (_ = false → _)); refine ⟨fun hyp => ?_, fun hyp => ?_⟩ <;> (try simp only [decide_eq_true_eq, decide_eq_false_iff_not, Bool.not_eq_true', Bool.not_eq_false', Bool.not_true, Bool.not_false, Bool.true_eq_false, Bool.false_eq_true, Int.not_lt, Int.not_le, nil_len, Nat.pos_iff_ne_zero.symm, not_true_eq_false] at hyp)))
local macro_rules | `(tactic| ktf_call "k") => `(tactic| ((with_reducible show (_ = false → _) ∧ (_ = true → _)); refine ⟨fun hyp => ?_, fun hyp => ?_⟩ <;> (try simp only [decide_eq_true_eq, decide_eq_false_iff_not, Bool.not_eq_true', Bool.not_eq_false', Bool.not_true, Bool.not_false, Bool.true_eq_false, Bool.false_eq_true, Int.not_lt, Int.not_le, nil_len, Nat.pos_iff_ne_zero.symm, not_true_eq_false] at hyp)))
local macro_rules | `(tactic| ktf_call "go") => `(tactic| (refine Held.of ?_; refine dss_cons ?_; refine ds_if ?_; ktf_call "d2"))
local macro_rules | `(tactic| ktf_call "o") => `(tactic| first
  | ((with_reducible refine' o_shrN ?kk))
  | ((with_reducible refine' o_andN ?kk)))
abbrev tG (x : Nat × Nat) : D2.D := .tup [.int (x.1 : Int), .int (x.2 : Int)]
/-- the pairs of gap g up to gap g + k -/
def pairsAt (n : Nat) (p : List Nat → Bool) (v : List Nat) (g k : Nat) : List (Nat × Nat) := (List.range k).filterMap fun j => if str v p g (g + j) then some (g, g + j) else none
def pairsL (n : Nat) (p : List Nat → Bool) (v : List Nat) (k : Nat) : List (Nat × Nat) := (List.range k).flatMap fun g => pairsAt n p v g (n + 1 - g)
theorem pairsAt_succ (n : Nat) (p : List Nat → Bool) (v : List Nat) (g k : Nat) : pairsAt n p v g (k + 1) = pairsAt n p v g k ++ if str v p g (g + k) then [(g, g + k)] else [] := by
  unfold pairsAt
  rw [List.range_succ, List.filterMap_append]
  by_cases h : str v p g (g + k) = true
  · rw [if_pos h]; simp [h]
  · rw [if_neg h]; simp [h]
theorem pairsL_succ (n : Nat) (p : List Nat → Bool) (v : List Nat) (k : Nat) : pairsL n p v (k + 1) = pairsL n p v k ++ pairsAt n p v k (n + 1 - k) := by
  unfold pairsL
  rw [List.range_succ, List.flatMap_append]; simp
theorem pairsAt_len (n : Nat) (p : List Nat → Bool) (v : List Nat) (g k : Nat) : (pairsAt n p v g k).length ≤ k := by
  have := List.length_filterMap_le (fun j => if str v p g (g + j) then some (g, g + j) else none) (List.range k)
  rwa [List.length_range] at this
theorem pairsL_len (n : Nat) (p : List Nat → Bool) (v : List Nat) : ∀ k, (pairsL n p v k).length ≤ k * (n + 1)
  | 0 => by simp [pairsL]
  | k + 1 => by
    rw [pairsL_succ, List.length_append, Nat.succ_mul]
    have h1 := pairsL_len n p v k
    have h2 := pairsAt_len n p v k (n + 1 - k)
    omega
section
variable {P : Program} {w : World} {K : PySem.W.Frag} {mg : Str → Option Value} {base : Heap} {f : Addr} {fd : FuncData}
def spStretches (CX CW CL : Addr) : Sp2 := fun rs m Kr Ke => ∃ (l : List Nat) (xs : List XR) (d : Nat) (v : List Nat), rs = [.dat (exD CX l xs d), rS v] ∧ l ∈ alphabets ∧ ExOk l xs ∧ v.length ≤ 1000 ∧ m = [] ∧ WdEn 30 CW CL Ke l v ∧ (InL l v → v.length ≤ 30 → ∀ p, Kr (.own p) [(p, .lst ((pairsL v.length (xv xs (xs.length - 1)) v (v.length + 1)).map fun x => R.dat (tG x)))])
theorem sc_stretches : FnScope ["expression", "word", "found", "g", "h"] ["expression", "word"] (defScope (top 54)) := ⟨rfl, rfl, rfl, by decide +kernel, rfl, by decide +kernel, by decide +kernel⟩
theorem ok_stretches {C_BadLetters C_BadWord C_TooLarge C_Expression : Addr} (F : FunD K "stretches" "stretches" (defArgs (top 54)) (defBody (top 54)) (defScope (top 54)) [] [] f fd) (ck_check_word : CalleeK P w K mg base "check_word" 4 2 ["most"] (fun rs zs => rs ++ zs) (spCheckWord C_BadLetters C_BadWord C_TooLarge)) (t_MOST : IntG mg "MOST" 30) (c_gap_bits : CalleeG P w K mg base "gap_bits" 4 (spGapBits C_Expression)) (m0_range : mg "range" = none) (m0_len : mg "len" = none) (k_Expression : Cls K C_Expression) (n_Expression_letters : NoAttr K C_Expression "letters") : FnOk P w K mg base (L2N.CX P w) (5) f fd ["expression", "word"] (spOf K (spStretches C_Expression C_BadWord C_TooLarge)) := by
  refine fn2 F sc_stretches (by decide +kernel) (fun rs m Kr Ke ⟨_, _, _, _, e, _⟩ => by rw [e]; rfl) fun X c rs m Kr Ke D L hx ⟨l, xs, d, v, er, hl, ok, hv, em, hE, hk⟩ => ?_
  subst er em
  have ek_check_word : CalleeK X.prog X.w X.K X.mg X.base "check_word" 4 2 ["most"] (fun rs zs => rs ++ zs) (spCheckWord C_BadLetters C_BadWord C_TooLarge) := by rw [D.prog, D.w, D.K, D.mg, D.base]; exact ck_check_word
  have u_MOST : IntG X.mg "MOST" 30 := by rw [D.mg]; exact t_MOST
  have e_gap_bits : Callee X "gap_bits" 4 (spGapBits C_Expression) := D.callee c_gap_bits
  have m_range : X.mg "range" = none := D.mg_ m0_range
  have m_len : X.mg "len" = none := D.mg_ m0_len
  have kk_Expression : Cls X.K C_Expression := D.cls k_Expression
  have nn_Expression_letters : NoAttr X.K C_Expression "letters" := D.noat n_Expression_letters
  have g_check_word : Gl X "check_word" := D.gl (by decide +kernel)
  have g_MOST : Gl X "MOST" := D.gl (by decide +kernel)
  have g_gap_bits : Gl X "gap_bits" := D.gl (by decide +kernel)
  have g_range : Gl X "range" := D.gl (by decide +kernel)
  have g_len : Gl X "len" := D.gl (by decide +kernel)
  have o_found : Own X "found" := D.own (by decide +kernel)
  refine dss_lo ?_
  show DSs X c [("expression", some (.dat (exD C_Expression l xs d))), ("word", some (rS v)), ("found", none), ("g", none), ("h", none)] [] (_ :: _) _
  ktf_call "d2"
  refine ⟨rfl, rfl, [], _, .nil, l, v, 30, rfl, by omega, rfl, fun h => absurd hl h, fun _ h => hx _ _ _ _ (hE.word h), fun _ h1 h2 => hx _ _ _ _ (hE.large h1 (by omega)), fun _ h1 h2 => ?_⟩
  dsimp only [List.nil_append, List.cons_append]
  ktf_call "d2"
  refine ⟨[], _, .nil, l, xs, d, v, rfl, ok, by omega, rfl, fun q bs hb => ?_⟩
  dsimp only [List.nil_append, List.cons_append]
  have hbl := hb.1
  have hLen : ((nI bs).length : Int) = ((v.length + 1 : Nat) : Int) := by rw [nI_len, hbl]
  ktf_call "d2"
  refine de_lc2 (own := [("g", 3), ("h", 4)]) (y1 := "h") (j1 := 4) (ds := ups 0 (v.length + 1)) (fun i rs m => rs = (pairsL v.length (xv xs (xs.length - 1)) v i).map (fun x => R.dat (tG x)) ∧ m = [(q, .lst (nR bs))]) L (D.nd (by decide +kernel)) (blk_ok D (by decide +kernel)) (by decide +kernel) (by ktf_call "blk") (.name (by ktf_call "put") List.mem_cons_self) (by decide) (it_rng1 (by ktf_call "gl") (by ktf_call "mg") ?_) ?_ ?_
  · ktf_call "d2"
    rw [hLen]
    exact ⟨by omega, by omega, by rw [Int.toNat_natCast], rfl, rfl⟩
  · rintro i d rs m' hd ⟨rfl, rfl⟩
    obtain ⟨hi, rfl⟩ := ups_at hd
    rw [show (0 : Int) + (i : Int) = (i : Int) by omega]
    refine fun Xb c' hX hL => ⟨fun _ => ?_, fun h => by cases h⟩
    refine ⟨_, ups (i : Int) (v.length + 1 - i), fun jj rs' m' => rs' = (pairsL v.length (xv xs (xs.length - 1)) v i).map (fun x => R.dat (tG x)) ++ (pairsAt v.length (xv xs (xs.length - 1)) v i jj).map (fun x => R.dat (tG x)) ∧ m' = [(q, .lst (nR bs))] ∧ jj ≤ v.length + 1, by ktf_call "put", rfl, ?_, ?_, ?_, ?_⟩
    · intro Xb c' hX hL
      refine it_rng2 (by ktf_call "gl") (by ktf_call "mg") ?_
      ktf_call "d2"
      rw [hLen]
      exact ⟨⟨by omega, by omega, by omega, by omega⟩, by rw [show (((v.length + 1 : Nat) : Int) - (i : Int)).toNat = v.length + 1 - i by omega], by simp [pairsAt], rfl, by omega⟩
    · rintro jj d1 rs' m' hd1 ⟨rfl, rfl, hjl⟩ Xb c' hX hL
      obtain ⟨hjj, rfl⟩ := ups_at hd1
      show DT _ _ _ _ _ _
      ktf_call "d2"
      rw [Int.toNat_natCast, nI_at, show (i : Int) + (jj : Int) = ((i + jj : Nat) : Int) by omega]
      ktf_call "d2"
      refine o_andN (b := 1) ?_
      have hbit := bit_one (bs.getD i 0) (i + jj)
      rw [hb.2 i (by omega) (i + jj), decide_eq_true (show i ≤ i + jj by omega), decide_eq_true (show i + jj ≤ v.length by omega), Bool.true_and, Bool.true_and] at hbit
      ktf_call "d2"
      · rename_i h3
        rw [decide_eq_true h3] at hbit
        intro Xe hX2 hL2
        ktf_call "d2"
        refine ⟨?_, rfl, by omega⟩
        rw [pairsAt_succ, if_pos hbit.symm, List.map_append, ← List.append_assoc]; rfl
      · rename_i h3
        rw [decide_eq_false h3] at hbit
        refine ⟨?_, rfl, by omega⟩
        rw [pairsAt_succ, if_neg (by rw [← hbit]; exact Bool.false_ne_true), List.append_nil]
    · rintro jj rs' m' ⟨rfl, rfl, hjl⟩
      have h3 := pairsL_len v.length (xv xs (xs.length - 1)) v i
      have h4 := pairsAt_len v.length (xv xs (xs.length - 1)) v i jj
      have h5 : i * (v.length + 1) ≤ 31 * 31 := Nat.mul_le_mul (by omega) (by omega)
      rw [List.length_append, List.length_map, List.length_map]
      omega
    · rintro rs' m' ⟨rfl, rfl, _⟩
      rw [ups_len]
      exact ⟨by rw [pairsL_succ, List.map_append], rfl⟩
  · rintro rs m' p ⟨rfl, rfl⟩
    rw [ups_len]
    exact ⟨_, .cons₂ _ (.cons _ .slnil), hk h1 (by omega) p⟩
end
end
/-! ## NPoolD -/
section
set_option pp.maxSteps 1500
/-! the pool of draws, the fourth kind: cells, small cells, place, what is left, digits -/
abbrev poolO (cells small : List Int) (a b n : Int) : O := .lst [.dat (.lst (dI cells)), .dat (.lst (dI small)), rI a, rI b, rI n]
def Pl (o : O) : Prop := ∃ cells small a b n, 0 ≤ a ∧ 0 < small.length ∧ small.length ≤ 1000 ∧ o = poolO cells small a b n
theorem Pl.mk {cells small : List Int} {a b n : Int} (h : 0 ≤ a) (hs : 0 < small.length) (hs2 : small.length ≤ 1000) : Pl (poolO cells small a b n) := ⟨_, _, _, _, _, h, hs, hs2, rfl⟩
def spMixed : Sp2 := fun rs m Kr Ke => ∃ (small : List Int) (a : Int), rs = [.dat (.lst (dI small)), rI a] ∧ 0 ≤ a ∧ 0 < small.length ∧ small.length ≤ 1000 ∧ m = [] ∧ ∀ v, Kr (rI v) []
def spDraw : Sp2 := fun rs m Kr Ke => ∃ (p : Addr) (o : O) (size : Int), rs = [.own p, rI size] ∧ m = [(p, o)] ∧ Pl o ∧ 0 < size ∧ size.natAbs.log2 < 9000 ∧ ∀ d o', 0 ≤ d → d < size → Pl o' → Kr (rI d) [(p, o')]
local macro_rules | `(tactic| ktf_call "k") => `(tactic| ((with_reducible refine' Exists.intro _ (And.intro ?cv ?_)); (case cv => ktf_call "vi")))
local macro_rules | `(tactic| ktf_call "sp") => `(tactic| first | ktf_call "sp_cell" | fail "sp")
local macro_rules | `(tactic| ktf_call "sp_cell") => `(tactic| (with_reducible refine ⟨[], _, Split.nil, (show spMixed _ _ _ _ from ?_)⟩); unfold spMixed; refine ⟨_, _, rfl, by ktf_call "side", by assumption, by assumption, rfl, fun v => ?_⟩; dsimp only [List.nil_append])
section
variable {P : Program} {w : World} {K : PySem.W.Frag} {mg : Str → Option Value} {base : Heap} {f : Addr} {fd : FuncData}
theorem sc__law_mixed : FnScope ["small", "at", "cell", "once"] ["small", "at"] (defScope (top 61)) := ⟨rfl, rfl, rfl, by decide +kernel, rfl, by decide +kernel, by decide +kernel⟩
theorem ok_mixed (F : FunD K "_law_mixed" "_law_mixed" (defArgs (top 61)) (defBody (top 61)) (defScope (top 61)) [] [] f fd) (m0_int : mg "int" = none) (m0_len : mg "len" = none) : FnOk P w K mg base (L2N.CX P w) (1) f fd ["small", "at"] (spOf K spMixed) := by
  refine fn2 F sc__law_mixed (by decide +kernel) (fun rs m Kr Ke ⟨_, _, e, _⟩ => by rw [e]; rfl) fun X c rs m Kr Ke D L hx ⟨small, a, er, ha, hs, hs2, em, hk⟩ => ?_
  subst er em
  have m_int : X.mg "int" = none := D.mg_ m0_int
  have m_len : X.mg "len" = none := D.mg_ m0_len
  have g_int : Gl X "int" := D.gl (by decide +kernel)
  have g_len : Gl X "len" := D.gl (by decide +kernel)
  have o_cell : Own X "cell" := D.own (by decide +kernel)
  have o_once : Own X "once" := D.own (by decide +kernel)
  refine dss_lo ?_
  show DSs X c [("small", some (.dat (.lst (dI small)))), ("at", some (rI a)), ("cell", none), ("once", none)] [] (_ :: _) _
  ktf_call "d2"
  all_goals exact ⟨[], sub_nil, hk _⟩
theorem sc__law_draw : FnScope ["pool", "many", "at", "digit"] ["pool", "many"] (defScope (top 62)) := ⟨rfl, rfl, rfl, by decide +kernel, rfl, by decide +kernel, by decide +kernel⟩
theorem ok_draw (F : FunD K "_law_draw" "_law_draw" (defArgs (top 62)) (defBody (top 62)) (defScope (top 62)) [] [] f fd) (m0_len : mg "len" = none) (c__law_mixed : CalleeG P w K mg base "_law_mixed" 1 spMixed) (m0_int : mg "int" = none) : FnOk P w K mg base (L2N.CX P w) (2) f fd ["pool", "many"] (spOf K spDraw) := by
  refine fn2 F sc__law_draw (by decide +kernel) (fun rs m Kr Ke ⟨_, _, _, e, _⟩ => by rw [e]; rfl) fun X c rs m Kr Ke D L hx ⟨p, o, size, er, em, ⟨cells, small, a, b, n, ha, hs, hs2, eo⟩, h0, h1, hk⟩ => ?_
  subst er em eo
  have m_len : X.mg "len" = none := D.mg_ m0_len
  have e__law_mixed : Callee X "_law_mixed" 1 spMixed := D.callee c__law_mixed
  have m_int : X.mg "int" = none := D.mg_ m0_int
  have g_len : Gl X "len" := D.gl (by decide +kernel)
  have g__law_mixed : Gl X "_law_mixed" := D.gl (by decide +kernel)
  have g_int : Gl X "int" := D.gl (by decide +kernel)
  have o_at : Own X "at" := D.own (by decide +kernel)
  have o_digit : Own X "digit" := D.own (by decide +kernel)
  refine dss_lo ?_
  show DSs X c [("pool", some (.own p)), ("many", some (rI size)), ("at", none), ("digit", none)] [(p, poolO cells small a b n)] (_ :: _) _
  have hcd : ∀ i, CDivW i size := fun i => ⟨h0, h1⟩
  ktf_call "d2"
  all_goals exact ⟨_, List.Sublist.refl _, hk _ _ (Int.emod_nonneg _ (by omega)) (Int.emod_lt_of_pos _ (by omega)) (Pl.mk (by omega) hs hs2)⟩
local macro_rules | `(tactic| ktf_call "e") => `(tactic| ((with_reducible show DE _ _ _ _ (.BinOp (.Name "small" _) _ _ _) _); refine de_frz (de_bin ?_)))
local macro_rules | `(tactic| ktf_call "e") => `(tactic| ((with_reducible show DE _ _ _ _ (.Call (.Name "int" _) [.Compare _ _ _ _] _ _) _); refine d_intB (by ktf_call "gl") (by ktf_call "mg") ?_))
def spOpen : Sp2 := fun rs m Kr Ke => ∃ ns : List Int, rs = [.dat (.lst (dI ns))] ∧ ns.length ≤ 63 ∧ m = [] ∧ ∀ p o, Pl o → Kr (.own p) [(p, o)]
theorem sc__law_open : FnScope ["script", "cells", "small", "cell"] ["script"] (defScope (top 60)) := ⟨rfl, rfl, rfl, by decide +kernel, rfl, by decide +kernel, by decide +kernel⟩
theorem ok_open (F : FunD K "_law_open" "_law_open" (defArgs (top 60)) (defBody (top 60)) (defScope (top 60)) [] [] f fd) (m0_int : mg "int" = none) (m0_abs : mg "abs" = none) : FnOk P w K mg base (L2N.CX P w) (1) f fd ["script"] (spOf K spOpen) := by
  refine fn2 F sc__law_open (by decide +kernel) (fun rs m Kr Ke ⟨_, e, _⟩ => by rw [e]; rfl) fun X c rs m Kr Ke D L hx ⟨ns, er, hn, em, hk⟩ => ?_
  subst er em
  have m_int : X.mg "int" = none := D.mg_ m0_int
  have m_abs : X.mg "abs" = none := D.mg_ m0_abs
  have g_int : Gl X "int" := D.gl (by decide +kernel)
  have o_cells : Own X "cells" := D.own (by decide +kernel)
  have o_small : Own X "small" := D.own (by decide +kernel)
  refine dss_lo ?_
  show DSs X c [("script", some (.dat (.lst (dI ns)))), ("cells", none), ("small", none), ("cell", none)] [] (_ :: _) _
  ktf_call "d2"
  refine ds_lc (own := [("cell", 3)]) (ds := dI (cutL ns none (some 63))) (fun i rs m => rs = (((cutL ns none (some 63)).take i).map fun z => (z.natAbs : Int)).map D2.rI ∧ m = []) L (D.nd (by decide +kernel)) (by rw [D.sc]; decide +kernel) (by ktf_call "put") (blk_ok D (by decide +kernel)) (by decide +kernel) (by ktf_call "blk") (.name (by ktf_call "put") List.mem_cons_self) (it_list ?_) ?_ ?_ ?_ (sw_d D (by decide +kernel) (by decide +kernel) rfl (by decide +kernel))
  · ktf_call "d2"
    rw [cut_dI]
    exact ⟨_, _, .lst .here (Frzs.map _ _), rfl, rfl, rfl⟩
  · rintro i d rs m' hd ⟨rfl, rfl⟩
    obtain ⟨hi, rfl⟩ := dI_at hd
    refine turn0 fun Xe c' hX hL => ?_
    ktf_call "d2"
    have ea : ∀ z : Int, (if z < 0 then -z else z) = (z.natAbs : Int) := fun z => by split <;> omega
    exact ⟨by rw [take_snoc hi, List.map_append, List.map_append, ea]; rfl, rfl⟩
  · rw [dI_len]
    exact Nat.le_trans (cut_len _ _ _) (by omega)
  · rintro rs m' q ⟨rfl, rfl⟩
    have hcl := cut_len ns none (some 63)
    rw [dI_len, List.take_length]
    have hcl2 : ((cutL ns none (some 63)).map fun z => (z.natAbs : Int)).length ≤ ns.length := by rw [List.length_map]; exact hcl
    clear hcl
    generalize (cutL ns none (some 63)).map (fun z => (z.natAbs : Int)) = cs at hcl2
    refine dss_frzL (x := "cells") (d := .lst (dI cs)) (m' := _) (by ktf_call "lk") (by ktf_call "put") (.lst .here (by rw [show cs.map D2.rI = (dI cs).map R.dat by rw [dI, List.map_map]; rfl]; exact Frzs.map _ _)) ?_
    ktf_call "d2"
    refine ds_lc (own := [("cell", 3)]) (ds := dI cs) (fun i rs m => rs = ((cs.take i).map fun z => z % 2147483647).map D2.rI ∧ m = []) L (D.nd (by decide +kernel)) (by rw [D.sc]; decide +kernel) (by ktf_call "put") (blk_ok D (by decide +kernel)) (by decide +kernel) (by ktf_call "blk") (.name (by ktf_call "put") List.mem_cons_self) (it_list ?_) ?_ ?_ ?_ (sw_d D (by decide +kernel) (by decide +kernel) rfl (by decide +kernel))
    · ktf_call "d2"
      exact ⟨_, _, .dat, rfl, rfl, rfl⟩
    · rintro i d rs m' hd ⟨rfl, rfl⟩
      obtain ⟨hi, rfl⟩ := dI_at hd
      refine turn0 fun Xe c' hX hL => ?_
      ktf_call "d2"
      exact ⟨by rw [take_snoc hi, List.map_append, List.map_append]; rfl, rfl⟩
    · rw [dI_len]; omega
    · rintro rs m' q2 ⟨rfl, rfl⟩
      rw [dI_len, List.take_length]
      have hcl3 : (cs.map fun z => z % 2147483647).length ≤ ns.length := by rw [List.length_map]; exact hcl2
      generalize cs.map (fun z => z % 2147483647) = sm at hcl3
      obtain ⟨k, hk0, hk1, hk2⟩ : ∃ k : Nat, (if decide (sm = []) = true then (1 : Int) else 0) = (k : Int) ∧ k ≤ 1 ∧ 0 < sm.length + k := by
        cases sm with
        | nil => exact ⟨1, rfl, Nat.le_refl _, by simp⟩
        | cons a l => exact ⟨0, rfl, by omega, by simp⟩
      ktf_call "d2"
      rw [hk0]
      refine o_rep (rs := [D2.rI 7130]) (.own (.there .here)) (by omega) (by omega) (by simp; omega) fun p3 => ?_
      refine o_catL (.own (.there (.there (.there .here)))) (.own .here) ?_ fun p4 => ?_
      · simp; omega
      · have e : sm.map D2.rI ++ (List.replicate (k : Int).toNat [D2.rI 7130]).flatten = (dI (sm ++ List.replicate k 7130)).map R.dat := by
          rw [Int.toNat_natCast, List.flatten_replicate_singleton, dI, List.map_map, List.map_append, List.map_replicate]; rfl
        rw [e]
        refine ⟨_, _, .lst .here (Frzs.map _ _), ?_⟩
        ktf_call "d2"
        exact ⟨_, List.Sublist.cons_cons _ (List.nil_sublist _), hk _ _ (Pl.mk (by omega) (by rw [List.length_append, List.length_replicate]; omega) (by rw [List.length_append, List.length_replicate]; omega))⟩
end
end
/-! ## NPickD -/
section
set_option pp.maxSteps 1500
/-! pool of the fourth kind: drawn words -/
theorem sp_draw {m rest : Mem} {p : Addr} {o : O} {size : Int} {Kr : Mem → R → Mem → Prop} {Ke : Mem → Addr → List (Str × D2.D) → Mem → Prop} (hs : Has m p o rest) (ho : Pl o) (h0 : 0 < size) (h1 : size.natAbs.log2 < 9000) (k : ∀ d o', 0 ≤ d → d < size → Pl o' → Kr rest (D2.rI d) [(p, o')]) :
    ∃ mf rest, Split m mf rest ∧ spDraw [.own p, D2.rI size] mf (Kr rest) (Ke rest) := ⟨[(p, o)], rest, .cons hs .nil, p, o, size, rfl, rfl, ho, h0, h1, k⟩
theorem sp_open {m : Mem} {Kr : Mem → R → Mem → Prop} {Ke : Mem → Addr → List (Str × D2.D) → Mem → Prop} {ns : List Int} (h : ns.length ≤ 63) (k : ∀ p o, Pl o → Kr m (.own p) [(p, o)]) : ∃ mf rest, Split m mf rest ∧ spOpen [.dat (.lst (dI ns))] mf (Kr rest) (Ke rest) := ⟨[], m, .nil, ns, rfl, h, rfl, k⟩
local macro_rules | `(tactic| ktf_call "sp") => `(tactic| ((with_reducible refine' sp_draw ?hs ?ho ?h0 ?h1 (fun d o' _ _ _ => ?kk)); (case hs => ktf_call "has"); (case ho => ktf_call "side"); (case h0 => ktf_call "side"); (case h1 => ktf_call "side"); (case' kk => dsimp only [List.nil_append, List.cons_append])))
local macro_rules | `(tactic| ktf_call "side") => `(tactic| exact log_small (by omega) (by omega))
theorem inl_nil (l : List Nat) : InL l [] := fun c h => by cases h
theorem inl_app {l s t : List Nat} (h1 : InL l s) (h2 : InL l t) : InL l (s ++ t) := fun c hc => (List.mem_append.mp hc).elim (h1 c) (h2 c)
theorem inl_one {l : List Nat} {i : Nat} (hi : i < l.length) : InL l [l.getD i 0] := fun c hc => by
  rw [List.mem_singleton.mp hc, List.getD_eq_getElem?_getD, List.getElem?_eq_getElem hi]
  exact List.getElem_mem hi
theorem inl_cut {l s : List Nat} (h : InL l s) {lo hi : Option Int} : InL l (cutL s lo hi) := fun c hc => h c (by
  unfold cutL at hc
  exact List.mem_of_mem_drop (List.mem_of_mem_take hc))
theorem inl_le {l l' s : List Nat} (h : InL l s) (hl : ∀ c ∈ l, c ∈ l') : InL l' s := fun c hc => hl c (h c hc)
theorem ones {ss : List (List Nat)} (h : ∀ s ∈ ss, ∃ ch : Nat, s = [ch]) : (ss.map (·.length)).sum = ss.length ∧ ss.flatten.length = ss.length := by
  induction ss with
  | nil => exact ⟨rfl, rfl⟩
  | cons s ss ih =>
    obtain ⟨ch, e⟩ := h s List.mem_cons_self
    obtain ⟨i1, i2⟩ := ih fun z hz => h z (List.mem_cons_of_mem _ hz)
    subst e
    refine ⟨?_, ?_⟩
    · rw [List.map_cons, List.sum_cons, i1]; simp; omega
    · rw [List.flatten_cons, List.length_append, i2]; simp; omega
/-- the list so far: signs out of l -/
def SgP (l : List Nat) (p : Addr) (i : Nat) (rs : List R) (m : Mem) : Prop := ∃ (ss : List (List Nat)) (o : O), rs = ss.map rS ∧ ss.length = i ∧ (∀ s ∈ ss, ∃ ch, s = [ch] ∧ ch ∈ l) ∧ Pl o ∧ m = [(p, o)]
theorem SgP.snoc {l : List Nat} {p : Addr} {i : Nat} {ss : List (List Nat)} {o : O} {j : Nat} (h1 : ss.length = i) (h2 : ∀ s ∈ ss, ∃ ch, s = [ch] ∧ ch ∈ l) (h3 : Pl o) (hj : j < l.length) : SgP l p (i + 1) (ss.map rS ++ [rS [l.getD j 0]]) [(p, o)] :=
  ⟨ss ++ [[l.getD j 0]], o, by simp, by simp [h1], fun s hs => (List.mem_append.mp hs).elim (h2 s) fun z => ⟨_, List.mem_singleton.mp z, inl_one hj _ (List.mem_singleton_self _)⟩, h3, rfl⟩
theorem SgP.done {l : List Nat} {p q : Addr} {i : Nat} {rs : List R} {m : Mem} (h : SgP l p i rs m) (hi : i ≤ 100000) {Kq : R → Mem → Prop} (k : ∀ s o, s.length = i → InL l s → Pl o → Kq (rS s) ((q, .lst rs) :: [(p, o)])) :
    ∃ ss : List (List Nat), VL ((q, .lst rs) :: m) (.own q) (ss.map rS) ∧ (ss.map (·.length)).sum ≤ 1000000 ∧ Kq (rS ss.flatten) ((q, .lst rs) :: m) := by
  obtain ⟨ss, o, e1, e2, e3, e4, e5⟩ := h
  subst e1 e5
  obtain ⟨o1, o2⟩ := ones fun s hs => (e3 s hs).imp fun _ z => z.1
  refine ⟨ss, .own .here, by omega, k _ o (by omega) (fun ch hc => ?_) e4⟩
  obtain ⟨s, hs, hc⟩ := List.mem_flatten.mp hc
  obtain ⟨c0, e, ha⟩ := e3 s hs
  subst e
  rw [List.mem_singleton.mp hc]; exact ha
section
variable {P : Program} {w : World} {K : PySem.W.Frag} {mg : Str → Option Value} {base : Heap} {f : Addr} {fd : FuncData}
def spPickWord : Sp2 := fun rs m Kr Ke => ∃ (p : Addr) (o : O) (l : List Nat) (n : Int), rs = [.own p, rS l, D2.rI n] ∧ m = [(p, o)] ∧ Pl o ∧ (0 < l.length ∧ l.length ≤ 100) ∧ 0 ≤ n ∧ n ≤ 10000 ∧ ∀ s o', (s.length : Int) = n → InL l s → Pl o' → Kr (rS s) [(p, o')]
theorem sc__law_word : FnScope ["pool", "letters", "size", "k"] ["pool", "letters", "size"] (defScope (top 68)) := ⟨rfl, rfl, rfl, by decide +kernel, rfl, by decide +kernel, by decide +kernel⟩
theorem ok_pickWord (F : FunD K "_law_word" "_law_word" (defArgs (top 68)) (defBody (top 68)) (defScope (top 68)) [] [] f fd) (m0_range : mg "range" = none) (c__law_draw : CalleeG P w K mg base "_law_draw" 2 spDraw) (m0_len : mg "len" = none) : FnOk P w K mg base (L2N.CX P w) (3) f fd ["pool", "letters", "size"] (spOf K spPickWord) := by
  refine fn2 F sc__law_word (by decide +kernel) (fun rs m Kr Ke ⟨_, _, _, _, e, _⟩ => by rw [e]; rfl) fun X c rs m Kr Ke D L hx ⟨p, o, l, n, er, em, ho, ⟨hl0, hl3⟩, h0, h1, hk⟩ => ?_
  subst er em
  have m_range : X.mg "range" = none := D.mg_ m0_range
  have e__law_draw : Callee X "_law_draw" 2 spDraw := D.callee c__law_draw
  have m_len : X.mg "len" = none := D.mg_ m0_len
  have g_range : Gl X "range" := D.gl (by decide +kernel)
  refine dss_lo ?_
  show DSs X c [("pool", some (.own p)), ("letters", some (rS l)), ("size", some (D2.rI n)), ("k", none)] [(p, o)] (_ :: _) _
  ktf_call "d2"
  refine de_lc (own := [("k", 3)]) (ds := ups 0 n.toNat) (SgP l p) L (D.nd (by decide +kernel)) (blk_ok D (by decide +kernel)) (by decide +kernel) (by ktf_call "blk") (.name (by ktf_call "put") List.mem_cons_self) (it_rng1 (by assumption) (by assumption) ?_) ?_ ?_ ?_
  · ktf_call "d2"
    exact ⟨by omega, by omega, rfl, [], o, rfl, rfl, (fun s hs => by cases hs), ho, rfl⟩
  · rintro i d rs m' hd ⟨ss, o', rfl, e2, e3, e4, rfl⟩
    refine turn0 fun Xe c' hX hL => ?_
    ktf_call "d2"
    exact SgP.snoc e2 e3 (by assumption) (by omega)
  · rw [ups_len]; omega
  · intro rs m' q h
    rw [ups_len] at h
    refine h.done (by omega) fun s o' h1 h2 h3 => ?_
    exact ⟨_, List.sublist_cons_self _ _, hk s o' (by omega) h2 h3⟩
def spMany : Sp2 := fun rs m Kr Ke => ∃ (p : Addr) (o : O), rs = [.own p] ∧ m = [(p, o)] ∧ Pl o ∧ ∀ n o', 1 ≤ n → n ≤ 40 → Pl o' → Kr (D2.rI n) [(p, o')]
theorem sc__law_many : FnScope ["pool", "many"] ["pool"] (defScope (top 67)) := ⟨rfl, rfl, rfl, by decide +kernel, rfl, by decide +kernel, by decide +kernel⟩
theorem ok_many (F : FunD K "_law_many" "_law_many" (defArgs (top 67)) (defBody (top 67)) (defScope (top 67)) [] [] f fd) (c__law_draw : CalleeG P w K mg base "_law_draw" 2 spDraw) : FnOk P w K mg base (L2N.CX P w) (3) f fd ["pool"] (spOf K spMany) := by
  refine fn2 F sc__law_many (by decide +kernel) (fun rs m Kr Ke ⟨_, _, e, _⟩ => by rw [e]; rfl) fun X c rs m Kr Ke D L hx ⟨p, o, er, em, ho, hk⟩ => ?_
  subst er em
  have e__law_draw : Callee X "_law_draw" 2 spDraw := D.callee c__law_draw
  have g__law_draw : Gl X "_law_draw" := D.gl (by decide +kernel)
  have o_many : Own X "many" := D.own (by decide +kernel)
  refine dss_lo ?_
  show DSs X c [("pool", some (.own p)), ("many", none)] [(p, o)] (_ :: _) _
  ktf_call "d2"
  rename_i po d o1 g0 g1 g2
  have hv : ∀ d : Nat, d < 8 → 1 ≤ ([3, 4, 5, 6, 2, 1, 4, 5] : List Int).getD d 0 ∧ ([3, 4, 5, 6, 2, 1, 4, 5] : List Int).getD d 0 ≤ 6 := by decide
  obtain ⟨v1, v2⟩ := hv d.toNat (by omega)
  refine x_I (xs := [3, 4, 5, 6, 2, 1, 4, 5]) (.own (.there .here)) ⟨by omega, by simp; omega⟩ ?_
  generalize ([3, 4, 5, 6, 2, 1, 4, 5] : List Int).getD d.toNat 0 = v at v1 v2
  ktf_call "d2"
  all_goals exact ⟨_, List.Sublist.cons_cons _ (List.nil_sublist _), hk _ _ (by omega) (by omega) (by assumption)⟩
end
section
variable {m rest : Mem} {p : Addr} {o : O} {Kr : Mem → R → Mem → Prop} {Ke : Mem → Addr → List (Str × D2.D) → Mem → Prop}
theorem sp_pickW {l : List Nat} {n : Int} (hs : Has m p o rest) (ho : Pl o) (hl : 0 < l.length ∧ l.length ≤ 100) (h0 : 0 ≤ n) (h1 : n ≤ 10000) (k : ∀ s o', (s.length : Int) = n → InL l s → Pl o' → Kr rest (rS s) [(p, o')]) : ∃ mf rest, Split m mf rest ∧ spPickWord [.own p, rS l, D2.rI n] mf (Kr rest) (Ke rest) := ⟨[(p, o)], rest, .cons hs .nil, p, o, l, n, rfl, rfl, ho, hl, h0, h1, k⟩
end
end
/-! ## NK17a -/
section
set_option pp.maxSteps 1500
/-! k17: long words -/
local macro_rules | `(tactic| ktf_call "sp") => `(tactic| ((with_reducible refine' sp_draw ?hs ?ho ?h0 ?h1 (fun d o' _ _ _ => ?kk)); (case hs => ktf_call "has"); (case ho => ktf_call "side"); (case h0 => ktf_call "side"); (case h1 => ktf_call "side"); (case' kk => dsimp only [List.nil_append, List.cons_append])))
local macro_rules | `(tactic| ktf_call "sp") => `(tactic| ((with_reducible refine' sp_pickW ?hs ?ho ?hl ?h0 ?h1 (fun d o' _ _ _ => ?kk)); (case hs => ktf_call "has"); (case ho => ktf_call "side"); (case hl => exact ⟨by omega, by omega⟩); (case h0 => ktf_call "side"); (case h1 => ktf_call "side"); (case' kk => dsimp only [List.nil_append, List.cons_append])))
local macro_rules | `(tactic| ktf_call "side") => `(tactic| exact log_small (by omega) (by omega))
theorem lw_to {s : List Nat} (j : Nat) : cutL s none (some (j : Int)) = s.take j := by
  unfold cutL
  rw [HT.sIx_none, HT.sIx_nat, List.drop_zero, Nat.sub_zero]
  by_cases h : j ≤ s.length
  · rw [Nat.min_eq_left h]
  · rw [Nat.min_eq_right (by omega), List.take_of_length_le (by omega), List.take_of_length_le (by omega)]
theorem lw_from {s : List Nat} (j : Nat) : cutL s (some (j : Int)) none = s.drop j := by
  unfold cutL
  rw [HT.sIx_none, HT.sIx_nat]
  by_cases h : j ≤ s.length
  · rw [Nat.min_eq_left h, List.take_of_length_le (by simp)]
  · rw [Nat.min_eq_right (by omega), List.drop_of_length_le (by omega), List.drop_of_length_le (by omega), List.take_nil]
section
variable {P : Program} {w : World} {K : PySem.W.Frag} {mg : Str → Option Value} {base : Heap} {f : Addr} {fd : FuncData}
def spLongWord : Sp2 := fun rs m Kr Ke => ∃ (p : Addr) (o : O) (l : List Nat) (n : Int), rs = [.own p, rS l, D2.rI n] ∧ m = [(p, o)] ∧ Pl o ∧ (0 < l.length ∧ l.length ≤ 100) ∧ 1 ≤ n ∧ n ≤ 100 ∧ ∀ s o', (s.length : Int) = n → InL l s → Pl o' → Kr (rS s) [(p, o')]
theorem sc__law_long_word : FnScope ["pool", "letters", "size", "base", "word", "at"] ["pool", "letters", "size"] (defScope (top 75)) := ⟨rfl, rfl, rfl, by decide +kernel, rfl, by decide +kernel, by decide +kernel⟩
theorem ok_longWord (F : FunD K "_law_long_word" "_law_long_word" (defArgs (top 75)) (defBody (top 75)) (defScope (top 75)) [] [] f fd) (c__law_word : CalleeG P w K mg base "_law_word" 3 spPickWord) (c__law_draw : CalleeG P w K mg base "_law_draw" 2 spDraw) (m0_len : mg "len" = none) : FnOk P w K mg base (L2N.CX P w) (4) f fd ["pool", "letters", "size"] (spOf K spLongWord) := by
  refine fn2 F sc__law_long_word (by decide +kernel) (fun rs m Kr Ke ⟨_, _, _, _, e, _⟩ => by rw [e]; rfl) fun X c rs m Kr Ke D L hx ⟨p, o, l, n, er, em, ho, ⟨hl0, hl3⟩, h0, h1, hk⟩ => ?_
  subst er em
  have e__law_word : Callee X "_law_word" 3 spPickWord := D.callee c__law_word
  have e__law_draw : Callee X "_law_draw" 2 spDraw := D.callee c__law_draw
  have m_len : X.mg "len" = none := D.mg_ m0_len
  have g__law_word : Gl X "_law_word" := D.gl (by decide +kernel)
  have g__law_draw : Gl X "_law_draw" := D.gl (by decide +kernel)
  have g_len : Gl X "len" := D.gl (by decide +kernel)
  have o_base : Own X "base" := D.own (by decide +kernel)
  have o_word : Own X "word" := D.own (by decide +kernel)
  have o_at : Own X "at" := D.own (by decide +kernel)
  refine dss_lo ?_
  show DSs X c [("pool", some (.own p)), ("letters", some (rS l)), ("size", some (D2.rI n)), ("base", none), ("word", none), ("at", none)] [(p, o)] (_ :: _) _
  obtain ⟨n, rfl⟩ : ∃ k : Nat, n = (k : Int) := ⟨n.toNat, by omega⟩
  ktf_call "d2"
  rename_i b ob hb1 hb2 hb3
  have hm : b.length * (n : Int).toNat ≤ 5 * 100 := Nat.mul_le_mul (by omega) (by omega)
  refine o_mulStr (by omega) (by omega) (by omega) (by omega) ?_
  have hL : (n : Int).toNat ≤ (List.replicate (n : Int).toNat b).flatten.length ∧ (List.replicate (n : Int).toNat b).flatten.length ≤ 500 := by
    have e : (List.replicate (n : Int).toNat b).flatten.length = (n : Int).toNat * b.length := by simp
    rw [e]
    exact ⟨Nat.le_mul_of_pos_right _ (by omega), by rw [Nat.mul_comm]; omega⟩
  have hI : InL l (List.replicate (n : Int).toNat b).flatten := fun c hc => by
    obtain ⟨s, hs, h⟩ := List.mem_flatten.mp hc
    rw [List.eq_of_mem_replicate hs] at h
    exact hb2 c h
  clear hm
  rw [Int.toNat_natCast] at hL hI ⊢
  generalize (List.replicate n b).flatten = bb at hL hI
  have hw : (cutL bb none (some (n : Int))).length = n := by rw [lw_to, List.length_take]; omega
  have hwI : InL l (cutL bb none (some (n : Int))) := inl_cut hI
  ktf_call "d2"
  rename_i i o1 hi0 hi1 ho1 j o2 hj0 hj1 ho2
  obtain ⟨i, rfl⟩ : ∃ k : Nat, i = (k : Int) := ⟨i.toNat, by omega⟩
  generalize cutL bb none (some (n : Int)) = wd at hw hwI
  rw [lw_to]
  have c1 : (wd.take i).length = i := by rw [List.length_take]; omega
  ktf_call "d2"
  rw [show (i : Int) + 1 = ((i + 1 : Nat) : Int) by omega, lw_from]
  have c2 : (wd.drop (i + 1)).length = n - (i + 1) := by rw [List.length_drop]; omega
  have c3 : (wd.take i ++ [l.getD j.toNat 0]).length = i + 1 := by rw [List.length_append, c1]; rfl
  have hIn : InL l (wd.take i ++ [l.getD j.toNat 0] ++ wd.drop (i + 1)) := inl_app (inl_app (fun c hc => hwI c (List.mem_of_mem_take hc)) (inl_one (by omega))) fun c hc => hwI c (List.mem_of_mem_drop hc)
  have hLn : ((wd.take i ++ [l.getD j.toNat 0] ++ wd.drop (i + 1)).length : Int) = (n : Int) := by rw [List.length_append, c2, c3]; omega
  ktf_call "d2"
  exact ⟨_, List.Sublist.refl _, hk _ _ hLn hIn ho2⟩
end
end
/-! ## NK17b -/
section
set_option pp.maxSteps 1500
/-! k17: holds as due -/
section
variable {P : Program} {w : World} {K : PySem.W.Frag} {mg : Str → Option Value} {base : Heap} {f : Addr} {fd : FuncData}
def spHoldsKept (CX : Addr) : Sp2 := fun rs m Kr Ke => ∃ (l : List Nat) (xs : List XR) (d : Nat) (v : List Nat) (due : Bool), rs = [.dat (exD CX l xs d), rS v, rB due] ∧ l ∈ alphabets ∧ ExOk l xs ∧ InL l v ∧ v.length ≤ 60 ∧ m = [] ∧ Kr (rB (xv xs (xs.length - 1) v == due)) []
theorem sc__law_holds_kept : FnScope ["one", "word", "due", "told"] ["one", "word", "due"] (defScope (top 72)) := ⟨rfl, rfl, rfl, by decide +kernel, rfl, by decide +kernel, by decide +kernel⟩
theorem ok_holdsKept {C_Expression C_BadWord C_TooLarge : Addr} (F : FunD K "_law_holds_kept" "_law_holds_kept" (defArgs (top 72)) (defBody (top 72)) (defScope (top 72)) [] [] f fd) (c_holds : CalleeG P w K mg base "holds" 5 (spHolds C_Expression C_BadWord C_TooLarge)) : FnOk P w K mg base (L2N.CX P w) (6) f fd ["one", "word", "due"] (spOf K (spHoldsKept C_Expression)) := by
  refine fn2 F sc__law_holds_kept (by decide +kernel) (fun rs m Kr Ke ⟨_, _, _, _, _, e, _⟩ => by rw [e]; rfl) fun X c rs m Kr Ke D L hx ⟨l, xs, d, v, due, er, hl, ok, hin, hv, em, hk⟩ => ?_
  subst er em
  have e_holds : Callee X "holds" 5 (spHolds C_Expression C_BadWord C_TooLarge) := D.callee c_holds
  have g_holds : Gl X "holds" := D.gl (by decide +kernel)
  have o_told : Own X "told" := D.own (by decide +kernel)
  refine dss_lo ?_
  show DSs X c [("one", some (.dat (exD C_Expression l xs d))), ("word", some (rS v)), ("due", some (rB due)), ("told", none)] [] (_ :: _) _
  ktf_call "d2"
  refine ⟨[], _, .nil, l, xs, d, v, rfl, hl, ok, by omega, rfl, ⟨fun h => absurd hin h, fun _ h => absurd h (by omega)⟩, fun _ _ => ?_⟩
  dsimp only [List.nil_append, List.cons_append]
  generalize xv xs (xs.length - 1) v = t at hk
  cases due <;> cases t
  all_goals ktf_call "d2"
  all_goals exact ⟨_, sub_nil, hk⟩
end
end
/-! ## NK17c -/
section
set_option pp.maxSteps 1500
/-! k17: cuts told by two tables (data) -/
section
variable {P : Program} {w : World} {K : PySem.W.Frag} {mg : Str → Option Value} {base : Heap} {f : Addr} {fd : FuncData}
/-- a table that tells of the heads and tails of u whether t holds -/
def TbOk (u : List Nat) (t : List Nat → Bool) (kvs : List (Key × D2.D)) : Prop := ∀ i, i ≤ u.length → valD kvs (.inr (sOf (u.take i))) = some (.bl (t (u.take i))) ∧ valD kvs (.inr (sOf (u.drop i))) = some (.bl (t (u.drop i)))
def CutAt (u : List Nat) (ch : Nat) (t1 t2 : List Nat → Bool) (i : Nat) : Prop := u.getD i 0 = ch ∧ t1 (u.take i) = true ∧ t2 (u.drop (i + 1)) = true
def spCut : Sp2 := fun rs m Kr Ke => ∃ (u : List Nat) (ch : Nat) (t1 t2 : List Nat → Bool) (k1 k2 : List (Key × D2.D)), rs = [rS u, rS [ch], .dat (.dk k1), .dat (.dk k2)] ∧ u.length ≤ 1000 ∧ TbOk u t1 k1 ∧ TbOk u t2 k2 ∧ m = [] ∧ ((∃ i, i < u.length ∧ CutAt u ch t1 t2 i) → Kr (rB true) []) ∧ ((∀ i, i < u.length → ¬ CutAt u ch t1 t2 i) → Kr (rB false) [])
theorem sc__law_cut : FnScope ["part", "letter", "first", "second", "p"] ["part", "letter", "first", "second"] (defScope (top 70)) := ⟨rfl, rfl, rfl, by decide +kernel, rfl, by decide +kernel, by decide +kernel⟩
theorem ok_cut (F : FunD K "_law_cut" "_law_cut" (defArgs (top 70)) (defBody (top 70)) (defScope (top 70)) [] [] f fd) (m0_range : mg "range" = none) (m0_len : mg "len" = none) : FnOk P w K mg base (L2N.CX P w) (1) f fd ["part", "letter", "first", "second"] (spOf K spCut) := by
  refine fn2 F sc__law_cut (by decide +kernel) (fun rs m Kr Ke ⟨_, _, _, _, _, _, e, _⟩ => by rw [e]; rfl) fun X c rs m Kr Ke D L hx ⟨u, ch, t1, t2, k1, k2, er, hu, h1, h2, em, hy, hn⟩ => ?_
  subst er em
  have m_range : X.mg "range" = none := D.mg_ m0_range
  have m_len : X.mg "len" = none := D.mg_ m0_len
  have g_range : Gl X "range" := D.gl (by decide +kernel)
  have g_len : Gl X "len" := D.gl (by decide +kernel)
  have o_p : Own X "p" := D.own (by decide +kernel)
  refine dss_lo ?_
  show DSs X c [("part", some (rS u)), ("letter", some (rS [ch])), ("first", some (.dat (.dk k1))), ("second", some (.dat (.dk k2))), ("p", none)] [] (_ :: _) _
  ktf_call "d2"
  refine ds_for (ds := ups 0 u.length) (fun i σ m => σ = ([("part", some (rS u)), ("letter", some (rS [ch])), ("first", some (.dat (.dk k1))), ("second", some (.dat (.dk k2))), ("p", none)] : Sl) ∧ m = [] ∧ ∀ y, y < i → ¬ CutAt u ch t1 t2 y) L (it_rng1 (by ktf_call "gl") (by ktf_call "mg") ?_) ?_ ?_
  · ktf_call "d2"
    exact ⟨by omega, by omega, by rw [Int.toNat_natCast], rfl, rfl, fun y h => by omega⟩
  · rintro i d σ' m' hd ⟨rfl, rfl, hno⟩
    obtain ⟨hi, rfl⟩ := ups_at hd
    rw [show (0 : Int) + (i : Int) = (i : Int) by omega]
    refine dg_name o_p (by ktf_call "put") ?_
    refine dss_lo ?_
    have hstep : ¬ CutAt u ch t1 t2 i → ∀ y, y < i + 1 → ¬ CutAt u ch t1 t2 y := fun h y hy => by
      by_cases e : y = i
      · subst e; exact h
      · exact hno y (by omega)
    ktf_call "d2"
    · rename_i he
      have he2 : u.getD i 0 = ch := by simpa using he
      refine x_fk (L := L) .str (by rw [lw_to]; exact (h1 i (by omega)).1) ?_
      ktf_call "d2"
      · rename_i ht1
        have e3 : (i : Int) + 1 = ((i + 1 : Nat) : Int) := by omega
        refine x_fk (L := L) .str (by rw [e3, lw_from]; exact (h2 (i + 1) (by omega)).2) ?_
        ktf_call "d2"
        · rename_i ht2
          exact ⟨_, sub_nil, _, sub_nil, hy ⟨i, hi, he2, ht1, ht2⟩⟩
        · rename_i ht2
          exact ⟨_, _, by ktf_call "fog", List.Sublist.refl _, rfl, rfl, hstep fun h => by rw [h.2.2] at ht2; cases ht2⟩
      · rename_i ht1 _
        exact ⟨_, _, by ktf_call "fog", List.Sublist.refl _, rfl, rfl, hstep fun h => by rw [h.2.1] at ht1; cases ht1⟩
    · rename_i he _
      have he2 : ¬ u.getD i 0 = ch := fun h => he (by simpa using h)
      exact ⟨_, _, by ktf_call "fog", List.Sublist.refl _, rfl, rfl, hstep fun h => he2 h.1⟩
  · rintro σ' m' ⟨rfl, rfl, hno⟩
    rw [ups_len] at hno
    ktf_call "d2"
    exact ⟨_, sub_nil, hn hno⟩
end
end
/-! ## NDrX -/
section
/-! rows of expressions drawn, plain -/
/-- rows over the letters l -/
def DrX (l : List Nat) (xs : List XR) : Prop := ∀ i (h : i < xs.length), (∀ j ∈ xs[i].row.refs, j < i) ∧ ∀ a ch b, xs[i] = .split a ch b → ch ∈ l
theorem DrX.nil {l : List Nat} : DrX l [] := fun i h => absurd h (by simp)
theorem DrX.snoc {l : List Nat} {xs : List XR} {r : XR} (h : DrX l xs) (h1 : ∀ j ∈ r.row.refs, j < xs.length) (h2 : ∀ a ch b, r = .split a ch b → ch ∈ l) : DrX l (xs ++ [r]) := fun i hi => by
  by_cases e : i < xs.length
  · rw [List.getElem_append_left e]
    exact h i e
  · have : i = xs.length := by rw [List.length_append] at hi; simp at hi; omega
    subst this
    rw [List.getElem_append_right (Nat.le_refl _)]
    simp only [Nat.sub_self, List.getElem_cons_zero]
    exact ⟨h1, h2⟩
theorem DrX.take {l : List Nat} {xs : List XR} (h : DrX l xs) (k : Nat) : DrX l (xs.take k) := fun i hi => by
  rw [List.length_take] at hi
  rw [List.getElem_take]
  exact h i (by omega)
theorem DrX.fits {l : List Nat} {xs : List XR} (h : DrX l xs) : Sheet shapesX l (xs.map XR.row) := fun i hi => by
  rw [List.length_map] at hi
  rw [List.getElem_map]
  obtain ⟨h1, h2⟩ := h i hi
  generalize xs[i] = r at h1 h2
  have two : ∀ {w : List Nat} {a b : Nat}, shapeOf shapesX w = some [105, 105] → a < i → b < i → Row.fits shapesX l i ⟨w, [.n a, .n b]⟩ := fun hs ha hb => ⟨_, hs, rfl, fun k q1 q2 => by
    rcases k with _ | _ | k
    · exact ⟨rfl, ha⟩
    · exact ⟨rfl, hb⟩
    · simp at q2; omega⟩
  have r1 : ∀ {a : Nat}, a ∈ r.row.refs → a < i := fun ha => h1 _ ha
  cases r with
  | non => exact ⟨[], by decide, rfl, fun k q1 q2 => absurd q1 (by simp)⟩
  | all => exact ⟨[], by decide, rfl, fun k q1 q2 => absurd q1 (by simp)⟩
  | not a => exact ⟨[105], (by decide : shapeOf shapesX (lit "not") = some [105]), rfl, fun k q1 q2 => by
      rcases k with _ | k
      · exact ⟨rfl, r1 (by simp [XR.row, Row.refs, It.ref])⟩
      · simp [XR.row] at q2⟩
  | and a b => exact two (by decide) (r1 (by simp [XR.row, Row.refs, It.ref])) (r1 (by simp [XR.row, Row.refs, It.ref]))
  | or a b => exact two (by decide) (r1 (by simp [XR.row, Row.refs, It.ref])) (r1 (by simp [XR.row, Row.refs, It.ref]))
  | split a c b => exact ⟨[105, 97, 105], (by decide : shapeOf shapesX (lit "split") = some [105, 97, 105]), rfl, fun k q1 q2 => by
      rcases k with _ | _ | _ | k
      · exact ⟨rfl, r1 (by simp [XR.row, Row.refs, It.ref])⟩
      · exact .inl ⟨rfl, c, rfl, h2 a c b rfl⟩
      · exact ⟨rfl, r1 (by simp [XR.row, Row.refs, It.ref])⟩
      · simp [XR.row] at q2; omega⟩
theorem XR.fine {r : XR} {n : Nat} (h : ∀ j ∈ r.row.refs, j < n) (hn : n ≤ 16000) : r.row.its.length ≤ 3 ∧ r.row.w.length ≤ 20 ∧ ∀ it ∈ r.row.its, it.fine := by
  refine ⟨?_, ?_, ?_⟩
  · cases r <;> simp [XR.row]
  · cases r <;> (show List.length (lit _) ≤ 20; decide)
  · intro it hit
    cases it with
    | s t =>
      cases r <;> simp [XR.row] at hit
      subst hit
      simp [It.fine]
    | n a =>
      have := h a (List.mem_filterMap.mpr ⟨_, hit, rfl⟩)
      have : a < 100000 := by omega
      simpa [It.fine] using this
theorem DrX.fine {l : List Nat} {xs : List XR} (h : DrX l xs) (hn : xs.length ≤ 16000) : Fine (xs.map XR.row) := by
  refine ⟨by rw [List.length_map]; exact hn, fun r hr => ?_⟩
  obtain ⟨t, ht, rfl⟩ := List.mem_map.mp hr
  obtain ⟨i, hi, rfl⟩ := List.getElem_of_mem ht
  exact XR.fine (h i hi).1 (by omega)
theorem DrX.ex {l : List Nat} {xs : List XR} (h : DrX l xs) (h0 : 0 < xs.length) (hn : xs.length ≤ 6000) : ExOk l xs := ⟨h.fits.back, h0, hn⟩
abbrev xrR (xs : List XR) : List R := xs.map fun r => R.dat r.row.d
theorem xrR_snoc {xs : List XR} {r : XR} : xrR (xs ++ [r]) = xrR xs ++ [R.dat r.row.d] := List.map_append
theorem xrR_rows {xs : List XR} : xrR xs = rowsR (xs.map XR.row) := by
  show xs.map _ = List.map R.dat (List.map Row.d (List.map XR.row xs))
  rw [List.map_map, List.map_map]; rfl
/-! ### dicts read later, told by data -/
def putD (kvs : List (Key × D2.D)) (k : Key) (d : D2.D) : List (Key × D2.D) :=
  if (kvs.any fun kv => decide (kv.1 = k)) = true then kvs.map (fun kv => if kv.1 = k then (kv.1, d) else kv) else kvs ++ [(k, d)]
abbrev kvR (kvs : List (Key × D2.D)) : List (Key × R) := kvs.map fun p => (p.1, R.dat p.2)
theorem putR_D (kvs : List (Key × D2.D)) (k : Key) (d : D2.D) : putR (kvR kvs) k (.dat d) = kvR (putD kvs k d) := by
  unfold putR putD
  have e : ((kvR kvs).any fun kv => decide (kv.1 = k)) = kvs.any fun kv => decide (kv.1 = k) := by rw [List.any_map]; rfl
  rw [e]
  by_cases h : (kvs.any fun kv => decide (kv.1 = k)) = true
  · rw [if_pos h, if_pos h]
    unfold kvR
    rw [List.map_map, List.map_map]
    refine List.map_congr_left fun p _ => ?_
    show (if p.1 = k then _ else _) = (_, _)
    by_cases q : p.1 = k
    · rw [if_pos q]; dsimp only [Function.comp]; rw [if_pos q]
    · rw [if_neg q]; dsimp only [Function.comp]; rw [if_neg q]
  · rw [if_neg h, if_neg h]
    unfold kvR
    rw [List.map_append]; rfl
theorem putD_len (kvs : List (Key × D2.D)) (k : Key) (d : D2.D) : (putD kvs k d).length ≤ kvs.length + 1 := by
  unfold putD
  by_cases h : (kvs.any fun kv => decide (kv.1 = k)) = true
  · rw [if_pos h, List.length_map]; omega
  · rw [if_neg h, List.length_append]; simp
theorem valD_none {kvs : List (Key × D2.D)} {k : Key} (h : ¬ (kvs.any fun kv => decide (kv.1 = k)) = true) : valD kvs k = none := by
  unfold valD
  rw [List.find?_eq_none.mpr]; · rfl
  intro x hx q
  exact h (List.any_eq_true.mpr ⟨x, hx, q⟩)
theorem valD_put (kvs : List (Key × D2.D)) (k k2 : Key) (d : D2.D) : valD (putD kvs k d) k2 = if k = k2 then some d else valD kvs k2 := by
  unfold putD
  by_cases h : (kvs.any fun kv => decide (kv.1 = k)) = true
  · rw [if_pos h]
    induction kvs with
    | nil => simp at h
    | cons p kvs ih =>
      unfold valD at ih ⊢
      rw [List.map_cons, List.find?_cons, List.find?_cons]
      by_cases q : p.1 = k
      · rw [if_pos q]
        dsimp only
        by_cases q2 : p.1 = k2
        · rw [decide_eq_true q2, if_pos (q ▸ q2)]; rfl
        · rw [decide_eq_false q2, if_neg (fun z => q2 (q.trans z))]
          dsimp only
          by_cases h2 : (kvs.any fun kv => decide (kv.1 = k)) = true
          · rw [ih h2, if_neg (fun z => q2 (q.trans z))]
          · have : (kvs.map fun kv => if kv.1 = k then (kv.1, d) else kv) = kvs := by
              refine (List.map_congr_left fun p hp => ?_).trans (List.map_id _)
              have : ¬ p.1 = k := fun z => h2 (List.any_eq_true.mpr ⟨p, hp, decide_eq_true z⟩)
              rw [if_neg this]; rfl
            rw [this]
      · rw [if_neg q]
        by_cases q2 : p.1 = k2
        · rw [decide_eq_true q2]
          dsimp only
          rw [if_neg (fun z => q (q2.trans z.symm))]
        · rw [decide_eq_false q2]
          dsimp only
          refine ih ?_
          rw [List.any_cons, decide_eq_false q] at h
          exact h
  · rw [if_neg h]
    have hn := valD_none h
    unfold valD at hn ⊢
    rw [List.find?_append]
    by_cases q : k = k2
    · subst q
      rw [if_pos rfl]
      cases hf : kvs.find? (fun p => decide (p.1 = k)) with
      | none => simp [List.find?_cons]
      | some x => rw [hf] at hn; cases hn
    · rw [if_neg q]
      cases hf : kvs.find? (fun p => decide (p.1 = k2)) with
      | none => simp [List.find?_cons, q]
      | some x => rfl
theorem putD_mem {kvs : List (Key × D2.D)} {k : Key} {d : D2.D} {p : Key × D2.D} (h : p ∈ putD kvs k d) : p = (k, d) ∨ (∃ q ∈ kvs, q.1 = p.1) := by
  unfold putD at h
  by_cases q : (kvs.any fun kv => decide (kv.1 = k)) = true
  · rw [if_pos q] at h
    obtain ⟨x, hx, e⟩ := List.mem_map.mp h
    refine .inr ⟨x, hx, ?_⟩
    by_cases z : x.1 = k
    · rw [if_pos z] at e; rw [← e]
    · rw [if_neg z] at e; rw [← e]
  · rw [if_neg q] at h
    rcases List.mem_append.mp h with h | h
    · exact .inr ⟨p, h, rfl⟩
    · exact .inl (List.mem_singleton.mp h)
/-! ### parts of a word -/
def Part (w u : List Nat) : Prop := ∃ a b, w = a ++ u ++ b
theorem Part.self (w : List Nat) : Part w w := ⟨[], [], by simp⟩
theorem Part.take {w u : List Nat} (h : Part w u) (i : Nat) : Part w (u.take i) := by
  obtain ⟨a, b, rfl⟩ := h
  exact ⟨a, u.drop i ++ b, by
    have := List.take_append_drop i u
    rw [List.append_assoc, List.append_assoc, ← List.append_assoc (u.take i), this]⟩
theorem Part.drop {w u : List Nat} (h : Part w u) (i : Nat) : Part w (u.drop i) := by
  obtain ⟨a, b, rfl⟩ := h
  exact ⟨a ++ u.take i, b, by
    have := List.take_append_drop i u
    rw [List.append_assoc, List.append_assoc, List.append_assoc, ← List.append_assoc (u.take i), this]⟩
theorem Part.len {w u : List Nat} (h : Part w u) : u.length ≤ w.length := by
  obtain ⟨a, b, rfl⟩ := h
  simp only [List.length_append]; omega
theorem Part.str {w u : List Nat} (h : Part w u) : ∃ g k, g + k ≤ w.length ∧ u = (w.take (g + k)).drop g := by
  obtain ⟨a, b, rfl⟩ := h
  refine ⟨a.length, u.length, by simp only [List.length_append]; omega, ?_⟩
  rw [show a.length + u.length = (a ++ u).length by simp, List.take_left', List.drop_left']
  · rfl
  · rfl
theorem part_str (w : List Nat) (g h : Nat) : Part w ((w.take h).drop g) := by
  by_cases q : g ≤ h
  · exact (Part.take (Part.self w) h).drop g
  · exact (Part.take (Part.self w) h).drop g
theorem cut_mid {s : List Nat} (g h : Nat) : cutL s (some (g : Int)) (some (h : Int)) = (s.take h).drop g := by
  unfold cutL
  rw [HT.sIx_nat, HT.sIx_nat, List.drop_take]
  by_cases q : h ≤ s.length
  · by_cases q2 : g ≤ s.length
    · rw [Nat.min_eq_left q, Nat.min_eq_left q2]
    · rw [List.drop_of_length_le (by omega), List.drop_of_length_le (by omega), List.take_nil, List.take_nil]
  · by_cases q2 : g ≤ s.length
    · rw [Nat.min_eq_right (by omega), Nat.min_eq_left q2, List.take_of_length_le (by simp), List.take_of_length_le (by simp; omega)]
    · rw [List.drop_of_length_le (by omega), List.drop_of_length_le (by omega), List.take_nil, List.take_nil]
/-- a table of the parts of a word -/
def TbP (w : List Nat) (t : List Nat → Bool) (kvs : List (Key × D2.D)) : Prop := ∀ u, Part w u → valD kvs (.inr (sOf u)) = some (.bl (t u))
/-- keys are parts -/
def KyP (w : List Nat) (kvs : List (Key × D2.D)) : Prop := ∀ p ∈ kvs, ∃ u, Part w u ∧ p.1 = .inr (sOf u)
theorem KyP.put {w u : List Nat} {kvs : List (Key × D2.D)} {d : D2.D} (h : KyP w kvs) (hu : Part w u) : KyP w (putD kvs (.inr (sOf u)) d) := fun p hp => by
  rcases putD_mem hp with rfl | ⟨q, hq, e⟩
  · exact ⟨u, hu, rfl⟩
  · obtain ⟨v, h1, h2⟩ := h q hq
    exact ⟨v, h1, e ▸ h2⟩
theorem valD_has {kvs : List (Key × D2.D)} {k : Key} {d : D2.D} (h : valD kvs k = some d) : ∃ p ∈ kvs, p.1 = k := by
  unfold valD at h
  obtain ⟨p, hp, _⟩ := Option.map_eq_some_iff.mp h
  have h2 := List.find?_some hp
  exact ⟨p, List.mem_of_find?_eq_some hp, of_decide_eq_true h2⟩
end
/-! ## NK17e -/
section
set_option maxHeartbeats 4000000
set_option pp.maxSteps 1500
/-! k17: the parts of a word, what rows say of them -/
local macro_rules | `(tactic| ktf_call "s") => `(tactic| ((with_reducible show DS _ _ _ _ (.Assign [.Subscript _ _ _] _ _) _); refine ds_setD (by assumption) ?_))
section
variable {P : Program} {w : World} {K : PySem.W.Frag} {mg : Str → Option Value} {base : Heap} {f : Addr} {fd : FuncData}
/-- all parts that begin ahead of g, those at g up to length k -/
def PrG (v : List Nat) (g k : Nat) (kvs : List (Key × D2.D)) : Prop := ∀ a b, a + b ≤ v.length → (a < g ∨ (a = g ∧ b < k)) → valD kvs (.inr (sOf ((v.take (a + b)).drop a))) = some (.bl true)
theorem PrG.put {v : List Nat} {g k : Nat} {kvs : List (Key × D2.D)} (h : PrG v g k kvs) : PrG v g (k + 1) (putD kvs (.inr (sOf ((v.take (g + k)).drop g))) (.bl true)) := fun a b h1 h2 => by
  rw [valD_put]
  by_cases q : (Sum.inr (sOf ((v.take (g + k)).drop g)) : Key) = .inr (sOf ((v.take (a + b)).drop a))
  · rw [if_pos q]
  · rw [if_neg q]
    refine h a b h1 ?_
    rcases h2 with h2 | ⟨rfl, h2⟩
    · exact .inl h2
    · refine .inr ⟨rfl, ?_⟩
      by_cases e : b = k
      · subst e; exact absurd rfl q
      · omega
theorem PrG.next {v : List Nat} {g : Nat} {kvs : List (Key × D2.D)} (h : PrG v g (v.length + 1 - g) kvs) : PrG v (g + 1) 0 kvs := fun a b h1 h2 => h a b h1 (by omega)
def spParts : Sp2 := fun rs m Kr Ke => ∃ (v : List Nat), rs = [rS v] ∧ v.length ≤ 100 ∧ m = [] ∧ ∀ p kvs, KyP v kvs → kvs.length ≤ 20000 → (∀ u, Part v u → ∃ q ∈ kvs, q.1 = .inr (sOf u)) → Kr (.own p) [(p, .dk (kvR kvs))]
theorem sc__law_parts : FnScope ["word", "parts", "g", "h"] ["word"] (defScope (top 69)) := ⟨rfl, rfl, rfl, by decide +kernel, rfl, by decide +kernel, by decide +kernel⟩
theorem ok_parts (F : FunD K "_law_parts" "_law_parts" (defArgs (top 69)) (defBody (top 69)) (defScope (top 69)) [] [] f fd) (m0_range : mg "range" = none) (m0_len : mg "len" = none) : FnOk P w K mg base (L2N.CX P w) (1) f fd ["word"] (spOf K spParts) := by
  refine fn2 F sc__law_parts (by decide +kernel) (fun rs m Kr Ke ⟨_, e, _⟩ => by rw [e]; rfl) fun X c rs m Kr Ke D L hx ⟨v, er, hv, em, hk⟩ => ?_
  subst er em
  have m_range : X.mg "range" = none := D.mg_ m0_range
  have m_len : X.mg "len" = none := D.mg_ m0_len
  have g_range : Gl X "range" := D.gl (by decide +kernel)
  have g_len : Gl X "len" := D.gl (by decide +kernel)
  have o_parts : Own X "parts" := D.own (by decide +kernel)
  have o_g : Own X "g" := D.own (by decide +kernel)
  have o_h : Own X "h" := D.own (by decide +kernel)
  refine dss_lo ?_
  show DSs X c [("word", some (rS v)), ("parts", none), ("g", none), ("h", none)] [] (_ :: _) _
  have e1 : ((v.length : Nat) : Int) + 1 = ((v.length + 1 : Nat) : Int) := by omega
  ktf_call "d2"
  rename_i pp
  refine ds_for (ds := ups 0 (v.length + 1)) (fun i σ m => ∃ kvs, σ = ([("word", some (rS v)), ("parts", some (.own pp)), ("g", none), ("h", none)] : Sl) ∧ m = [(pp, .dk (kvR kvs))] ∧ KyP v kvs ∧ PrG v i 0 kvs ∧ kvs.length ≤ i * 101 ∧ i ≤ 101) L (it_rng1 (by ktf_call "gl") (by ktf_call "mg") ?_) ?_ ?_
  · ktf_call "d2"
    exact ⟨by omega, by omega, by rw [e1, Int.toNat_natCast], [], rfl, rfl, fun p hp => (by cases hp), fun a b _ h => by omega, by simp, by omega⟩
  · rintro g d σ' m' hd ⟨kvs, rfl, rfl, hky, hpr, hkl, hg1⟩
    obtain ⟨hg, rfl⟩ := ups_at hd
    rw [show (0 : Int) + (g : Int) = (g : Int) by omega]
    refine dg_name o_g (by ktf_call "put") ?_
    refine dss_lo ?_
    refine dss_cons ?_
    refine ds_for (ds := ups (g : Int) (v.length + 1 - g)) (fun k σ m => ∃ kvs, σ = ([("word", some (rS v)), ("parts", some (.own pp)), ("g", some (D2.rI g)), ("h", none)] : Sl) ∧ m = [(pp, .dk (kvR kvs))] ∧ KyP v kvs ∧ PrG v g k kvs ∧ kvs.length ≤ g * 101 + k) L (it_rng2 (by ktf_call "gl") (by ktf_call "mg") ?_) ?_ ?_
    · ktf_call "d2"
      exact ⟨⟨by omega, by omega, by omega, by omega⟩, by rw [e1, show (((v.length + 1 : Nat) : Int) - (g : Int)).toNat = v.length + 1 - g by omega], kvs, rfl, rfl, hky, hpr, by omega⟩
    · rintro k d σ' m' hd ⟨kvs, rfl, rfl, hky, hpr, hkl⟩
      obtain ⟨hk2, rfl⟩ := ups_at hd
      rw [show (g : Int) + (k : Int) = ((g + k : Nat) : Int) by omega]
      refine dg_name o_h (by ktf_call "put") ?_
      refine dss_lo ?_
      ktf_call "d2"
      rw [cut_mid]
      refine ⟨pp, kvR kvs, .inr (sOf ((v.take (g + k)).drop g)), _, rfl, .str, .here, by rw [List.length_map]; omega, ?_⟩
      rw [putR_D]
      have hlen := putD_len kvs (.inr (sOf ((v.take (g + k)).drop g))) (.bl true)
      ktf_call "d2"
      exact ⟨_, _, by ktf_call "fog", List.Sublist.refl _, _, rfl, rfl, hky.put (part_str v g (g + k)), hpr.put, by omega⟩
    · rintro σ' m' ⟨kvs, rfl, rfl, hky, hpr, hkl⟩
      rw [ups_len] at hpr hkl
      refine dss_nil ?_
      exact ⟨_, _, by ktf_call "fog", List.Sublist.refl _, kvs, rfl, rfl, hky, hpr.next, by omega, by omega⟩
  · rintro σ' m' ⟨kvs, rfl, rfl, hky, hpr, hkl, _⟩
    rw [ups_len] at hpr hkl
    ktf_call "d2"
    refine ⟨_, List.Sublist.refl _, hk pp kvs hky (by omega) fun u hu => ?_⟩
    obtain ⟨g, k, h1, rfl⟩ := hu.str
    exact valD_has (hpr g k h1 (.inl (by omega)))
end
end
/-! ## NK17f -/
section
set_option maxHeartbeats 4000000
set_option pp.maxSteps 1500
/-! k17: what rows say of the parts of a word -/
local macro_rules | `(tactic| ktf_call "s") => `(tactic| ((with_reducible show DSs _ _ _ _ (Stmt.If _ _ _ _ :: _) _); refine held ?_))
local macro_rules | `(tactic| ktf_call "k") => `(tactic| ((with_reducible show (_ = true → _) ∧ (_ = false → _)); refine ⟨fun hyp => ?_, fun hyp => ?_⟩ <;> (try simp only [decide_eq_true_eq, decide_eq_false_iff_not, Bool.not_eq_true', Bool.not_eq_false', Bool.not_true, Bool.not_false, Bool.true_eq_false, Bool.false_eq_true, Int.not_lt, Int.not_le, nil_len, Nat.pos_iff_ne_zero.symm, not_true_eq_false] at hyp)))
local macro_rules | `(tactic| ktf_call "k") => `(tactic| ((with_reducible show (_ = false → _) ∧ (_ = true → _)); refine ⟨fun hyp => ?_, fun hyp => ?_⟩ <;> (try simp only [decide_eq_true_eq, decide_eq_false_iff_not, Bool.not_eq_true', Bool.not_eq_false', Bool.not_true, Bool.not_false, Bool.true_eq_false, Bool.false_eq_true, Int.not_lt, Int.not_le, nil_len, Nat.pos_iff_ne_zero.symm, not_true_eq_false] at hyp)))
local macro_rules | `(tactic| ktf_call "go") => `(tactic| (refine Held.of ?_; refine dss_cons ?_; refine ds_if ?_; ktf_call "d2"))
local macro_rules | `(tactic| ktf_call "s") => `(tactic| ((with_reducible show DS _ _ _ _ (.Assign [.Subscript _ _ _] _ _) _); refine ds_setD (by assumption) ?_))
local macro_rules | `(tactic| ktf_call "s") => `(tactic| ((with_reducible show DSs _ _ _ _ (Stmt.For _ _ _ _ _ :: _) _); refine held ?_))
local macro_rules | `(tactic| ktf_call "cl") => `(tactic| (all_goals try (first | (rename_i hz; exact absurd hz (by decide)) | (rename_i hz _; exact absurd hz (by decide)) | (rename_i hz _ _; exact absurd hz (by decide)))))
local macro_rules | `(tactic| ktf_call "nx") => `(tactic| (ktf_call "go"; ktf_call "cl"))
abbrev tbsR (tbs : List (List (Key × D2.D))) : List R := tbs.map fun kvs => R.dat (.dk kvs)
section
variable {P : Program} {w : World} {K : PySem.W.Frag} {mg : Str → Option Value} {base : Heap} {f : Addr} {fd : FuncData}
def spSaid17 : Sp2 := fun rs m Kr Ke => ∃ (xs : List XR) (l v : List Nat) (a : Addr), rs = [.own a, rS v] ∧ DrX l xs ∧ xs.length ≤ 100 ∧ v.length ≤ 100 ∧ m = [(a, .lst (xrR xs))] ∧ ∀ q tbs, tbs.length = xs.length → (∀ i (h : i < tbs.length), TbP v (xv xs i) tbs[i]) → Kr (.own q) [(q, .lst (tbsR tbs)), (a, .lst (xrR xs))]
theorem sc__law_said : FnScope ["rows", "word", "parts", "told", "row", "here", "part"] ["rows", "word"] (defScope (top 71)) := ⟨rfl, rfl, rfl, by decide +kernel, rfl, by decide +kernel, by decide +kernel⟩
theorem ok_said17 (F : FunD K "_law_said" "_law_said" (defArgs (top 71)) (defBody (top 71)) (defScope (top 71)) [] [] f fd) (c__law_parts : CalleeG P w K mg base "_law_parts" 1 spParts) (c__law_cut : CalleeG P w K mg base "_law_cut" 1 spCut) : FnOk P w K mg base (L2N.CX P w) (2) f fd ["rows", "word"] (spOf K spSaid17) := by
  refine fn2 F sc__law_said (by decide +kernel) (fun rs m Kr Ke ⟨_, _, _, _, e, _⟩ => by rw [e]; rfl) fun X c rs m Kr Ke D L hx ⟨xs, l, v, a, er, hdr, hx1, hv, em, hk⟩ => ?_
  subst er em
  have e__law_parts : Callee X "_law_parts" 1 spParts := D.callee c__law_parts
  have e__law_cut : Callee X "_law_cut" 1 spCut := D.callee c__law_cut
  have g__law_parts : Gl X "_law_parts" := D.gl (by decide +kernel)
  have g__law_cut : Gl X "_law_cut" := D.gl (by decide +kernel)
  have o_parts : Own X "parts" := D.own (by decide +kernel)
  have o_told : Own X "told" := D.own (by decide +kernel)
  have o_row : Own X "row" := D.own (by decide +kernel)
  have o_here : Own X "here" := D.own (by decide +kernel)
  have o_part : Own X "part" := D.own (by decide +kernel)
  refine dss_lo ?_
  show DSs X c [("rows", some (.own a)), ("word", some (rS v)), ("parts", none), ("told", none), ("row", none), ("here", none), ("part", none)] [(a, .lst (xrR xs))] (_ :: _) _
  ktf_call "d2"
  refine ⟨[], _, .nil, v, rfl, hv, rfl, fun pp kp hky hkl hall => ?_⟩
  dsimp only [List.nil_append, List.cons_append]
  refine dss_frzK (xs := kp) (by ktf_call "lk") (by ktf_call "put") .here ?_
  ktf_call "d2"
  rename_i pt
  refine Held.of (dss_cons ?_)
  refine ds_keep (ds := xs.map fun r => r.row.d) (rs0 := xrR xs) (a := a) (m0 := [(pt, .lst [])]) L (by rw [List.map_map]; rfl) (.cons .here .nil) fun c' L' hk' hx' => ?_
  refine ds_forE (ds := xs.map fun r => r.row.d) (fun i σ m => ∃ tbs, σ = ([("rows", some (.own a)), ("word", some (rS v)), ("parts", some (.dat (.dk kp))), ("told", some (.own pt)), ("row", none), ("here", none), ("part", none)] : Sl) ∧ m = [(pt, .lst (tbsR tbs))] ∧ tbs.length = i ∧ ∀ j (h : j < tbs.length), TbP v (xv xs j) tbs[j]) L' (it_listO (by ktf_call "lk") hk' ⟨rfl, [], rfl, rfl, rfl, fun j h => absurd h (by simp)⟩) ?_ ?_
  · rintro i d σ' m' hd ⟨tbs, rfl, rfl, htl, htb⟩
    obtain ⟨hi, rfl⟩ : ∃ hi : i < xs.length, d = xs[i].row.d := by
      rw [List.getElem?_map] at hd
      obtain ⟨r, h1, h2⟩ := Option.map_eq_some_iff.mp hd
      obtain ⟨hi, h3⟩ := List.getElem?_eq_some_iff.mp h1
      exact ⟨hi, by rw [h3, h2]⟩
    have hbk := (hdr i hi).1
    have hxv := xv_at hi hbk
    have hat : ∀ j ∈ xs[i].row.refs, ∃ kvs, (tbsR tbs)[j]? = some (.dat (.dk kvs)) ∧ TbP v (xv xs j) kvs := fun j hj => by
      have := hbk j hj
      exact ⟨tbs[j], by rw [List.getElem?_map, List.getElem?_eq_getElem (by omega : j < tbs.length)]; rfl, htb j (by omega)⟩
    generalize xs[i] = r at hxv hat
    refine dg_name o_row (by ktf_call "put") ?_
    refine dss_lo ?_
    ktf_call "d2"
    rename_i ph
    refine Held.of (dss_cons ?_)
    refine ds_for (ds := kp.map fun p => kD p.1) (fun k σ m => ∃ kvs, σ = ([("rows", some (.own a)), ("word", some (rS v)), ("parts", some (.dat (.dk kp))), ("told", some (.own pt)), ("row", some (.dat r.row.d)), ("here", some (.own ph)), ("part", none)] : Sl) ∧ m = [(ph, .dk (kvR kvs)), (pt, .lst (tbsR tbs))] ∧ kvs.length ≤ k ∧ ∀ j (h : j < kp.length), j < k → ∀ u, kp[j].1 = .inr (sOf u) → valD kvs (.inr (sOf u)) = some (.bl (r.tr (xv xs) u))) L' (it_fk ?_) ?_ ?_
    · ktf_call "d2"
      exact ⟨_, rfl, rfl, [], rfl, rfl, Nat.le_refl _, fun j _ h => absurd h (by omega)⟩
    · rintro k d σ' m' hd ⟨kvs, rfl, rfl, hkl2, hkv⟩
      obtain ⟨hk2, rfl⟩ : ∃ hk2 : k < kp.length, d = kD kp[k].1 := by
        rw [List.getElem?_map] at hd
        obtain ⟨p, h1, h2⟩ := Option.map_eq_some_iff.mp hd
        obtain ⟨hi, h3⟩ := List.getElem?_eq_some_iff.mp h1
        exact ⟨hi, by rw [h3, h2]⟩
      obtain ⟨u, hu, eu⟩ := hky _ (List.getElem_mem hk2)
      have hul := hu.len
      have ekd : kD kp[k].1 = .str u := by rw [eu]; show D2.D.str (lit (sOf u)) = _; rw [lit_sOf]
      rw [ekd]
      have hput : ∀ j (h : j < kp.length), j < k + 1 → ∀ u2, kp[j].1 = .inr (sOf u2) → valD (putD kvs (.inr (sOf u)) (.bl (r.tr (xv xs) u))) (.inr (sOf u2)) = some (.bl (r.tr (xv xs) u2)) := fun j hj hjk u2 e2 => by
        rw [valD_put]
        by_cases q : (Sum.inr (sOf u) : Key) = .inr (sOf u2)
        · rw [if_pos q, sOf_iff.mp q]
        · rw [if_neg q]
          refine hkv j hj ?_ u2 e2
          by_cases e : j = k
          · subst e; exact absurd (eu.symm.trans e2) q
          · omega
      have hpl := putD_len kvs (.inr (sOf u)) (.bl (r.tr (xv xs) u))
      refine dg_name o_part (by ktf_call "put") ?_
      refine dss_lo ?_
      cases r with
      | non =>
        dsimp only [XR.row, Row.d, List.map, It.d]
        ktf_call "d2"
        ktf_call "nx"
        refine ⟨ph, kvR kvs, .inr (sOf u), _, rfl, .str, .here, by rw [List.length_map]; omega, ?_⟩
        rw [putR_D]
        ktf_call "d2"
        exact ⟨_, _, by ktf_call "fog", List.Sublist.refl _, _, rfl, rfl, Nat.le_trans (putD_len _ _ _) (by omega), hput⟩
      | all =>
        dsimp only [XR.row, Row.d, List.map, It.d]
        ktf_call "d2"
        ktf_call "nx"
        refine ⟨ph, kvR kvs, .inr (sOf u), _, rfl, .str, .here, by rw [List.length_map]; omega, ?_⟩
        rw [putR_D]
        ktf_call "d2"
        exact ⟨_, _, by ktf_call "fog", List.Sublist.refl _, _, rfl, rfl, Nat.le_trans (putD_len _ _ _) (by omega), hput⟩
      | not a1 =>
        obtain ⟨kv1, ha1, ht1⟩ := hat a1 (by simp [XR.row, Row.refs, It.ref])
        dsimp only [XR.row, Row.d, List.map, It.d]
        ktf_call "d2"
        ktf_call "nx"
        ktf_call "nx"
        refine x_lst (.own (.there .here)) (ati a1 ha1 rfl) ?_
        ktf_call "d2"
        refine x_fk (L := L') .str (ht1 u hu) ?_
        ktf_call "d2"
        refine ⟨ph, kvR kvs, .inr (sOf u), _, rfl, .str, .here, by rw [List.length_map]; omega, ?_⟩
        rw [putR_D]
        ktf_call "d2"
        exact ⟨_, _, by ktf_call "fog", List.Sublist.refl _, _, rfl, rfl, Nat.le_trans (putD_len _ _ _) (by omega), hput⟩
      | and a1 b1 =>
        obtain ⟨kv1, ha1, ht1⟩ := hat a1 (by simp [XR.row, Row.refs, It.ref])
        obtain ⟨kv2, ha2, ht2⟩ := hat b1 (by simp [XR.row, Row.refs, It.ref])
        dsimp only [XR.row, Row.d, List.map, It.d]
        ktf_call "d2"
        ktf_call "nx"
        ktf_call "nx"
        ktf_call "nx"
        refine x_lst (.own (.there .here)) (ati a1 ha1 rfl) ?_
        ktf_call "d2"
        refine x_fk (L := L') .str (ht1 u hu) ?_
        ktf_call "d2"
        · rename_i hb1
          refine x_lst (.own (.there .here)) (ati b1 ha2 rfl) ?_
          ktf_call "d2"
          refine x_fk (L := L') .str (ht2 u hu) ?_
          ktf_call "d2"
          have e : XR.tr (xv xs) (.and a1 b1) u = xv xs b1 u := by
            show (xv xs a1 u && xv xs b1 u) = _
            rw [hb1]; rfl
          rw [e] at hput
          refine ⟨ph, kvR kvs, .inr (sOf u), _, rfl, .str, .here, by rw [List.length_map]; omega, ?_⟩
          rw [putR_D]
          ktf_call "d2"
          exact ⟨_, _, by ktf_call "fog", List.Sublist.refl _, _, rfl, rfl, Nat.le_trans (putD_len _ _ _) (by omega), hput⟩
        · rename_i hb1
          have e : XR.tr (xv xs) (.and a1 b1) u = false := by
            show (xv xs a1 u && xv xs b1 u) = _
            rw [hb1]; rfl
          rw [e] at hput
          refine ⟨ph, kvR kvs, .inr (sOf u), _, rfl, .str, .here, by rw [List.length_map]; omega, ?_⟩
          rw [putR_D]
          ktf_call "d2"
          exact ⟨_, _, by ktf_call "fog", List.Sublist.refl _, _, rfl, rfl, Nat.le_trans (putD_len _ _ _) (by omega), hput⟩
      | or a1 b1 =>
        obtain ⟨kv1, ha1, ht1⟩ := hat a1 (by simp [XR.row, Row.refs, It.ref])
        obtain ⟨kv2, ha2, ht2⟩ := hat b1 (by simp [XR.row, Row.refs, It.ref])
        dsimp only [XR.row, Row.d, List.map, It.d]
        ktf_call "d2"
        ktf_call "nx"
        ktf_call "nx"
        ktf_call "nx"
        ktf_call "nx"
        refine x_lst (.own (.there .here)) (ati a1 ha1 rfl) ?_
        ktf_call "d2"
        refine x_fk (L := L') .str (ht1 u hu) ?_
        ktf_call "d2"
        · rename_i hb1
          refine x_lst (.own (.there .here)) (ati b1 ha2 rfl) ?_
          ktf_call "d2"
          refine x_fk (L := L') .str (ht2 u hu) ?_
          ktf_call "d2"
          have e : XR.tr (xv xs) (.or a1 b1) u = xv xs b1 u := by
            show (xv xs a1 u || xv xs b1 u) = _
            rw [hb1]; rfl
          rw [e] at hput
          refine ⟨ph, kvR kvs, .inr (sOf u), _, rfl, .str, .here, by rw [List.length_map]; omega, ?_⟩
          rw [putR_D]
          ktf_call "d2"
          exact ⟨_, _, by ktf_call "fog", List.Sublist.refl _, _, rfl, rfl, Nat.le_trans (putD_len _ _ _) (by omega), hput⟩
        · rename_i hb1
          have e : XR.tr (xv xs) (.or a1 b1) u = true := by
            show (xv xs a1 u || xv xs b1 u) = _
            rw [hb1]; rfl
          rw [e] at hput
          refine ⟨ph, kvR kvs, .inr (sOf u), _, rfl, .str, .here, by rw [List.length_map]; omega, ?_⟩
          rw [putR_D]
          ktf_call "d2"
          exact ⟨_, _, by ktf_call "fog", List.Sublist.refl _, _, rfl, rfl, Nat.le_trans (putD_len _ _ _) (by omega), hput⟩
      | split a1 ch b1 =>
        obtain ⟨kv1, ha1, ht1⟩ := hat a1 (by simp [XR.row, Row.refs, It.ref])
        obtain ⟨kv2, ha2, ht2⟩ := hat b1 (by simp [XR.row, Row.refs, It.ref])
        dsimp only [XR.row, Row.d, List.map, It.d]
        ktf_call "d2"
        ktf_call "nx"
        ktf_call "nx"
        ktf_call "nx"
        ktf_call "nx"
        refine x_lst (.own (.there .here)) (ati a1 ha1 rfl) ?_
        ktf_call "d2"
        refine x_lst (.own (.there .here)) (ati b1 ha2 rfl) ?_
        ktf_call "d2"
        refine ⟨[], _, .nil, u, ch, xv xs a1, xv xs b1, kv1, kv2, rfl, by omega, fun i hi => ⟨ht1 _ (hu.take i), ht1 _ (hu.drop i)⟩, fun i hi => ⟨ht2 _ (hu.take i), ht2 _ (hu.drop i)⟩, rfl, fun ⟨i, hi, h1, h2, h3⟩ => ?_, fun hno => ?_⟩
        · have e : XR.tr (xv xs) (.split a1 ch b1) u = true := decide_eq_true ⟨i, hi, h1, h2, h3⟩
          rw [e] at hput
          dsimp only [List.nil_append, List.cons_append]
          ktf_call "d2"
          refine ⟨ph, kvR kvs, .inr (sOf u), _, rfl, .str, .here, by rw [List.length_map]; omega, ?_⟩
          rw [putR_D]
          ktf_call "d2"
          exact ⟨_, _, by ktf_call "fog", List.Sublist.refl _, _, rfl, rfl, Nat.le_trans (putD_len _ _ _) (by omega), hput⟩
        · have e : XR.tr (xv xs) (.split a1 ch b1) u = false := decide_eq_false fun ⟨i, hi, h1, h2, h3⟩ => hno i hi ⟨h1, h2, h3⟩
          rw [e] at hput
          dsimp only [List.nil_append, List.cons_append]
          ktf_call "d2"
          refine ⟨ph, kvR kvs, .inr (sOf u), _, rfl, .str, .here, by rw [List.length_map]; omega, ?_⟩
          rw [putR_D]
          ktf_call "d2"
          exact ⟨_, _, by ktf_call "fog", List.Sublist.refl _, _, rfl, rfl, Nat.le_trans (putD_len _ _ _) (by omega), hput⟩
    · rintro σ' m' ⟨kvs, rfl, rfl, hkl2, hkv⟩
      rw [List.length_map] at hkl2 hkv
      have htb2 : TbP v (xv xs i) kvs := fun u hu => by
        obtain ⟨p, hp, e⟩ := hall u hu
        obtain ⟨j, hj, rfl⟩ := List.getElem_of_mem hp
        rw [hxv]
        exact hkv j hj hj u e
      show DSs _ _ _ _ _ _
      refine dss_frzK (x := "here") (xs := kvs) (by ktf_call "lk") (by ktf_call "put") .here ?_
      have hbl : (tbsR tbs).length ≤ 1000 := by rw [List.length_map]; omega
      ktf_call "d2"
      exact ⟨_, _, by ktf_call "fog", List.Sublist.refl _, tbs ++ [kvs], rfl, by rw [tbsR, tbsR, List.map_append]; rfl, by simp; omega, fun j hj => by
        by_cases e : j < tbs.length
        · rw [List.getElem_append_left e]; exact htb j e
        · have : j = i := by rw [List.length_append] at hj; simp at hj; omega
          subst this
          rw [List.getElem_append_right (by omega)]
          simpa [htl] using htb2⟩
  · rintro σ' m' ⟨tbs, rfl, rfl, htl, htb⟩
    rw [List.length_map] at htl
    show DSs _ _ _ _ _ _
    dsimp only [List.nil_append, List.cons_append]
    ktf_call "d2"
    exact ⟨_, List.Sublist.refl _, hk _ tbs htl htb⟩
end
end
/-! ## NIsInt -/
section
set_option pp.maxSteps 1500
/-! laws: _law_is_int -/
section
variable {P : Program} {w : World} {K : PySem.W.Frag} {mg : Str → Option Value} {base : Heap} {f : Addr} {fd : FuncData}
def spIsInt : Sp2 := fun rs m Kr Ke => ∃ a b : Int, rs = [D2.rI a, D2.rI b] ∧ m = [] ∧ Kr (rB (decide (a = b))) []
end
theorem sp_isInt {m : Mem} {a b : Int} {Kr : Mem → R → Mem → Prop} {Ke : Mem → Addr → List (Str × D2.D) → Mem → Prop} (h : a = b) (k : Kr m (rB true) []) : ∃ mf rest, Split m mf rest ∧ spIsInt [D2.rI a, D2.rI b] mf (Kr rest) (Ke rest) := ⟨[], m, .nil, a, b, rfl, rfl, by rw [decide_eq_true h]; exact k⟩
end
/-! ## NK17g -/
section
set_option maxHeartbeats 4000000
set_option pp.maxSteps 1500
/-! k17: stretches as due -/
local macro_rules | `(tactic| ktf_call "s") => `(tactic| ((with_reducible show DSs _ _ _ _ (Stmt.If _ _ _ _ :: _) _); refine held ?_))
local macro_rules | `(tactic| ktf_call "k") => `(tactic| ((with_reducible show (_ = true → _) ∧ (_ = false → _)); refine ⟨fun hyp => ?_, fun hyp => ?_⟩ <;> (try simp only [decide_eq_true_eq, decide_eq_false_iff_not, Bool.not_eq_true', Bool.not_eq_false', Bool.not_true, Bool.not_false, Bool.true_eq_false, Bool.false_eq_true, Int.not_lt, Int.not_le, nil_len, Nat.pos_iff_ne_zero.symm, not_true_eq_false] at hyp)))
local macro_rules | `(tactic| ktf_call "k") => `(tactic| ((with_reducible show (_ = false → _) ∧ (_ = true → _)); refine ⟨fun hyp => ?_, fun hyp => ?_⟩ <;> (try simp only [decide_eq_true_eq, decide_eq_false_iff_not, Bool.not_eq_true', Bool.not_eq_false', Bool.not_true, Bool.not_false, Bool.true_eq_false, Bool.false_eq_true, Int.not_lt, Int.not_le, nil_len, Nat.pos_iff_ne_zero.symm, not_true_eq_false] at hyp)))
local macro_rules | `(tactic| ktf_call "go") => `(tactic| (refine Held.of ?_; refine dss_cons ?_; refine ds_if ?_; ktf_call "d2"))
local macro_rules | `(tactic| ktf_call "s") => `(tactic| ((with_reducible show DSs _ _ _ _ (Stmt.For _ _ _ _ _ :: _) _); refine held ?_))
abbrev pG (x : Nat × Nat) : PyData := .tuple [.int (x.1 : Int), .int (x.2 : Int)]
theorem pv_g (m : Mem) (x : Nat × Nat) : PV m (.dat (tG x)) (pG x) := .tup (.cons .int (.cons .int .nil))
theorem pvs_g (m : Mem) : ∀ xs : List (Nat × Nat), PVs m (xs.map fun x => R.dat (tG x)) (xs.map pG)
  | [] => .nil
  | x :: xs => .cons (pv_g m x) (pvs_g m xs)
theorem eqv_g (x : Nat × Nat) : PyData.eqv (pG x) (pG x) = true := by simp [pG, PyData.eqv, PyData.eqvAll]
theorem eqv_gs : ∀ xs : List (Nat × Nat), PyData.eqvAll (xs.map pG) (xs.map pG) = true
  | [] => rfl
  | x :: xs => by rw [List.map_cons, PyData.eqvAll, eqv_gs xs, eqv_g]; rfl
theorem plain_gs : ∀ xs : List (Nat × Nat), PyData.plainAll (xs.map pG) = true
  | [] => rfl
  | x :: xs => by
    rw [List.map_cons, PyData.plainAll, plain_gs xs]
    simp [pG, PyData.plain, PyData.plainAll]
theorem depth_gs : ∀ xs : List (Nat × Nat), PyData.depthAll (xs.map pG) ≤ 2
  | [] => by simp [PyData.depthAll]
  | x :: xs => by
    have := depth_gs xs
    rw [List.map_cons, PyData.depthAll]
    simp only [pG, PyData.depth, PyData.depthAll]; omega
theorem eqok_g (x : Nat × Nat) : EqOk (pG x) := ⟨by simp [pG, PyData.plain, PyData.plainAll], by simp [pG, PyData.depth, PyData.depthAll]⟩
theorem eqok_gs (xs : List (Nat × Nat)) : EqOk (.list (xs.map pG)) := ⟨by rw [PyData.plain]; exact plain_gs xs, by have := depth_gs xs; rw [PyData.depth]; omega⟩
section
variable {X : Cx} {c : Ct} {σ : Sl} {m m1 m2 : Mem} {K : R → Mem → Prop} {k : Nat} {a b : Addr}
theorem o_neG {x : Nat × Nat} (L : Live X c k) (z : K (rB false) m) : OP X c σ m (compareOp .NotEq) (.dat (tG x)) (.dat (tG x)) K :=
  o_neD L (pv_g m x) (pv_g m x) (eqok_g x) (eqok_g x) (by rw [eqv_g]; exact z)
theorem o_eqGs {xs : List (Nat × Nat)} (L : Live X c k) (h1 : Has m a (.lst (xs.map fun x => R.dat (tG x))) m1) (h2 : Has m b (.lst (xs.map fun x => R.dat (tG x))) m2) (z : K (rB true) m) : OP X c σ m (compareOp .Eq) (.own a) (.own b) K :=
  o_eqD L (.lst (.own h1) (pvs_g m xs)) (.lst (.own h2) (pvs_g m xs)) (eqok_gs xs) (eqok_gs xs) (by rw [PyData.eqv, eqv_gs]; exact z)
end
section
variable {P : Program} {w : World} {K : PySem.W.Frag} {mg : Str → Option Value} {base : Heap} {f : Addr} {fd : FuncData}
def spPairsKept (CX : Addr) : Sp2 := fun rs m Kr Ke => ∃ (l : List Nat) (xs : List XR) (d : Nat) (v : List Nat) (tb : List (Key × D2.D)), rs = [.dat (exD CX l xs d), rS v, .dat (.dk tb)] ∧ l ∈ alphabets ∧ ExOk l xs ∧ InL l v ∧ v.length ≤ 30 ∧ TbP v (xv xs (xs.length - 1)) tb ∧ m = [] ∧ Kr (rB true) []
theorem sc__law_pairs_kept : FnScope ["one", "word", "said", "due", "g", "told", "k", "h"] ["one", "word", "said"] (defScope (top 73)) := ⟨rfl, rfl, rfl, by decide +kernel, rfl, by decide +kernel, by decide +kernel⟩
theorem ok_pairsKept {C_Expression C_BadWord C_TooLarge : Addr} (F : FunD K "_law_pairs_kept" "_law_pairs_kept" (defArgs (top 73)) (defBody (top 73)) (defScope (top 73)) [] [] f fd) (m0_range : mg "range" = none) (m0_len : mg "len" = none) (c_stretches : CalleeG P w K mg base "stretches" 5 (spStretches C_Expression C_BadWord C_TooLarge)) (m0_isinstance : mg "isinstance" = none) (m0_list : mg "list" = none) (m0_tuple : mg "tuple" = none) (m0_bool : mg "bool" = none) : FnOk P w K mg base (L2N.CX P w) (6) f fd ["one", "word", "said"] (spOf K (spPairsKept C_Expression)) := by
  refine fn2 F sc__law_pairs_kept (by decide +kernel) (fun rs m Kr Ke ⟨_, _, _, _, _, e, _⟩ => by rw [e]; rfl) fun X c rs m Kr Ke D L hx ⟨l, xs, d, v, tb, er, hl, ok, hin, hv, htb, em, hk⟩ => ?_
  subst er em
  have m_range : X.mg "range" = none := D.mg_ m0_range
  have m_len : X.mg "len" = none := D.mg_ m0_len
  have e_stretches : Callee X "stretches" 5 (spStretches C_Expression C_BadWord C_TooLarge) := D.callee c_stretches
  have m_isinstance : X.mg "isinstance" = none := D.mg_ m0_isinstance
  have m_list : X.mg "list" = none := D.mg_ m0_list
  have m_tuple : X.mg "tuple" = none := D.mg_ m0_tuple
  have m_bool : X.mg "bool" = none := D.mg_ m0_bool
  have g_range : Gl X "range" := D.gl (by decide +kernel)
  have g_len : Gl X "len" := D.gl (by decide +kernel)
  have g_stretches : Gl X "stretches" := D.gl (by decide +kernel)
  have g_isinstance : Gl X "isinstance" := D.gl (by decide +kernel)
  have g_list : Gl X "list" := D.gl (by decide +kernel)
  have g_tuple : Gl X "tuple" := D.gl (by decide +kernel)
  have g_bool : Gl X "bool" := D.gl (by decide +kernel)
  have o_due : Own X "due" := D.own (by decide +kernel)
  have o_g : Own X "g" := D.own (by decide +kernel)
  have o_told : Own X "told" := D.own (by decide +kernel)
  have o_k : Own X "k" := D.own (by decide +kernel)
  refine dss_lo ?_
  show DSs X c [("one", some (.dat (exD C_Expression l xs d))), ("word", some (rS v)), ("said", some (.dat (.dk tb))), ("due", none), ("g", none), ("told", none), ("k", none), ("h", none)] [] (_ :: _) _
  have e1 : ((v.length : Nat) : Int) + 1 = ((v.length + 1 : Nat) : Int) := by omega
  have hEr : ∀ {Ke : Addr → List (Str × D2.D) → Mem → Prop}, WdEn 30 C_BadWord C_TooLarge Ke l v := ⟨fun h => absurd hin h, fun _ h => absurd hv (by omega)⟩
  ktf_call "d2"
  rename_i pd
  generalize ht : xv xs (xs.length - 1) = t at htb
  refine Held.of (dss_cons ?_)
  refine ds_for (ds := ups 0 (v.length + 1)) (fun i σ m => ∃ pd, σ = ([("one", some (.dat (exD C_Expression l xs d))), ("word", some (rS v)), ("said", some (.dat (.dk tb))), ("due", some (.own pd)), ("g", none), ("told", none), ("k", none), ("h", none)] : Sl) ∧ m = [(pd, .lst ((pairsL v.length t v i).map fun x => R.dat (tG x)))]) L (it_rng1 (by ktf_call "gl") (by ktf_call "mg") ?_) ?_ ?_
  · ktf_call "d2"
    exact ⟨by omega, by omega, by rw [e1, Int.toNat_natCast], pd, rfl, rfl⟩
  · rintro g d σ' m' hd ⟨pd, rfl, rfl⟩
    obtain ⟨hg, rfl⟩ := ups_at hd
    rw [show (0 : Int) + (g : Int) = (g : Int) by omega]
    have h3 := pairsL_len v.length t v g
    have h5 : g * (v.length + 1) ≤ 31 * 31 := Nat.mul_le_mul (by omega) (by omega)
    refine dg_name o_g (by ktf_call "put") ?_
    refine dss_lo ?_
    ktf_call "d2"
    refine de_lc (own := [("h", 7)]) (ds := ups (g : Int) (v.length + 1 - g)) (fun k rs m => rs = (pairsAt v.length t v g k).map (fun x => R.dat (tG x)) ∧ m = [(pd, .lst ((pairsL v.length t v g).map fun x => R.dat (tG x)))]) L (D.nd (by decide +kernel)) (blk_ok D (by decide +kernel)) (by decide +kernel) (by ktf_call "blk") (.name (by ktf_call "put") List.mem_cons_self) (it_rng2 (by ktf_call "gl") (by ktf_call "mg") ?_) ?_ ?_ ?_
    · ktf_call "d2"
      exact ⟨⟨by omega, by omega, by omega, by omega⟩, by rw [e1, show (((v.length + 1 : Nat) : Int) - (g : Int)).toNat = v.length + 1 - g by omega], rfl, rfl⟩
    · rintro k d rs m' hd ⟨rfl, rfl⟩
      obtain ⟨hk2, rfl⟩ := ups_at hd
      rw [show (g : Int) + (k : Int) = ((g + k : Nat) : Int) by omega]
      refine turn1 fun Xb c' hX hL => dt_val ?_
      ktf_call "d2"
      rw [cut_mid]
      refine x_fk (L := hL) .str (htb _ (part_str v g (g + k))) ?_
      refine ⟨_, rfl, fun hb => ?_, fun hb => ?_⟩
      · intro Xe hXe hLe
        ktf_call "d2"
        refine ⟨?_, rfl⟩
        rw [pairsAt_succ, if_pos hb, List.map_append]; rfl
      · refine ⟨?_, rfl⟩
        rw [pairsAt_succ, if_neg (by show ¬ t (List.drop g (List.take (g + k) v)) = true; rw [hb]; exact Bool.false_ne_true), List.append_nil]
    · have h4 := pairsAt_len v.length t v g (v.length + 1 - g)
      rw [ups_len]; omega
    rintro rs m' q ⟨rfl, rfl⟩
    rw [ups_len]
    have h4 := pairsAt_len v.length t v g (v.length + 1 - g)
    refine o_cat (.own (.there .here)) (.own .here) (by rw [List.length_map, List.length_map]; omega) fun p2 => ?_
    ktf_call "d2"
    exact ⟨_, _, by ktf_call "fog", List.Sublist.cons_cons _ (List.nil_sublist _), p2, rfl, by rw [pairsL_succ, List.map_append]⟩
  rintro σ' m' ⟨pd, rfl, rfl⟩
  rw [ups_len]
  generalize hps : pairsL v.length t v (v.length + 1) = ps
  have hpl : ps.length ≤ 2000 := by
    have h3 := pairsL_len v.length t v (v.length + 1)
    have h5 : (v.length + 1) * (v.length + 1) ≤ 31 * 31 := Nat.mul_le_mul (by omega) (by omega)
    rw [hps] at h3; omega
  ktf_call "d2"
  refine ⟨[], _, .nil, l, xs, d, v, rfl, hl, ok, by omega, rfl, hEr, fun _ _ p1 => ?_⟩
  rw [ht, hps]
  dsimp only [List.nil_append, List.cons_append]
  ktf_call "d2"
  ktf_call "go"
  refine Held.of (dss_cons ?_)
  refine ds_for (ds := ups 0 ps.length) (fun i σ m => σ = ([("one", some (.dat (exD C_Expression l xs d))), ("word", some (rS v)), ("said", some (.dat (.dk tb))), ("due", some (.own pd)), ("g", none), ("told", some (.own p1)), ("k", none), ("h", none)] : Sl) ∧ m = [(p1, .lst (ps.map fun x => R.dat (tG x))), (pd, .lst (ps.map fun x => R.dat (tG x)))]) L (it_rng1 (by ktf_call "gl") (by ktf_call "mg") ?_) ?_ ?_
  · ktf_call "d2"
    rw [List.length_map]
    exact ⟨by omega, by omega, by rw [Int.toNat_natCast], rfl, rfl⟩
  · rintro i d σ' m' hd ⟨rfl, rfl⟩
    obtain ⟨hi, rfl⟩ := ups_at hd
    rw [show (0 : Int) + (i : Int) = (i : Int) by omega]
    have e1 : (ps.map fun x => R.dat (tG x))[i]? = some (.dat (tG ps[i])) := by rw [List.getElem?_map, List.getElem?_eq_getElem hi]; rfl
    have a1 : atI (ps.map fun x => R.dat (tG x)) (i : Int) = some (.dat (tG ps[i])) := ati i e1 rfl
    generalize ps[i] = z at a1
    refine dg_name o_k (by ktf_call "put") ?_
    refine dss_lo ?_
    ktf_call "d2"
    ktf_call "go"
    refine o_neG L ?_
    ktf_call "yes"
    ktf_call "d2"
    ktf_call "go"
    exact ⟨_, _, by ktf_call "fog", List.Sublist.refl _, rfl, rfl⟩
  · rintro σ' m' ⟨rfl, rfl⟩
    ktf_call "d2"
    refine ⟨_, _, _, _, _, rfl, rfl, .here, ixN_ok (by omega) (by rw [List.length_append, List.length_map]; simp), ?_⟩
    ktf_call "d2"
    refine ⟨[], _, .nil, l, xs, d, v, rfl, hl, ok, by omega, rfl, hEr, fun _ _ p3 => ?_⟩
    rw [ht, hps]
    dsimp only [List.nil_append, List.cons_append]
    ktf_call "d2"
    refine o_eqGs L .here (.there (.there .here)) ?_
    exact ⟨_, List.nil_sublist _, hk⟩
end
end
/-! ## NK17h -/
section
set_option pp.maxSteps 1500
/-! k17: which refusal is due -/
local macro_rules | `(tactic| ktf_call "s") => `(tactic| ((with_reducible show DSs _ _ _ _ (Stmt.If _ _ _ _ :: _) _); refine held ?_))
local macro_rules | `(tactic| ktf_call "k") => `(tactic| ((with_reducible show (_ = true → _) ∧ (_ = false → _)); refine ⟨fun hyp => ?_, fun hyp => ?_⟩ <;> (try simp only [decide_eq_true_eq, decide_eq_false_iff_not, Bool.not_eq_true', Bool.not_eq_false', Bool.not_true, Bool.not_false, Bool.true_eq_false, Bool.false_eq_true, Int.not_lt, Int.not_le, nil_len, Nat.pos_iff_ne_zero.symm, not_true_eq_false] at hyp)))
local macro_rules | `(tactic| ktf_call "k") => `(tactic| ((with_reducible show (_ = false → _) ∧ (_ = true → _)); refine ⟨fun hyp => ?_, fun hyp => ?_⟩ <;> (try simp only [decide_eq_true_eq, decide_eq_false_iff_not, Bool.not_eq_true', Bool.not_eq_false', Bool.not_true, Bool.not_false, Bool.true_eq_false, Bool.false_eq_true, Int.not_lt, Int.not_le, nil_len, Nat.pos_iff_ne_zero.symm, not_true_eq_false] at hyp)))
local macro_rules | `(tactic| ktf_call "go") => `(tactic| (refine Held.of ?_; refine dss_cons ?_; refine ds_if ?_; ktf_call "d2"))
/-- the fault of a word, at most n letters -/
inductive FltN (n : Nat) (l v : List Nat) : Str → Str → D2.D → Prop
  | word (h : ¬ InL l v) : FltN n l v "BadWord" "word" (.str v)
  | large (h : InL l v) (h2 : n < v.length) : FltN n l v "TooLarge" "many" (.int v.length)
def adrN (CW CL : Addr) (cn : Str) : Addr := if cn = "BadWord" then CW else CL
theorem FltN.er {n : Nat} {CW CL : Addr} {l v : List Nat} {cn fld : Str} {d : D2.D} {Ke : Addr → List (Str × D2.D) → Mem → Prop} (h : FltN n l v cn fld d) (k : Ke (adrN CW CL cn) [(fld, d)] []) : WdEn n CW CL Ke l v := by
  cases h with
  | word h => exact ⟨fun _ => k, fun q => absurd q h⟩
  | large h h2 => exact ⟨fun q => absurd h q, fun _ _ => k⟩
theorem FltN.not {n : Nat} {l v : List Nat} {cn fld : Str} {d : D2.D} (h : FltN n l v cn fld d) (h1 : InL l v) (h2 : v.length ≤ n) : False := by
  cases h with
  | word h => exact h h1
  | large _ h => omega
theorem FltN.tbl {n : Nat} {l v : List Nat} {cn fld : Str} {d : D2.D} (h : FltN n l v cn fld d) : (cn, fld) ∈ tblD := by cases h <;> simp [tblD]
/-- a refusal told -/
theorem FltN.dp {n : Nat} {l v : List Nat} {cn fld : Str} {d : D2.D} (h : FltN n l v cn fld d) : ∃ pd, DP d pd := by
  cases h with
  | word h => exact ⟨_, .inl ⟨_, rfl, rfl⟩⟩
  | large h h2 => exact ⟨_, .inr ⟨_, rfl, rfl⟩⟩
section
variable {P : Program} {w : World} {K : PySem.W.Frag} {mg : Str → Option Value} {base : Heap} {f : Addr} {fd : FuncData}
/-- at most 60 letters, 30 where the stretches are asked -/
def bndD (deed : Int) : Nat := if deed = 0 then 60 else 30
def spAsk17 (CX : Addr) : Sp2 := fun rs m Kr Ke => ∃ (deed : Int) (l : List Nat) (xs : List XR) (dp : Nat) (v : List Nat), rs = [D2.rI deed, .dat (exD CX l xs dp), rS v] ∧ l ∈ alphabets ∧ ExOk l xs ∧ v.length ≤ 1000 ∧ m = [] ∧ (InL l v → v.length ≤ bndD deed → (deed = 0 → ∀ q b, Kr (.own q) [(q, .lst [rS (lit "told"), rB b])]) ∧ (deed ≠ 0 → ∀ q p rs, Kr (.own q) [(q, .lst [rS (lit "told"), .own p]), (p, .lst rs)])) ∧ (∀ cn fld d, FltN (bndD deed) l v cn fld d → ∀ q q2, Kr (.own q) [(q, .lst [rS (lit "refused"), .own q2, .dat d]), (q2, .lst [D2.rI (kix cn : Nat)])])
theorem sc__law_ask : FnScope ["deed", "one", "word", "e"] ["deed", "one", "word"] (defScope (top 65)) := ⟨rfl, rfl, rfl, by decide +kernel, rfl, by decide +kernel, by decide +kernel⟩
theorem ok_ask17 {C_Expression C_BadWord C_TooLarge : Addr} (F : FunD K "_law_ask" "_law_ask" (defArgs (top 65)) (defBody (top 65)) (defScope (top 65)) [] [] f fd) (c_holds : CalleeG P w K mg base "holds" 5 (spHolds C_Expression C_BadWord C_TooLarge)) (c_stretches : CalleeG P w K mg base "stretches" 5 (spStretches C_Expression C_BadWord C_TooLarge)) (cx__law_error : CalleeX P w K mg base "_law_error" 2 (spErrD K mg)) (O_BadWord : ExcN K mg C_BadWord "BadWord" "word") (O_TooLarge : ExcN K mg C_TooLarge "TooLarge" "many") : FnOk P w K mg base (L2N.CX P w) (6) f fd ["deed", "one", "word"] (spOf K (spAsk17 C_Expression)) := by
  refine fn2 F sc__law_ask (by decide +kernel) (fun rs m Kr Ke ⟨_, _, _, _, _, e, _⟩ => by rw [e]; rfl) fun X c rs m Kr Ke D L hx ⟨deed, l, xs, dp, v, er, hl, ok, hv, em, hko, hkf⟩ => ?_
  subst er em
  have e_holds : Callee X "holds" 5 (spHolds C_Expression C_BadWord C_TooLarge) := D.callee c_holds
  have e_stretches : Callee X "stretches" 5 (spStretches C_Expression C_BadWord C_TooLarge) := D.callee c_stretches
  have ex__law_error : CalleeX X.prog X.w X.K X.mg X.base "_law_error" 2 (spErrD X.K X.mg) := by have z := cx__law_error; rw [← D.prog, ← D.w, ← D.K, ← D.mg, ← D.base] at z; exact z
  have oo_BadWord : ExcN X.K X.mg C_BadWord "BadWord" "word" := by rw [D.K, D.mg]; exact O_BadWord
  have oo_TooLarge : ExcN X.K X.mg C_TooLarge "TooLarge" "many" := by rw [D.K, D.mg]; exact O_TooLarge
  have g_holds : Gl X "holds" := D.gl (by decide +kernel)
  have g_stretches : Gl X "stretches" := D.gl (by decide +kernel)
  have g__law_error : Gl X "_law_error" := D.gl (by decide +kernel)
  have o_e : Own X "e" := D.own (by decide +kernel)
  refine dss_lo ?_
  show DSs X c [("deed", some (D2.rI deed)), ("one", some (.dat (exD C_Expression l xs dp))), ("word", some (rS v)), ("e", none)] [] (_ :: _) _
  obtain ⟨B, hB, xW⟩ := oo_BadWord.base
  have gB : ∀ {C : Addr} {cn fld : Str}, ExcN X.K X.mg C cn fld → PySem.W.exmOne X.K (.ref C) (.ref B) = some true := fun O => by
    obtain ⟨B2, h2, x2⟩ := O.base
    have : B2 = B := by rw [hB] at h2; exact (Value.ref.inj (Option.some.inj h2)).symm
    rw [← this]; exact x2
  have g0 : Gl X "NocountersError" := D.gl (by decide +kernel)
  refine dss_cons ?_
  refine ds_try (cv := .ref B) L D.stk D.fra (D.nd (by decide +kernel)) (by rw [D.N]; decide +kernel) (by unfold Env.kindOf; rw [D.sc]; decide +kernel) ⟨g0, by decide +kernel, .inl hB⟩ fun pn xe c2 hxe L1 => ?_
  have caught : ∀ cn fld d, FltN (bndD deed) l v cn fld d → c2.ex ([("deed", some (D2.rI deed)), ("one", some (.dat (exD C_Expression l xs dp))), ("word", some (rS v)), ("e", none)] : Sl) [] (adrN C_BadWord C_TooLarge cn) [(fld, d)] := by
    intro cn fld d hd
    have hO : ExcN X.K X.mg (adrN C_BadWord C_TooLarge cn) cn fld := by
      have ht := hd
      cases ht with
      | word _ => exact oo_BadWord
      | large _ _ => exact oo_TooLarge
    have htb := hd.tbl
    refine hxe _ _ _ _ ⟨true, gB hO, fun _ => ?_, fun h => by cases h⟩
    refine ⟨_, by ktf_call "put", fun ⟨a, oe⟩ pn2 c3 hno Cg L2 => ?_⟩
    have y1 : Gl (X.suite a ((a, oe) :: pn2)) "_law_error" := g__law_error
    refine dss_cons ?_
    refine ds_ret ?_
    refine de_callX (X := X.suite a ((a, oe) :: pn2)) ex__law_error L2 y1 ?_ (hjk := by omega)
    ktf_call "d2"
    refine ⟨[], _, Split.nil, fun G xG => ⟨_, cn, fld, _, d, rfl, hO, htb, Cg.up xG, by simp, rfl, fun q q2 => ?_⟩⟩
    exact ⟨_, List.Sublist.refl _, hkf _ _ _ hd q q2⟩
  have g1 : Gl (X.tr pn xe) "holds" := g_holds
  have g2 : Gl (X.tr pn xe) "stretches" := g_stretches
  have wd : ∀ n, n = bndD deed → WdEn n C_BadWord C_TooLarge (fun C fs m' => c2.ex ([("deed", some (D2.rI deed)), ("one", some (.dat (exD C_Expression l xs dp))), ("word", some (rS v)), ("e", none)] : Sl) (m' ++ []) C fs) l v := fun n hn => by
    subst hn
    exact ⟨fun h => caught _ _ _ (.word h), fun h1 h2 => caught _ _ _ (.large h1 h2)⟩
  ktf_call "d2"
  ktf_call "go"
  · rename_i hyp
    have hb : (60 : Nat) = bndD deed := by rw [bndD, if_pos hyp]
    refine ⟨[], _, .nil, l, xs, dp, v, rfl, hl, ok, hv, rfl, wd 60 hb, fun h1 h2 => ?_⟩
    dsimp only [List.nil_append, List.cons_append]
    ktf_call "d2"
    exact ⟨_, List.Sublist.refl _, (hko h1 (by omega)).1 hyp _ _⟩
  · rename_i hyp
    have hb : (30 : Nat) = bndD deed := by rw [bndD, if_neg hyp]
    refine ⟨[], _, .nil, l, xs, dp, v, rfl, hl, ok, hv, rfl, wd 30 hb, fun h1 h2 p2 => ?_⟩
    dsimp only [List.nil_append, List.cons_append]
    ktf_call "d2"
    exact ⟨_, List.Sublist.refl _, (hko h1 (by omega)).2 hyp _ _ _⟩
end
end
/-! ## NPow -/
section
/-! letters told over and over, plain -/
theorem inl_pow {l u : List Nat} (h : InL l u) (n : Nat) : InL l (List.replicate n u).flatten := fun x hx => by
  obtain ⟨y, hy, hxy⟩ := List.mem_flatten.mp hx
  rw [List.eq_of_mem_replicate hy] at hxy
  exact h x hxy
theorem pow_lenF (u : List Nat) (n : Nat) : (List.replicate n u).flatten.length = u.length * n := by simp [Nat.mul_comm]
end
/-! ## NK17i -/
section
set_option maxHeartbeats 4000000
set_option pp.maxSteps 1500
/-! k17: refusals asked -/
local macro_rules | `(tactic| ktf_call "s") => `(tactic| ((with_reducible show DSs _ _ _ _ (Stmt.If _ _ _ _ :: _) _); refine held ?_))
local macro_rules | `(tactic| ktf_call "k") => `(tactic| ((with_reducible show (_ = true → _) ∧ (_ = false → _)); refine ⟨fun hyp => ?_, fun hyp => ?_⟩ <;> (try simp only [decide_eq_true_eq, decide_eq_false_iff_not, Bool.not_eq_true', Bool.not_eq_false', Bool.not_true, Bool.not_false, Bool.true_eq_false, Bool.false_eq_true, Int.not_lt, Int.not_le, nil_len, Nat.pos_iff_ne_zero.symm, not_true_eq_false] at hyp)))
local macro_rules | `(tactic| ktf_call "k") => `(tactic| ((with_reducible show (_ = false → _) ∧ (_ = true → _)); refine ⟨fun hyp => ?_, fun hyp => ?_⟩ <;> (try simp only [decide_eq_true_eq, decide_eq_false_iff_not, Bool.not_eq_true', Bool.not_eq_false', Bool.not_true, Bool.not_false, Bool.true_eq_false, Bool.false_eq_true, Int.not_lt, Int.not_le, nil_len, Nat.pos_iff_ne_zero.symm, not_true_eq_false] at hyp)))
local macro_rules | `(tactic| ktf_call "go") => `(tactic| (refine Held.of ?_; refine dss_cons ?_; refine ds_if ?_; ktf_call "d2"))
local macro_rules | `(tactic| ktf_call "sp") => `(tactic| ((with_reducible refine' sp_draw ?hs ?ho ?h0 ?h1 (fun d o' _ _ _ => ?kk)); (case hs => ktf_call "has"); (case ho => ktf_call "side"); (case h0 => ktf_call "side"); (case h1 => ktf_call "side"); (case' kk => dsimp only [List.nil_append, List.cons_append])))
local macro_rules | `(tactic| ktf_call "sp") => `(tactic| ((with_reducible refine' sp_pickW ?hs ?ho ?hl ?h0 ?h1 (fun d o' _ _ _ => ?kk)); (case hs => ktf_call "has"); (case ho => ktf_call "side"); (case hl => exact ⟨by omega, by omega⟩); (case h0 => ktf_call "side"); (case h1 => ktf_call "side"); (case' kk => dsimp only [List.nil_append, List.cons_append])))
local macro_rules | `(tactic| ktf_call "side") => `(tactic| exact log_small (by omega) (by omega))
local macro_rules | `(tactic| ktf_call "s") => `(tactic| ((with_reducible show DSs _ _ _ _ (Stmt.For _ _ _ _ _ :: _) _); refine held ?_))
abbrev odds17 (l : List Nat) : List (List Nat) := [[(lit "bcd").getD ((l.length : Int) - 1).toNat 0], lit "d", lit "A", lit " ", lit "\n", lit "1"]
theorem odds17_ok : ∀ l ∈ alphabets, ∀ s ∈ odds17 l, s.length = 1 ∧ ¬ InL l s := by decide +kernel
theorem not_inl_m {l a b s : List Nat} (h : ¬ InL l s) : ¬ InL l (a ++ s ++ b) := fun q => h fun c hc => q c (by simp [hc])
theorem not_inl_l {l s t : List Nat} (h : ¬ InL l s) : ¬ InL l (s ++ t) := fun q => h fun c hc => q c (by simp [hc])
theorem not_inl_r {l s t : List Nat} (h : ¬ InL l s) : ¬ InL l (t ++ s) := fun q => h fun c hc => q c (by simp [hc])
local macro_rules | `(tactic| ktf_call "e") => `(tactic| ((with_reducible show DE _ _ _ _ (.Call (.Name "int" _) _ _ _) _); refine d_intB (by ktf_call "gl") (by ktf_call "mg") ?_))
theorem kix1 : ((kix "BadWord" : Nat) : Int) = 1 := by decide +kernel
theorem kix4 : ((kix "TooLarge" : Nat) : Int) = 4 := by decide +kernel
section
variable {m rest : Mem} {Kr : Mem → R → Mem → Prop} {Ke : Mem → Addr → List (Str × D2.D) → Mem → Prop}
theorem sp_ask17F {CX : Addr} {deed : Int} {l : List Nat} {xs : List XR} {dp : Nat} {v : List Nat} {cn fld : Str} {d : D2.D} (hl : l ∈ alphabets) (ok : ExOk l xs) (hv : v.length ≤ 1000) (hf : FltN (bndD deed) l v cn fld d) {i : Int} (hi : ((kix cn : Nat) : Int) = i) (k : ∀ q q2, Kr m (.own q) [(q, .lst [rS (lit "refused"), .own q2, .dat d]), (q2, .lst [D2.rI i])]) : ∃ mf rest, Split m mf rest ∧ spAsk17 CX [D2.rI deed, .dat (exD CX l xs dp), rS v] mf (Kr rest) (Ke rest) :=
  ⟨[], m, .nil, deed, l, xs, dp, v, rfl, hl, ok, hv, rfl, fun h1 h2 => (hf.not h1 h2).elim, fun cn2 fld2 d2 hf2 => by
    have e : kix cn2 = kix cn ∧ d2 = d := by
      cases hf with
      | word h => cases hf2 with
        | word h' => exact ⟨rfl, rfl⟩
        | large h' h2 => exact absurd h' h
      | large h h2 => cases hf2 with
        | word h' => exact absurd h h'
        | large h' h2 => exact ⟨rfl, rfl⟩
    rw [e.1, e.2, hi]; exact k⟩
theorem sp_ask17A {CX : Addr} {l : List Nat} {xs : List XR} {dp : Nat} {v : List Nat} (hl : l ∈ alphabets) (ok : ExOk l xs) (h1 : InL l v) (h2 : v.length ≤ 60) (k : ∀ q b, Kr m (.own q) [(q, .lst [rS (lit "told"), rB b])]) : ∃ mf rest, Split m mf rest ∧ spAsk17 CX [D2.rI 0, .dat (exD CX l xs dp), rS v] mf (Kr rest) (Ke rest) :=
  ⟨[], m, .nil, 0, l, xs, dp, v, rfl, hl, ok, by omega, rfl, fun _ _ => ⟨fun _ => k, fun h => absurd rfl h⟩, fun _ _ _ hf => (hf.not h1 h2).elim⟩
theorem sp_ask17B {CX : Addr} {l : List Nat} {xs : List XR} {dp : Nat} {v : List Nat} (hl : l ∈ alphabets) (ok : ExOk l xs) (h1 : InL l v) (h2 : v.length ≤ 30) (k : ∀ q p rs, Kr m (.own q) [(q, .lst [rS (lit "told"), .own p]), (p, .lst rs)]) : ∃ mf rest, Split m mf rest ∧ spAsk17 CX [D2.rI 1, .dat (exD CX l xs dp), rS v] mf (Kr rest) (Ke rest) :=
  ⟨[], m, .nil, 1, l, xs, dp, v, rfl, hl, ok, by omega, rfl, fun _ _ => ⟨fun h => absurd h (by decide), fun _ => k⟩, fun _ _ _ hf => (hf.not h1 h2).elim⟩
end
section
variable {P : Program} {w : World} {K : PySem.W.Frag} {mg : Str → Option Value} {base : Heap} {f : Addr} {fd : FuncData}
def spRefusals17 (CX : Addr) : Sp2 := fun rs m Kr Ke => ∃ (p : Addr) (o : O) (l : List Nat) (xs : List XR) (dp : Nat), rs = [.own p, rS l, .dat (exD CX l xs dp)] ∧ l ∈ alphabets ∧ ExOk l xs ∧ m = [(p, o)] ∧ Pl o ∧ ∀ o', Pl o' → Kr (rB true) [(p, o')]
theorem sc__law_refusals_kept : FnScope ["pool", "letters", "one", "word", "at", "odd", "size", "deed", "long", "given", "many"] ["pool", "letters", "one"] (defScope (top 77)) := ⟨rfl, rfl, rfl, by decide +kernel, rfl, by decide +kernel, by decide +kernel⟩
theorem ok_refusals17 {C_Expression : Addr} (F : FunD K "_law_refusals_kept" "_law_refusals_kept" (defArgs (top 77)) (defBody (top 77)) (defScope (top 77)) [] [] f fd) (c__law_word : CalleeG P w K mg base "_law_word" 3 spPickWord) (c__law_draw : CalleeG P w K mg base "_law_draw" 2 spDraw) (m0_len : mg "len" = none) (m0_int : mg "int" = none) (c__law_ask : CalleeG P w K mg base "_law_ask" 6 (spAsk17 C_Expression)) : FnOk P w K mg base (L2N.CX P w) (7) f fd ["pool", "letters", "one"] (spOf K (spRefusals17 C_Expression)) := by
  refine fn2 F sc__law_refusals_kept (by decide +kernel) (fun rs m Kr Ke ⟨_, _, _, _, _, e, _⟩ => by rw [e]; rfl) fun X c rs m Kr Ke D L hx ⟨p, o, l, xs, dp, er, hl, ok, em, ho, hk⟩ => ?_
  subst er em
  have e__law_word : Callee X "_law_word" 3 spPickWord := D.callee c__law_word
  have e__law_draw : Callee X "_law_draw" 2 spDraw := D.callee c__law_draw
  have m_len : X.mg "len" = none := D.mg_ m0_len
  have m_int : X.mg "int" = none := D.mg_ m0_int
  have e__law_ask : Callee X "_law_ask" 6 (spAsk17 C_Expression) := D.callee c__law_ask
  have g__law_word : Gl X "_law_word" := D.gl (by decide +kernel)
  have g__law_draw : Gl X "_law_draw" := D.gl (by decide +kernel)
  have g_len : Gl X "len" := D.gl (by decide +kernel)
  have g_int : Gl X "int" := D.gl (by decide +kernel)
  have g__law_ask : Gl X "_law_ask" := D.gl (by decide +kernel)
  have o_word : Own X "word" := D.own (by decide +kernel)
  have o_at : Own X "at" := D.own (by decide +kernel)
  have o_odd : Own X "odd" := D.own (by decide +kernel)
  have o_size : Own X "size" := D.own (by decide +kernel)
  have o_deed : Own X "deed" := D.own (by decide +kernel)
  have o_long : Own X "long" := D.own (by decide +kernel)
  have o_given : Own X "given" := D.own (by decide +kernel)
  have o_many : Own X "many" := D.own (by decide +kernel)
  refine dss_lo ?_
  show DSs X c [("pool", some (.own p)), ("letters", some (rS l)), ("one", some (.dat (exD C_Expression l xs dp))), ("word", none), ("at", none), ("odd", none), ("size", none), ("deed", none), ("long", none), ("given", none), ("many", none)] [(p, o)] (_ :: _) _
  obtain ⟨hl0, hl3, hla⟩ := alph_len hl
  have hbcd : (lit "bcd").length = 3 := by decide
  ktf_call "d2"
  rename_i d1 o1 h10 h11 ho1 w o2 hw1 hw2 ho2 ai o3 ha0 ha1 ho3 p1 d4 o4 h40 h41 ho4
  obtain ⟨ai, rfl⟩ := Int.eq_ofNat_of_zero_le ha0
  refine x_S (xs := odds17 l) (.own (.there .here)) ⟨h40, by show d4 < 6; omega⟩ ?_
  obtain ⟨hol, hoa⟩ := odds17_ok l hl _ (getD_in (z := []) h40 (show d4 < ((odds17 l).length : Nat) by show d4 < 6; omega))
  generalize (odds17 l).getD d4.toNat [] = odd at hol hoa
  refine dss_in (m' := [(p, o4)]) ?_ (Fog.refl _) (by ktf_call "sub")
  refine dss_cons ?_
  have hc1 := cut_len w none (some (ai : Int))
  have hc2 := cut_len w (some (ai : Int)) none
  have hbad : ¬ InL l (cutL w none (some (ai : Int)) ++ odd ++ cutL w (some (ai : Int)) none) := not_inl_m hoa
  have hbl : (cutL w none (some (ai : Int)) ++ odd ++ cutL w (some (ai : Int)) none).length ≤ 200 := by rw [List.length_append, List.length_append]; omega
  refine ds_for (ds := [.int 60, .int 30]) (fun i σ m => ∃ o, σ = ([("pool", some (.own p)), ("letters", some (rS l)), ("one", some (.dat (exD C_Expression l xs dp))), ("word", some (rS w)), ("at", some (D2.rI ai)), ("odd", some (rS odd)), ("size", none), ("deed", none), ("long", none), ("given", none), ("many", none)] : Sl) ∧ m = [(p, o)] ∧ Pl o) L (it_list ?_) ?_ ?_
  · ktf_call "d2"
    exact ⟨_, _, .lst .here (.cons .dat (.cons .dat .nil)), rfl, o4, rfl, rfl, ho4⟩
  · rintro i d σ' m' hd ⟨o, rfl, rfl, ho⟩
    obtain ⟨sz, rfl, hsz⟩ : ∃ sz : Nat, d = .int (sz : Int) ∧ (sz = 60 ∨ sz = 30) := by
      rcases i with _ | _ | i
      · cases hd; exact ⟨60, rfl, .inl rfl⟩
      · cases hd; exact ⟨30, rfl, .inr rfl⟩
      · cases hd
    obtain ⟨dd, hdd, hbd⟩ : ∃ dd : Int, (if decide ((sz : Int) = 30) = true then (1 : Int) else 0) = dd ∧ bndD dd = sz := by
      rcases hsz with rfl | rfl
      · exact ⟨0, rfl, rfl⟩
      · exact ⟨1, rfl, rfl⟩
    refine dg_name o_size (by ktf_call "put") ?_
    refine dss_lo ?_
    ktf_call "d2"
    rw [hdd]
    rename_i d5 o5 h50 h51 ho5 long o6 hlo1 hlo2 ho6
    have hll : long.length ≤ 70 := by omega
    refine Held.of (dss_cons ?_)
    refine ds_forC (fun d => ∃ u, d = .str u ∧ ¬ InL l u ∧ u.length ≤ 300) L o_given (by ktf_call "put") (it_list ?_) ?_ ?_
    · ktf_call "d2"
      refine ⟨[.str (cutL w none (some (ai : Int)) ++ odd ++ cutL w (some (ai : Int)) none), .str (long ++ odd), .str (odd ++ long)], _, .lst .here (.cons .dat (.cons .dat (.cons .dat .nil))), fun j d hd => ?_, rfl⟩
      rcases j with _ | _ | _ | j
      · cases hd; exact ⟨_, rfl, hbad, by omega⟩
      · cases hd; exact ⟨_, rfl, not_inl_r hoa, by rw [List.length_append]; omega⟩
      · cases hd; exact ⟨_, rfl, not_inl_l hoa, by rw [List.length_append]; omega⟩
      · cases hd
    · rintro d Nx ⟨u, rfl, hu, hul⟩ hN
      refine dss_lo ?_
      ktf_call "d2"
      ktf_call "go"
      refine sp_ask17F hl ok (by omega) (.word hu) kix1 fun q q2 => ?_
      dsimp only [List.nil_append, List.cons_append]
      ktf_call "d2"
      refine o_neTrip L (.inl ⟨_, rfl, rfl⟩) (by ktf_call "has") (by ktf_call "has") (by ktf_call "has") (by ktf_call "has") ?_
      ktf_call "yes"
      ktf_call "d2"
      exact ⟨_, [(p, o6)], by ktf_call "fog", by ktf_call "sub", hN⟩
    ktf_call "d2"
    ktf_call "go"
    refine sp_ask17F hl ok (by omega) (.large hlo2 (by omega)) kix4 fun q q2 => ?_
    dsimp only [List.nil_append, List.cons_append]
    ktf_call "d2"
    refine o_neTrip L (.inr ⟨_, rfl, rfl⟩) (by ktf_call "has") (by ktf_call "has") (by ktf_call "has") (by ktf_call "has") ?_
    ktf_call "yes"
    refine dss_in (m' := [(p, o6)]) ?_ (Fog.refl _) (by ktf_call "sub")
    have hc3 : (cutL long none (some ((sz : Int) + 1))).length = sz + 1 := by rw [show (sz : Int) + 1 = ((sz + 1 : Nat) : Int) by omega, lw_to, List.length_take]; omega
    have hi3 : InL l (cutL long none (some ((sz : Int) + 1))) := inl_cut hlo2
    have hc4 : ((cutL long none (some ((sz : Int) + 1))).length : Int) = (sz : Int) + 1 := by omega
    ktf_call "d2"
    ktf_call "go"
    refine sp_ask17F hl ok (by omega) (.large hi3 (by omega)) kix4 fun q q2 => ?_
    rw [hc4]
    dsimp only [List.nil_append, List.cons_append]
    ktf_call "d2"
    refine o_neTrip L (.inr ⟨_, rfl, rfl⟩) (by ktf_call "has") (by ktf_call "has") (by ktf_call "has") (by ktf_call "has") ?_
    ktf_call "yes"
    ktf_call "d2"
    exact ⟨_, [(p, o6)], by ktf_call "fog", by ktf_call "sub", o6, rfl, rfl, ho6⟩
  · rintro σ' m' ⟨o, rfl, rfl, ho⟩
    ktf_call "d2"
    rename_i p2 d7 o7 h70 h71 ho7
    obtain ⟨mn, hmn, hm0, hm1⟩ : ∃ mn : Nat, ([0, 0, 0, 60] : List Int).getD d7.toNat 0 = (mn : Int) ∧ 0 ≤ mn ∧ mn ≤ 60 := by
      have : ∀ i, i < 4 → ∃ mn : Nat, ([0, 0, 0, 60] : List Int).getD i 0 = (mn : Int) ∧ 0 ≤ mn ∧ mn ≤ 60 := fun i hi => by
        rcases i with _ | _ | _ | _ | i
        · exact ⟨0, rfl, by omega, by omega⟩
        · exact ⟨0, rfl, by omega, by omega⟩
        · exact ⟨0, rfl, by omega, by omega⟩
        · exact ⟨60, rfl, by omega, by omega⟩
        · omega
      exact this _ (by omega)
    refine x_I (xs := [0, 0, 0, 60]) (.own (.there .here)) ⟨by omega, by simp; omega⟩ ?_
    rw [hmn]
    refine dss_in (m' := [(p, o7)]) ?_ (Fog.refl _) (by ktf_call "sub")
    have hch : InL l [l.getD (Int.toNat 0) 0] := inl_one hl0
    ktf_call "d2"
    ktf_call "go"
    generalize l.getD (Int.toNat 0) 0 = ch at hch
    refine o_mulStr (by omega) (by omega) (by show 1 * (mn : Int).toNat ≤ 1000000; omega) (by show 1 ≤ 1000000; decide) ?_
    refine da_nil ?_
    refine sp_ask17A hl ok (inl_pow hch _) (by rw [pow_lenF]; simp; omega) fun q b => ?_
    dsimp only [List.nil_append, List.cons_append]
    have hch2 : InL l [l.getD (Int.toNat 0) 0] := inl_one hl0
    ktf_call "d2"
    generalize l.getD (Int.toNat 0) 0 = ch2 at hch2
    refine o_mulStr (by omega) (by omega) (by show 1 * Int.toNat 30 ≤ 1000000; decide) (by show 1 ≤ 1000000; decide) ?_
    refine da_nil ?_
    refine sp_ask17B hl ok (inl_pow hch2 _) (by rw [pow_lenF]; simp) fun q p3 rs => ?_
    dsimp only [List.nil_append, List.cons_append]
    ktf_call "d2"
    exact ⟨_, by ktf_call "sub", hk o7 ho7⟩
end
section
variable {m rest : Mem} {p : Addr} {o : O} {Kr : Mem → R → Mem → Prop} {Ke : Mem → Addr → List (Str × D2.D) → Mem → Prop}
theorem sp_refusals17 {CX : Addr} {l : List Nat} {xs : List XR} {dp : Nat} (hs : Has m p o rest) (ho : Pl o) (hl : l ∈ alphabets) (ok : ExOk l xs) (k : ∀ o', Pl o' → Kr rest (rB true) [(p, o')]) : ∃ mf rest, Split m mf rest ∧ spRefusals17 CX [.own p, rS l, .dat (exD CX l xs dp)] mf (Kr rest) (Ke rest) :=
  ⟨[(p, o)], rest, .cons hs .nil, p, o, l, xs, dp, rfl, hl, ok, rfl, ho, k⟩
end
end
/-! ## NDr -/
section
/-! rows drawn, plain -/
/-- the words of rows -/
abbrev allW : List (List Nat) := [lit "yes", lit "letter", lit "not", lit "and", lit "or", lit "prev", lit "once", lit "since", lit "succ", lit "later", lit "until"]
abbrev firstW : List (List Nat) := [lit "letter", lit "yes"]
theorem first_in : ∀ x ∈ [lit "letter", lit "letter", lit "letter", lit "yes"], x ∈ allW ∧ x ∈ firstW := by decide +kernel
/-- rows drawn over the letters l -/
def Drawn (l : List Nat) (trs : List TR) : Prop := ∀ i (h : i < trs.length), (∀ j ∈ trs[i].row.refs, j < i) ∧ ∀ ch, trs[i] = .letter ch → ch ∈ l
theorem Drawn.nil {l : List Nat} : Drawn l [] := fun i h => absurd h (by simp)
theorem Drawn.snoc {l : List Nat} {trs : List TR} {r : TR} (h : Drawn l trs) (h1 : ∀ j ∈ r.row.refs, j < trs.length) (h2 : ∀ ch, r = .letter ch → ch ∈ l) : Drawn l (trs ++ [r]) := fun i hi => by
  by_cases e : i < trs.length
  · rw [List.getElem_append_left e]
    exact h i e
  · have : i = trs.length := by rw [List.length_append] at hi; simp at hi; omega
    subst this
    rw [List.getElem_append_right (Nat.le_refl _)]
    simp only [Nat.sub_self, List.getElem_cons_zero]
    exact ⟨h1, h2⟩
/-- the words of the rows are of the menu -/
def Menu (W : List (List Nat)) (trs : List TR) : Prop := ∀ r ∈ trs, r.row.w ∈ W ∨ r.row.w ∈ firstW
theorem Menu.snoc {W : List (List Nat)} {trs : List TR} {r : TR} (h : Menu W trs) (h1 : r.row.w ∈ W ∨ r.row.w ∈ firstW) : Menu W (trs ++ [r]) := fun x hx => by
  rcases List.mem_append.mp hx with h2 | h2
  · exact h x h2
  · rw [List.mem_singleton.mp h2]; exact h1
abbrev trR (trs : List TR) : List R := trs.map fun r => R.dat r.row.d
theorem trR_snoc {trs : List TR} {r : TR} : trR (trs ++ [r]) = trR trs ++ [R.dat r.row.d] := List.map_append
abbrev rowsT (trs : List TR) : List D2.D := rowsD (trs.map TR.row)
theorem rowsT_len (trs : List TR) : (rowsT trs).length = trs.length := by simp [rowsD]
end
/-! ## NTlA0 -/
section
/-! sheets as data, plain -/
theorem frzf_map (m : Mem) : ∀ fs : List (Str × D2.D), Frzf m (fs.map fun p => (p.1, R.dat p.2)) fs m
  | [] => .nil
  | (_, _) :: fs => .cons .dat (frzf_map m fs)
theorem rowsT_eq (t : List TR) : rowsT t = t.map fun r => r.row.d := by simp [rowsD]
theorem frz_rows (m : Mem) (t : List TR) : Frzs m (trR t) (rowsT t) m := by
  rw [rowsT_eq]
  exact frzs_f m (fun r : TR => r.row.d) t
theorem frz_rows2 (m : Mem) (t : List TR) : Frzs m ((rowsT t).map R.dat) (rowsT t) m := Frzs.map _ _
/-- a sheet as data -/
abbrev shR (t : List TR) : R := .dat (.lst (rowsT t))
/-- a sheet drawn -/
def Good (l : List Nat) (t : List TR) : Prop := Drawn l t ∧ 0 < t.length ∧ t.length ≤ 100
end
/-! ## NK17r -/
section
set_option maxHeartbeats 4000000
set_option pp.maxSteps 1500
/-! k17: each of the rows as a last one -/
local macro_rules | `(tactic| ktf_call "s") => `(tactic| ((with_reducible show DSs _ _ _ _ (Stmt.If _ _ _ _ :: _) _); refine held ?_))
local macro_rules | `(tactic| ktf_call "k") => `(tactic| ((with_reducible show (_ = true → _) ∧ (_ = false → _)); refine ⟨fun hyp => ?_, fun hyp => ?_⟩ <;> (try simp only [decide_eq_true_eq, decide_eq_false_iff_not, Bool.not_eq_true', Bool.not_eq_false', Bool.not_true, Bool.not_false, Bool.true_eq_false, Bool.false_eq_true, Int.not_lt, Int.not_le, nil_len, Nat.pos_iff_ne_zero.symm, not_true_eq_false] at hyp)))
local macro_rules | `(tactic| ktf_call "k") => `(tactic| ((with_reducible show (_ = false → _) ∧ (_ = true → _)); refine ⟨fun hyp => ?_, fun hyp => ?_⟩ <;> (try simp only [decide_eq_true_eq, decide_eq_false_iff_not, Bool.not_eq_true', Bool.not_eq_false', Bool.not_true, Bool.not_false, Bool.true_eq_false, Bool.false_eq_true, Int.not_lt, Int.not_le, nil_len, Nat.pos_iff_ne_zero.symm, not_true_eq_false] at hyp)))
local macro_rules | `(tactic| ktf_call "go") => `(tactic| (refine Held.of ?_; refine dss_cons ?_; refine ds_if ?_; ktf_call "d2"))
local macro_rules | `(tactic| ktf_call "s") => `(tactic| ((with_reducible show DSs _ _ _ _ (Stmt.For _ _ _ _ _ :: _) _); refine held ?_))
local macro_rules | `(tactic| ktf_call "e") => `(tactic| ((with_reducible show DE _ _ _ _ (.Call (.Name "Expression" _) _ _ _) _); refine de_frz ?_; refine de_make (by assumption) (by assumption) (by ktf_call "gl") ?_ (hjk := by omega)))
theorem xv_less {xs : List XR} {k i : Nat} (hk : k ≤ xs.length) (hi : i < k) : xv (xs.take k) i = xv xs i := by
  have a := xv_take xs k i hi hk
  have b := xv_take xs xs.length i (by omega) (Nat.le_refl _)
  rw [List.take_length] at b
  rw [a, b]
theorem xv_snoc (xs : List XR) (r : XR) : xv (xs ++ [r]) xs.length = r.tr (xv xs) := by
  unfold xv
  rw [xvs_snoc, List.getD_eq_getElem?_getD, List.getElem?_append_right (by rw [xvs_len]; exact Nat.le_refl _), xvs_len, Nat.sub_self]
  rfl
section
variable {m rest : Mem} {Kr : Mem → R → Mem → Prop} {Ke : Mem → Addr → List (Str × D2.D) → Mem → Prop}
theorem sp_holdsKept {CX : Addr} {l : List Nat} {xs : List XR} {d : Nat} {v : List Nat} {due : Bool} (hl : l ∈ alphabets) (ok : ExOk l xs) (hin : InL l v) (hv : v.length ≤ 60) (e : xv xs (xs.length - 1) v = due) (k : Kr m (rB true) []) : ∃ mf rest, Split m mf rest ∧ spHoldsKept CX [.dat (exD CX l xs d), rS v, rB due] mf (Kr rest) (Ke rest) :=
  ⟨[], m, .nil, l, xs, d, v, due, rfl, hl, ok, hin, hv, rfl, by rw [e, beq_self_eq_true]; exact k⟩
theorem sp_said17 {xs : List XR} {l v : List Nat} {a : Addr} (hs : Has m a (.lst (xrR xs)) rest) (h1 : DrX l xs) (h2 : xs.length ≤ 100) (h3 : v.length ≤ 100) (k : ∀ q tbs, tbs.length = xs.length → (∀ i (h : i < tbs.length), TbP v (xv xs i) tbs[i]) → Kr rest (.own q) [(q, .lst (tbsR tbs)), (a, .lst (xrR xs))]) : ∃ mf rest, Split m mf rest ∧ spSaid17 [.own a, rS v] mf (Kr rest) (Ke rest) :=
  ⟨_, rest, .cons hs .nil, xs, l, v, a, rfl, h1, h2, h3, rfl, k⟩
end
section
variable {P : Program} {w : World} {K : PySem.W.Frag} {mg : Str → Option Value} {base : Heap} {f : Addr} {fd : FuncData}
def spRowsKept17 (CX : Addr) : Sp2 := fun rs m Kr Ke => ∃ (l : List Nat) (xs : List XR) (v : List Nat) (a : Addr), rs = [rS l, .own a, rS v] ∧ l ∈ alphabets ∧ DrX l xs ∧ (0 < xs.length ∧ xs.length ≤ 100) ∧ InL l v ∧ v.length ≤ 60 ∧ m = [(a, .lst (xrR xs))] ∧ Kr (rB true) [(a, .lst (xrR xs))]
theorem sc__law_rows_kept : FnScope ["letters", "rows", "word", "said", "k", "one", "other"] ["letters", "rows", "word"] (defScope (top 74)) := ⟨rfl, rfl, rfl, by decide +kernel, rfl, by decide +kernel, by decide +kernel⟩
theorem ok_rowsKept17 {C_Expression : Addr} (F : FunD K "_law_rows_kept" "_law_rows_kept" (defArgs (top 74)) (defBody (top 74)) (defScope (top 74)) [] [] f fd) (c__law_said : CalleeG P w K mg base "_law_said" 2 spSaid17) (m0_range : mg "range" = none) (m0_len : mg "len" = none) (i_Expression : CalleeI P w K mg base "Expression" C_Expression 4 (spExInit C_Expression)) (c__law_holds_kept : CalleeG P w K mg base "_law_holds_kept" 6 (spHoldsKept C_Expression)) : FnOk P w K mg base (L2N.CX P w) (7) f fd ["letters", "rows", "word"] (spOf K (spRowsKept17 C_Expression)) := by
  refine fn2 F sc__law_rows_kept (by decide +kernel) (fun rs m Kr Ke ⟨_, _, _, _, e, _⟩ => by rw [e]; rfl) fun X c rs m Kr Ke D L hx ⟨l, xs, v, a, er, hl, hdr, ⟨hx0, hx1⟩, hin, hv, em, hk⟩ => ?_
  subst er em
  have e__law_said : Callee X "_law_said" 2 spSaid17 := D.callee c__law_said
  have m_range : X.mg "range" = none := D.mg_ m0_range
  have m_len : X.mg "len" = none := D.mg_ m0_len
  have j_Expression : CalleeI X.prog X.w X.K X.mg X.base "Expression" C_Expression 4 (spExInit C_Expression) := D.calleeI i_Expression
  have e__law_holds_kept : Callee X "_law_holds_kept" 6 (spHoldsKept C_Expression) := D.callee c__law_holds_kept
  have g__law_said : Gl X "_law_said" := D.gl (by decide +kernel)
  have g_range : Gl X "range" := D.gl (by decide +kernel)
  have g_len : Gl X "len" := D.gl (by decide +kernel)
  have g_Expression : Gl X "Expression" := D.gl (by decide +kernel)
  have g__law_holds_kept : Gl X "_law_holds_kept" := D.gl (by decide +kernel)
  have o_said : Own X "said" := D.own (by decide +kernel)
  have o_k : Own X "k" := D.own (by decide +kernel)
  have o_one : Own X "one" := D.own (by decide +kernel)
  have o_other : Own X "other" := D.own (by decide +kernel)
  refine dss_lo ?_
  show DSs X c [("letters", some (rS l)), ("rows", some (.own a)), ("word", some (rS v)), ("said", none), ("k", none), ("one", none), ("other", none)] [(a, .lst (xrR xs))] (_ :: _) _
  ktf_call "d2"
  refine sp_said17 .here hdr hx1 (by omega) fun q tbs htl htb => ?_
  dsimp only [List.nil_append, List.cons_append]
  refine dss_frzL (x := "said") (d := .lst (tbs.map .dk)) (by ktf_call "lk") (by ktf_call "put") (.lst .here (frzs_f _ D2.D.dk tbs)) ?_
  refine dss_cons ?_
  refine ds_for (ds := ups 0 xs.length) (fun i σ m => σ = ([("letters", some (rS l)), ("rows", some (.own a)), ("word", some (rS v)), ("said", some (.dat (.lst (tbs.map .dk)))), ("k", none), ("one", none), ("other", none)] : Sl) ∧ m = [(a, .lst (xrR xs))]) L (it_rng1 (by ktf_call "gl") (by ktf_call "mg") ?_) ?_ ?_
  · ktf_call "d2"
    rw [List.length_map]
    exact ⟨by omega, by omega, by rw [Int.toNat_natCast], rfl, rfl⟩
  · rintro k d σ' m' hd ⟨rfl, rfl⟩
    obtain ⟨hk2, rfl⟩ := ups_at hd
    rw [show (0 : Int) + (k : Int) = (k : Int) by omega]
    refine dg_name o_k (by ktf_call "put") ?_
    refine dss_lo ?_
    have htk : cutL (xrR xs) none (some ((k : Int) + 1)) = xrR (xs.take (k + 1)) := by
      rw [show (k : Int) + 1 = ((k + 1 : Nat) : Int) by omega]
      unfold cutL
      rw [HT.sIx_none, HT.sIx_nat, List.drop_zero, Nat.sub_zero, List.length_map, Nat.min_eq_left (by omega)]
      exact (List.map_take).symm
    have hd1 : DrX l (xs.take (k + 1)) := hdr.take _
    have hl1 : (xs.take (k + 1)).length = k + 1 := by rw [List.length_take]; omega
    have hd2 : DrX l (xs.take (k + 1) ++ [XR.not k]) := hd1.snoc (fun j hj => by
      have : j = k := by simpa [XR.row, Row.refs, It.ref] using hj
      omega) (fun a c b h => by cases h)
    have hl2 : (xs.take (k + 1) ++ [XR.not k]).length = k + 2 := by rw [List.length_append, hl1]; rfl
    have hv1 : xv (xs.take (k + 1)) ((xs.take (k + 1)).length - 1) v = xv xs k v := by rw [hl1, Nat.add_sub_cancel, xv_less (by omega) (by omega)]
    have hv2 : xv (xs.take (k + 1) ++ [XR.not k]) ((xs.take (k + 1) ++ [XR.not k]).length - 1) v = !xv xs k v := by
      have e := xv_snoc (xs.take (k + 1)) (.not k)
      rw [hl1] at e
      rw [hl2, show k + 2 - 1 = k + 1 by omega, e]
      show (!xv (xs.take (k + 1)) k v) = _
      rw [xv_less (by omega) (by omega)]
    obtain ⟨kv, ekv, htv⟩ : ∃ kv, (tbs.map D2.D.dk)[k]? = some (.dk kv) ∧ TbP v (xv xs k) kv := ⟨tbs[k], by rw [List.getElem?_map, List.getElem?_eq_getElem (by omega : k < tbs.length)]; rfl, htb k (by omega)⟩
    have hat : atI ((tbs.map D2.D.dk).map R.dat) (k : Int) = some (.dat (.dk kv)) := by
      refine ati k ?_ rfl
      rw [List.getElem?_map, ekv]; rfl
    have hr1 := xrR_rows (xs := xs.take (k + 1))
    have hr2 := xrR_rows (xs := xs.take (k + 1) ++ [XR.not k])
    ktf_call "d2"
    rename_i p1
    rw [htk, hr1]
    intro sf dx
    refine ⟨[(p1, .lst (rowsR ((xs.take (k + 1)).map XR.row)))], [(a, .lst (xrR xs))], .cons .here .nil, sf, dx, l, (xs.take (k + 1)).map XR.row, _, _, rfl, .own, hl, hd1.fits, hd1.fine (by omega), by rw [List.length_map]; omega, rfl, ⟨rfl, ?_⟩⟩
    dsimp only [List.nil_append, List.cons_append]
    refine ⟨_, _, .ins .here (frzf_map _ _), ?_⟩
    ktf_call "d2"
    rename_i p2 p3
    rw [htk]
    refine o_cat (.own (.there .here)) (.own .here) (by rw [List.length_map, hl1]; simp; omega) fun p4 => ?_
    rw [show xrR (xs.take (k + 1)) ++ [R.dat (D2.D.tup [.str (lit "not"), .int (k : Int)])] = xrR (xs.take (k + 1) ++ [XR.not k]) from (xrR_snoc (r := .not k)).symm, hr2]
    ktf_call "d2"
    intro sf2 dx2
    refine ⟨[(p4, .lst (rowsR ((xs.take (k + 1) ++ [XR.not k]).map XR.row)))], _, .cons .here .nil, sf2, dx2, l, (xs.take (k + 1) ++ [XR.not k]).map XR.row, _, _, rfl, .own, hl, hd2.fits, hd2.fine (by omega), by rw [List.length_map]; omega, rfl, ⟨rfl, ?_⟩⟩
    dsimp only [List.nil_append, List.cons_append]
    refine ⟨_, _, .ins .here (frzf_map _ _), ?_⟩
    refine dss_in (m' := [(a, .lst (xrR xs))]) ?_ (Fog.refl _) (by ktf_call "sub")
    ktf_call "d2"
    ktf_call "go"
    refine x_fk (L := L) .str (htv v (Part.self v)) ?_
    ktf_call "d2"
    refine sp_holdsKept (xs := xs.take (k + 1)) hl (hd1.ex (by omega) (by omega)) hin hv hv1 ?_
    ktf_call "yes"
    ktf_call "d2"
    ktf_call "go"
    refine x_fk (L := L) .str (htv v (Part.self v)) ?_
    ktf_call "d2"
    refine sp_holdsKept (xs := xs.take (k + 1) ++ [XR.not k]) hl (hd2.ex (by omega) (by omega)) hin hv hv2 ?_
    ktf_call "yes"
    ktf_call "d2"
    exact ⟨_, _, by ktf_call "fog", List.Sublist.refl _, rfl, rfl⟩
  · rintro σ' m' ⟨rfl, rfl⟩
    ktf_call "d2"
    exact ⟨_, List.Sublist.refl _, hk⟩
end
end
/-! ## NK17j -/
section
set_option maxHeartbeats 4000000
set_option pp.maxSteps 1500
/-! k17: long words -/
local macro_rules | `(tactic| ktf_call "s") => `(tactic| ((with_reducible show DSs _ _ _ _ (Stmt.If _ _ _ _ :: _) _); refine held ?_))
local macro_rules | `(tactic| ktf_call "k") => `(tactic| ((with_reducible show (_ = true → _) ∧ (_ = false → _)); refine ⟨fun hyp => ?_, fun hyp => ?_⟩ <;> (try simp only [decide_eq_true_eq, decide_eq_false_iff_not, Bool.not_eq_true', Bool.not_eq_false', Bool.not_true, Bool.not_false, Bool.true_eq_false, Bool.false_eq_true, Int.not_lt, Int.not_le, nil_len, Nat.pos_iff_ne_zero.symm, not_true_eq_false] at hyp)))
local macro_rules | `(tactic| ktf_call "k") => `(tactic| ((with_reducible show (_ = false → _) ∧ (_ = true → _)); refine ⟨fun hyp => ?_, fun hyp => ?_⟩ <;> (try simp only [decide_eq_true_eq, decide_eq_false_iff_not, Bool.not_eq_true', Bool.not_eq_false', Bool.not_true, Bool.not_false, Bool.true_eq_false, Bool.false_eq_true, Int.not_lt, Int.not_le, nil_len, Nat.pos_iff_ne_zero.symm, not_true_eq_false] at hyp)))
local macro_rules | `(tactic| ktf_call "go") => `(tactic| (refine Held.of ?_; refine dss_cons ?_; refine ds_if ?_; ktf_call "d2"))
local macro_rules | `(tactic| ktf_call "sp") => `(tactic| ((with_reducible refine' sp_draw ?hs ?ho ?h0 ?h1 (fun d o' _ _ _ => ?kk)); (case hs => ktf_call "has"); (case ho => ktf_call "side"); (case h0 => ktf_call "side"); (case h1 => ktf_call "side"); (case' kk => dsimp only [List.nil_append, List.cons_append])))
local macro_rules | `(tactic| ktf_call "side") => `(tactic| exact log_small (by omega) (by omega))
local macro_rules | `(tactic| ktf_call "e") => `(tactic| ((with_reducible show DE _ _ _ _ (.Call (.Name "Expression" _) _ _ _) _); refine de_frz ?_; refine de_make (by assumption) (by assumption) (by ktf_call "gl") ?_ (hjk := by omega)))
section
variable {m rest : Mem} {p : Addr} {o : O} {Kr : Mem → R → Mem → Prop} {Ke : Mem → Addr → List (Str × D2.D) → Mem → Prop}
theorem sp_longWord {l : List Nat} {n : Int} (hs : Has m p o rest) (ho : Pl o) (hl : 0 < l.length ∧ l.length ≤ 100) (h0 : 1 ≤ n) (h1 : n ≤ 100) (k : ∀ s o', (s.length : Int) = n → InL l s → Pl o' → Kr rest (rS s) [(p, o')]) : ∃ mf rest, Split m mf rest ∧ spLongWord [.own p, rS l, D2.rI n] mf (Kr rest) (Ke rest) := ⟨[(p, o)], rest, .cons hs .nil, p, o, l, n, rfl, rfl, ho, hl, h0, h1, k⟩
theorem sp_pairsKept {CX : Addr} {l : List Nat} {xs : List XR} {d : Nat} {v : List Nat} {tb : List (Key × D2.D)} (hl : l ∈ alphabets) (ok : ExOk l xs) (h1 : InL l v) (h2 : v.length ≤ 30) (h3 : TbP v (xv xs (xs.length - 1)) tb) (k : Kr m (rB true) []) : ∃ mf rest, Split m mf rest ∧ spPairsKept CX [.dat (exD CX l xs d), rS v, .dat (.dk tb)] mf (Kr rest) (Ke rest) := ⟨[], m, .nil, l, xs, d, v, tb, rfl, hl, ok, h1, h2, h3, rfl, k⟩
end
theorem tbs_last {w : List Nat} {xs : List XR} {tbs : List (List (Key × D2.D))} (h : tbs.length = xs.length) (h0 : 0 < xs.length) (hb : ∀ i (h : i < tbs.length), TbP w (xv xs i) tbs[i]) : ∃ tb, atI (tbsR tbs) (-1) = some (.dat (.dk tb)) ∧ TbP w (xv xs (xs.length - 1)) tb := by
  obtain ⟨tb, et⟩ : ∃ tb, tbs[xs.length - 1]? = some tb := ⟨_, List.getElem?_eq_getElem (by omega)⟩
  refine ⟨tb, ati_m1 (by rw [List.length_map]; omega) (by rw [List.length_map, h, List.getElem?_map, et]; rfl), ?_⟩
  obtain ⟨hi, e⟩ := List.getElem?_eq_some_iff.mp et
  rw [← e]
  exact hb _ hi
/-- the few rows -/
def fewX (a b : Nat) : Nat → List XR
  | 0 => [.all, .split 0 a 0]
  | 1 => [.all, .non, .split 0 a 1]
  | 2 => [.all, .split 0 a 0, .not 1, .split 2 b 0]
  | _ => [.all, .split 0 a 0, .not 1]
theorem fewX_ok {l : List Nat} {a b : Nat} (ha : a ∈ l) (hb : b ∈ l) (k : Nat) : DrX l (fewX a b k) ∧ 2 ≤ (fewX a b k).length ∧ (fewX a b k).length ≤ 4 := by
  have r0 : DrX l [.all] := DrX.nil.snoc (fun j hj => by cases hj) (fun _ _ _ h => by cases h)
  have rf : ∀ {r : XR} {n : Nat}, (∀ j ∈ r.row.refs, j < n) → ∀ j ∈ r.row.refs, j < n := fun h => h
  have r1 : DrX l [.all, .split 0 a 0] := r0.snoc (r := .split 0 a 0) (fun j hj => by
    simp [XR.row, Row.refs, It.ref] at hj
    show j < 1; omega) (fun _ _ _ h => by cases h; exact ha)
  have r2 : DrX l [.all, .split 0 a 0, .not 1] := r1.snoc (r := .not 1) (fun j hj => by
    simp [XR.row, Row.refs, It.ref] at hj
    show j < 2; omega) (fun _ _ _ h => by cases h)
  have r3 : DrX l [.all, .split 0 a 0, .not 1, .split 2 b 0] := r2.snoc (r := .split 2 b 0) (fun j hj => by
    simp [XR.row, Row.refs, It.ref] at hj
    show j < 3; omega) (fun _ _ _ h => by cases h; exact hb)
  have s1 : DrX l [.all, .non] := r0.snoc (r := .non) (fun j hj => by cases hj) (fun _ _ _ h => by cases h)
  have s2 : DrX l [.all, .non, .split 0 a 1] := s1.snoc (r := .split 0 a 1) (fun j hj => by
    simp [XR.row, Row.refs, It.ref] at hj
    show j < 2; omega) (fun _ _ _ h => by cases h; exact ha)
  rcases k with _ | _ | _ | k
  · exact ⟨r1, by simp [fewX], by simp [fewX]⟩
  · exact ⟨s2, by simp [fewX], by simp [fewX]⟩
  · exact ⟨r3, by simp [fewX], by simp [fewX]⟩
  · exact ⟨r2, by simp [fewX], by simp [fewX]⟩
section
variable {P : Program} {w : World} {K : PySem.W.Frag} {mg : Str → Option Value} {base : Heap} {f : Addr} {fd : FuncData}
def spLong17 (CX : Addr) : Sp2 := fun rs m Kr Ke => ∃ (p : Addr) (o : O) (l : List Nat) (xs : List XR) (a : Addr), rs = [.own p, rS l, .own a] ∧ l ∈ alphabets ∧ DrX l xs ∧ (0 < xs.length ∧ xs.length ≤ 100) ∧ m = [(p, o), (a, .lst (xrR xs))] ∧ Pl o ∧ ∀ o', Pl o' → Kr (rB true) [(p, o'), (a, .lst (xrR xs))]
theorem sc__law_long_kept : FnScope ["pool", "letters", "rows", "word", "letter", "last", "short", "few", "said"] ["pool", "letters", "rows"] (defScope (top 76)) := ⟨rfl, rfl, rfl, by decide +kernel, rfl, by decide +kernel, by decide +kernel⟩
theorem ok_long17 {C_Expression : Addr} (F : FunD K "_law_long_kept" "_law_long_kept" (defArgs (top 76)) (defBody (top 76)) (defScope (top 76)) [] [] f fd) (c__law_long_word : CalleeG P w K mg base "_law_long_word" 4 spLongWord) (c__law_draw : CalleeG P w K mg base "_law_draw" 2 spDraw) (c__law_pairs_kept : CalleeG P w K mg base "_law_pairs_kept" 6 (spPairsKept C_Expression)) (i_Expression : CalleeI P w K mg base "Expression" C_Expression 4 (spExInit C_Expression)) (c__law_said : CalleeG P w K mg base "_law_said" 2 spSaid17) (m0_len : mg "len" = none) (c__law_holds_kept : CalleeG P w K mg base "_law_holds_kept" 6 (spHoldsKept C_Expression)) : FnOk P w K mg base (L2N.CX P w) (7) f fd ["pool", "letters", "rows"] (spOf K (spLong17 C_Expression)) := by
  refine fn2 F sc__law_long_kept (by decide +kernel) (fun rs m Kr Ke ⟨_, _, _, _, _, e, _⟩ => by rw [e]; rfl) fun X c rs m Kr Ke D L hx ⟨p, o, l, xs, a, er, hl, hdr, ⟨hx0, hx1⟩, em, ho, hk⟩ => ?_
  subst er em
  have e__law_long_word : Callee X "_law_long_word" 4 spLongWord := D.callee c__law_long_word
  have e__law_draw : Callee X "_law_draw" 2 spDraw := D.callee c__law_draw
  have e__law_pairs_kept : Callee X "_law_pairs_kept" 6 (spPairsKept C_Expression) := D.callee c__law_pairs_kept
  have j_Expression : CalleeI X.prog X.w X.K X.mg X.base "Expression" C_Expression 4 (spExInit C_Expression) := D.calleeI i_Expression
  have e__law_said : Callee X "_law_said" 2 spSaid17 := D.callee c__law_said
  have m_len : X.mg "len" = none := D.mg_ m0_len
  have e__law_holds_kept : Callee X "_law_holds_kept" 6 (spHoldsKept C_Expression) := D.callee c__law_holds_kept
  have g__law_long_word : Gl X "_law_long_word" := D.gl (by decide +kernel)
  have g__law_draw : Gl X "_law_draw" := D.gl (by decide +kernel)
  have g__law_pairs_kept : Gl X "_law_pairs_kept" := D.gl (by decide +kernel)
  have g_Expression : Gl X "Expression" := D.gl (by decide +kernel)
  have g__law_said : Gl X "_law_said" := D.gl (by decide +kernel)
  have g_len : Gl X "len" := D.gl (by decide +kernel)
  have g__law_holds_kept : Gl X "_law_holds_kept" := D.gl (by decide +kernel)
  have o_word : Own X "word" := D.own (by decide +kernel)
  have o_letter : Own X "letter" := D.own (by decide +kernel)
  have o_last : Own X "last" := D.own (by decide +kernel)
  have o_short : Own X "short" := D.own (by decide +kernel)
  have o_few : Own X "few" := D.own (by decide +kernel)
  have o_said : Own X "said" := D.own (by decide +kernel)
  refine dss_lo ?_
  show DSs X c [("pool", some (.own p)), ("letters", some (rS l)), ("rows", some (.own a)), ("word", none), ("letter", none), ("last", none), ("short", none), ("few", none), ("said", none)] [(p, o), (a, .lst (xrR xs))] (_ :: _) _
  obtain ⟨hl0, hl3, hla⟩ := alph_len hl
  ktf_call "d2"
  rename_i d1 o1 h10 h11 ho1
  refine sp_longWord (by ktf_call "has") ho1 ⟨hl0, by omega⟩ (by omega) (by omega) fun v o2 hv1 hv2 ho2 => ?_
  dsimp only [List.nil_append, List.cons_append]
  have hr1 := xrR_rows (xs := xs)
  ktf_call "d2"
  ktf_call "go"
  rw [hr1]
  intro sf dx
  refine ⟨[(a, .lst (rowsR (xs.map XR.row)))], _, .cons (by ktf_call "has") .nil, sf, dx, l, xs.map XR.row, _, _, rfl, .own, hl, hdr.fits, hdr.fine (by omega), by rw [List.length_map]; omega, rfl, ⟨rfl, ?_⟩⟩
  dsimp only [List.nil_append, List.cons_append]
  refine ⟨_, _, .ins .here (frzf_map _ _), ?_⟩
  rw [show (rowsD (xs.map XR.row)).map R.dat = xrR xs from hr1.symm]
  ktf_call "d2"
  refine sp_said17 (by ktf_call "has") hdr hx1 (by omega) fun q tbs htl htb => ?_
  dsimp only [List.nil_append, List.cons_append]
  obtain ⟨tb, hlast, htbl⟩ := tbs_last htl hx0 htb
  ktf_call "d2"
  refine sp_pairsKept hl (hdr.ex hx0 (by omega)) hv2 (by omega) htbl ?_
  ktf_call "yes"
  refine dss_in (m' := [(a, .lst (xrR xs)), (p, o2)]) ?_ (Fog.refl _) (by ktf_call "sub")
  ktf_call "d2"
  rename_i d3 o3 h30 h31 ho3
  refine sp_longWord (by ktf_call "has") ho3 ⟨hl0, by omega⟩ (by omega) (by omega) fun w o4 hw1 hw2 ho4 => ?_
  dsimp only [List.nil_append, List.cons_append]
  ktf_call "d2"
  rename_i d5 o5 h50 h51 ho5 d6 o6 h60 h61 ho6 p4 p3 p2 p1 p0 d7 o7 h70 h71 ho7
  have hxa : l.getD d5.toNat 0 ∈ l := inl_one (by omega) _ (List.mem_singleton_self _)
  have hxb : l.getD d6.toNat 0 ∈ l := inl_one (by omega) _ (List.mem_singleton_self _)
  generalize l.getD d5.toNat 0 = x at hxa
  generalize l.getD d6.toNat 0 = y at hxb
  obtain ⟨hF, hF2, hF4⟩ := fewX_ok hxa hxb d7.toNat
  obtain ⟨pf, hat, hsub⟩ : ∃ pf, atI [R.own p3, .own p2, .own p4, .own p1] d7 = some (.own pf) ∧ [(p, o7), (pf, O.lst (xrR (fewX x y d7.toNat))), (a, .lst (xrR xs))].Sublist [(p, o7), (p0, O.lst [R.own p3, .own p2, .own p4, .own p1]), (p1, .lst (cutL (xrR (fewX x y 2)) none (some 3))), (p2, .lst (xrR (fewX x y 1))), (p3, .lst (cutL (xrR (fewX x y 2)) none (some 2))), (p4, .lst (xrR (fewX x y 2))), (a, .lst (xrR xs))] := by
    have c3 : cutL (xrR (fewX x y 2)) none (some 3) = xrR (fewX x y 3) := rfl
    have c2 : cutL (xrR (fewX x y 2)) none (some 2) = xrR (fewX x y 0) := rfl
    rw [c3, c2]
    have h4 : d7.toNat < 4 := by omega
    have e7 : d7 = (d7.toNat : Int) := by omega
    generalize d7.toNat = k at h4 e7
    subst e7
    rcases k with _ | _ | _ | _ | k
    · exact ⟨p3, ati 0 rfl rfl, by ktf_call "sub"⟩
    · exact ⟨p2, ati 1 rfl rfl, by ktf_call "sub"⟩
    · exact ⟨p4, ati 2 rfl rfl, by ktf_call "sub"⟩
    · exact ⟨p1, ati 3 rfl rfl, by ktf_call "sub"⟩
    · omega
  refine x_lst (.own (.there .here)) hat ?_
  refine dss_in (m' := [(p, o7), (pf, O.lst (xrR (fewX x y d7.toNat))), (a, .lst (xrR xs))]) ?_ (Fog.refl _) hsub
  generalize fewX x y d7.toNat = Fs at hF hF2 hF4
  have hFr := xrR_rows (xs := Fs)
  ktf_call "d2"
  refine sp_said17 (by ktf_call "has") hF (by omega) (by omega) fun q tbs2 htl2 htb2 => ?_
  dsimp only [List.nil_append, List.cons_append]
  obtain ⟨tb2, hlast2, htbl2⟩ := tbs_last htl2 (by omega) htb2
  ktf_call "d2"
  ktf_call "go"
  rw [hFr]
  intro sf2 dx2
  refine ⟨[(pf, .lst (rowsR (Fs.map XR.row)))], _, .cons (by ktf_call "has") .nil, sf2, dx2, l, Fs.map XR.row, _, _, rfl, .own, hl, hF.fits, hF.fine (by omega), by rw [List.length_map]; omega, rfl, ⟨rfl, ?_⟩⟩
  dsimp only [List.nil_append, List.cons_append]
  refine ⟨_, _, .ins .here (frzf_map _ _), ?_⟩
  rw [show (rowsD (Fs.map XR.row)).map R.dat = xrR Fs from hFr.symm]
  ktf_call "d2"
  refine x_fk (L := L) .str (htbl2 w (Part.self w)) ?_
  ktf_call "d2"
  refine sp_holdsKept (xs := Fs) hl (hF.ex (by omega) (by omega)) hw2 (by omega) rfl ?_
  ktf_call "yes"
  ktf_call "d2"
  rename_i p5 p6
  have hFn : (xrR Fs).length = Fs.length := List.length_map _
  have hG : DrX l (Fs ++ [XR.not (Fs.length - 1)]) := hF.snoc (r := .not (Fs.length - 1)) (fun j hj => by
    simp [XR.row, Row.refs, It.ref] at hj
    omega) (fun _ _ _ h => by cases h)
  have hGl : (Fs ++ [XR.not (Fs.length - 1)]).length = Fs.length + 1 := by rw [List.length_append]; rfl
  have hGv : xv (Fs ++ [XR.not (Fs.length - 1)]) ((Fs ++ [XR.not (Fs.length - 1)]).length - 1) w = !xv Fs (Fs.length - 1) w := by
    rw [hGl, Nat.add_sub_cancel, xv_snoc]; rfl
  have hGr : xrR Fs ++ [R.dat (D2.D.tup [.str (lit "not"), .int (((xrR Fs).length : Int) - 1)])] = rowsR ((Fs ++ [XR.not (Fs.length - 1)]).map XR.row) := by
    rw [← xrR_rows, xrR_snoc, hFn, show ((Fs.length : Nat) : Int) - 1 = ((Fs.length - 1 : Nat) : Int) by omega]; rfl
  rw [hGr]
  intro sf3 dx3
  refine ⟨[(p6, .lst (rowsR ((Fs ++ [XR.not (Fs.length - 1)]).map XR.row)))], _, .cons (by ktf_call "has") .nil, sf3, dx3, l, (Fs ++ [XR.not (Fs.length - 1)]).map XR.row, _, _, rfl, .own, hl, hG.fits, hG.fine (by omega), by rw [List.length_map]; omega, rfl, ⟨rfl, ?_⟩⟩
  dsimp only [List.nil_append, List.cons_append]
  refine ⟨_, _, .ins .here (frzf_map _ _), ?_⟩
  ktf_call "d2"
  refine x_fk (L := L) .str (htbl2 w (Part.self w)) ?_
  ktf_call "d2"
  refine sp_holdsKept (xs := Fs ++ [XR.not (Fs.length - 1)]) hl (hG.ex (by omega) (by omega)) hw2 (by omega) hGv ?_
  dsimp only [List.nil_append]
  exact ⟨_, by ktf_call "sub", hk o7 ho7⟩
end
section
variable {m rest : Mem} {p : Addr} {o : O} {Kr : Mem → R → Mem → Prop} {Ke : Mem → Addr → List (Str × D2.D) → Mem → Prop}
theorem sp_long17 {CX : Addr} {l : List Nat} {xs : List XR} {a : Addr} (hs : Split m [(p, o), (a, .lst (xrR xs))] rest) (ho : Pl o) (hl : l ∈ alphabets) (h1 : DrX l xs) (h2 : 0 < xs.length ∧ xs.length ≤ 100) (k : ∀ o', Pl o' → Kr rest (rB true) [(p, o'), (a, .lst (xrR xs))]) : ∃ mf rest, Split m mf rest ∧ spLong17 CX [.own p, rS l, .own a] mf (Kr rest) (Ke rest) := ⟨_, rest, hs, p, o, l, xs, a, rfl, hl, h1, h2, rfl, ho, k⟩
end
end
/-! ## NShX -/
section
set_option pp.maxSteps 1500
/-! pool D: sheets of expressions drawn -/
local macro_rules | `(tactic| ktf_call "sp") => `(tactic| ((with_reducible refine' sp_draw ?hs ?ho ?h0 ?h1 (fun d o' _ _ _ => ?kk)); (case hs => ktf_call "has"); (case ho => ktf_call "side"); (case h0 => ktf_call "side"); (case h1 => ktf_call "side"); (case' kk => dsimp only [List.nil_append, List.cons_append])))
local macro_rules | `(tactic| ktf_call "side") => `(tactic| exact log_small (by omega) (by omega))
local macro_rules | `(tactic| ktf_call "e") => `(tactic| ((with_reducible show DE _ _ _ _ (.Call (.Name "min" _) [_, _] _ _) _); refine d_min2 L (by ktf_call "gl") (by ktf_call "mg") ?_))
/-- the rows of the menu -/
def menuX (i j ch : Nat) : List XR := [if i % 2 = 0 then .all else .non, .not j, .and i j, .or j i, .not j, .split j ch j, .split i ch j, .split j ch i]
theorem menuX_ok {i j ch n : Nat} (hi : i < n) (hj : j < n) : ∀ r ∈ menuX i j ch, (∀ k ∈ r.row.refs, k < n) ∧ ∀ a c b, r = .split a c b → c = ch := by
  intro r hr
  simp only [menuX, List.mem_cons, List.not_mem_nil, or_false] at hr
  rcases hr with rfl | rfl | rfl | rfl | rfl | rfl | rfl | rfl
  · by_cases q : i % 2 = 0
    · rw [if_pos q]; exact ⟨fun k hk => by simp [XR.row, Row.refs] at hk, fun a c b h => by cases h⟩
    · rw [if_neg q]; exact ⟨fun k hk => by simp [XR.row, Row.refs] at hk, fun a c b h => by cases h⟩
  all_goals
    refine ⟨fun k hk => ?_, fun a c b h => ?_⟩
    · simp only [XR.row, Row.refs, It.ref, List.filterMap_cons, List.filterMap_nil, List.mem_cons, List.not_mem_nil, or_false] at hk
      omega
    · first | (cases h; rfl) | cases h
theorem first_x : ∀ d : Nat, d < 4 → ∃ r : XR, ([D2.D.tup [.str (lit "all")], .tup [.str (lit "all")], .tup [.str (lit "all")], .tup [.str (lit "none")]].map R.dat)[d]? = some (R.dat r.row.d) ∧ (∀ k ∈ r.row.refs, k < 0) ∧ ∀ a c b, r ≠ .split a c b := by
  intro d hd
  rcases d with _ | _ | _ | _ | d
  · exact ⟨.all, rfl, fun k hk => (by cases hk), fun a c b h => by cases h⟩
  · exact ⟨.all, rfl, fun k hk => (by cases hk), fun a c b h => by cases h⟩
  · exact ⟨.all, rfl, fun k hk => (by cases hk), fun a c b h => by cases h⟩
  · exact ⟨.non, rfl, fun k hk => (by cases hk), fun a c b h => by cases h⟩
  · omega
section
variable {P : Program} {w : World} {K : PySem.W.Frag} {mg : Str → Option Value} {base : Heap} {f : Addr} {fd : FuncData}
def spSheetX : Sp2 := fun rs m Kr Ke => ∃ (p : Addr) (o : O) (l : List Nat) (n : Nat), rs = [.own p, rS l, D2.rI n] ∧ m = [(p, o)] ∧ Pl o ∧ (0 < l.length ∧ l.length ≤ 3) ∧ (1 ≤ n ∧ n ≤ 1000) ∧ ∀ q xs o', xs.length = n → DrX l xs → Pl o' → Kr (.own q) [(p, o'), (q, .lst (xrR xs))]
theorem sc__law_sheet : FnScope ["pool", "letters", "many", "rows", "at", "kind", "i", "j", "letter", "menu"] ["pool", "letters", "many"] (defScope (top 66)) := ⟨rfl, rfl, rfl, by decide +kernel, rfl, by decide +kernel, by decide +kernel⟩
theorem ok_sheetX (F : FunD K "_law_sheet" "_law_sheet" (defArgs (top 66)) (defBody (top 66)) (defScope (top 66)) [] [] f fd) (c__law_draw : CalleeG P w K mg base "_law_draw" 2 spDraw) (m0_range : mg "range" = none) (m0_min : mg "min" = none) (m0_len : mg "len" = none) (m0_int : mg "int" = none) : FnOk P w K mg base (L2N.CX P w) (3) f fd ["pool", "letters", "many"] (spOf K spSheetX) := by
  refine fn2 F sc__law_sheet (by decide +kernel) (fun rs m Kr Ke ⟨_, _, _, _, e, _⟩ => by rw [e]; rfl) fun X c rs m Kr Ke D L hx ⟨p, o, l, n, er, em, ho, ⟨hl0, hl3⟩, ⟨hn1, hn2⟩, hk⟩ => ?_
  subst er em
  have e__law_draw : Callee X "_law_draw" 2 spDraw := D.callee c__law_draw
  have m_range : X.mg "range" = none := D.mg_ m0_range
  have m_min : X.mg "min" = none := D.mg_ m0_min
  have m_len : X.mg "len" = none := D.mg_ m0_len
  have m_int : X.mg "int" = none := D.mg_ m0_int
  have g__law_draw : Gl X "_law_draw" := D.gl (by decide +kernel)
  have g_range : Gl X "range" := D.gl (by decide +kernel)
  have g_min : Gl X "min" := D.gl (by decide +kernel)
  have g_len : Gl X "len" := D.gl (by decide +kernel)
  have g_int : Gl X "int" := D.gl (by decide +kernel)
  have o_rows : Own X "rows" := D.own (by decide +kernel)
  have o_at : Own X "at" := D.own (by decide +kernel)
  have o_kind : Own X "kind" := D.own (by decide +kernel)
  have o_i : Own X "i" := D.own (by decide +kernel)
  have o_j : Own X "j" := D.own (by decide +kernel)
  have o_letter : Own X "letter" := D.own (by decide +kernel)
  have o_menu : Own X "menu" := D.own (by decide +kernel)
  refine dss_lo ?_
  show DSs X c [("pool", some (.own p)), ("letters", some (rS l)), ("many", some (D2.rI n)), ("rows", none), ("at", none), ("kind", none), ("i", none), ("j", none), ("letter", none), ("menu", none)] [(p, o)] (_ :: _) _
  ktf_call "d2"
  rename_i pm d0 o0 h00 h01 ho0
  obtain ⟨r0, hat0, hr0, hs0⟩ := first_x d0.toNat (by omega)
  refine x_lst (.own (.there .here)) (ati d0.toNat hat0 (by omega)) ?_
  ktf_call "d2"
  rename_i q
  refine ds_in (m' := [(q, .lst [R.dat r0.row.d]), (p, o0)]) ?_ (Fog.refl _) (by ktf_call "sub")
  refine ds_perm (List.Perm.swap _ _ _) ?_
  refine ds_for (ds := ups 1 (n - 1)) (fun i σ m => ∃ (xs : List XR) (o : O), σ = ([("pool", some (.own p)), ("letters", some (rS l)), ("many", some (D2.rI n)), ("rows", some (.own q)), ("at", none), ("kind", none), ("i", none), ("j", none), ("letter", none), ("menu", none)] : Sl) ∧ m = [(p, o), (q, .lst (xrR xs))] ∧ xs.length = i + 1 ∧ DrX l xs ∧ Pl o) L (it_rng2 (by ktf_call "gl") (by ktf_call "mg") ?_) ?_ ?_
  · ktf_call "d2"
    exact ⟨⟨by omega, by omega, by omega, by omega⟩, by rw [show ((n : Int) - 1).toNat = n - 1 by omega], [r0], o0, rfl, rfl, rfl, DrX.nil.snoc hr0 (fun a c b h => absurd h (hs0 a c b)), ho0⟩
  · rintro i d σ' m' hd ⟨xs, o, rfl, rfl, hlen, hdr, ho⟩
    obtain ⟨hi, rfl⟩ := ups_at hd
    rw [show (1 : Int) + (i : Int) = ((i + 1 : Nat) : Int) by omega]
    refine dg_name o_at (by ktf_call "put") ?_
    refine dss_lo ?_
    ktf_call "d2"
    rename_i kd o1 hk0 hk8 ho1 gi o2 hg0 hg1 ho2
    obtain ⟨gi, rfl⟩ := Int.eq_ofNat_of_zero_le hg0
    refine ⟨_, _, rfl, ?_⟩
    obtain ⟨mn, hmn, hm1, hm2⟩ : ∃ mn : Nat, (if ((3 : Int) < ((i + 1 : Nat) : Int)) then (3 : Int) else ((i + 1 : Nat) : Int)) = (mn : Int) ∧ 0 < mn ∧ mn ≤ i + 1 := by
      by_cases h : (3 : Int) < ((i + 1 : Nat) : Int)
      · exact ⟨3, by rw [if_pos h]; rfl, by omega, by omega⟩
      · exact ⟨i + 1, by rw [if_neg h], by omega, by omega⟩
    rw [hmn]
    ktf_call "d2"
    rename_i dj o3 hj0 hj1 ho3 dc o4 hc0 hc1 ho4 p1
    obtain ⟨j, hj, hj2⟩ : ∃ j : Nat, ((i + 1 : Nat) : Int) - 1 - dj = (j : Int) ∧ j < i + 1 := ⟨(((i + 1 : Nat) : Int) - 1 - dj).toNat, by omega, by omega⟩
    rw [hj]
    have hgi : gi < i + 1 := by omega
    have hch : l.getD dc.toNat 0 ∈ l := inl_one (by omega) _ (List.mem_singleton_self _)
    generalize l.getD dc.toNat 0 = ch at hch
    obtain ⟨z, hz, ez⟩ : ∃ z : D2.D, atI [R.dat (D2.D.tup [.str (lit "all")]), R.dat (D2.D.tup [.str (lit "none")])] ((gi : Int) % 2) = some (.dat z) ∧ z = (if gi % 2 = 0 then XR.all else .non).row.d := by
      rcases Nat.mod_two_eq_zero_or_one gi with e | e
      · exact ⟨_, ati 0 rfl (by omega), by rw [if_pos e]; rfl⟩
      · exact ⟨_, ati 1 rfl (by omega), by rw [if_neg (by omega)]; rfl⟩
    refine x_lst (.own .here) hz ?_
    ktf_call "d2"
    rename_i p2 p3 p4 p5 p6
    have em : [R.dat z, R.dat (D2.D.tup [.str (lit "not"), .int (j : Int)]), R.dat (.tup [.str (lit "and"), .int (gi : Int), .int (j : Int)])] ++ [R.dat (.tup [.str (lit "or"), .int (j : Int), .int (gi : Int)]), R.dat (.tup [.str (lit "not"), .int (j : Int)]), R.dat (.tup [.str (lit "split"), .int (j : Int), .str [ch], .int (j : Int)])] ++ [R.dat (.tup [.str (lit "split"), .int (gi : Int), .str [ch], .int (j : Int)]), R.dat (.tup [.str (lit "split"), .int (j : Int), .str [ch], .int (gi : Int)])] = xrR (menuX gi j ch) := by rw [ez]; rfl
    rw [em]
    obtain ⟨r, hr1, hr2⟩ : ∃ r : XR, (xrR (menuX gi j ch))[kd.toNat]? = some (R.dat r.row.d) ∧ r ∈ menuX gi j ch := by
      have h8 : kd.toNat < (menuX gi j ch).length := by show kd.toNat < 8; omega
      exact ⟨(menuX gi j ch)[kd.toNat], by rw [List.getElem?_map, List.getElem?_eq_getElem h8]; rfl, List.getElem_mem h8⟩
    obtain ⟨hq1, hq2⟩ := menuX_ok hgi hj2 r hr2
    refine x_lst (.own .here) (ati kd.toNat hr1 (by omega)) ?_
    have hxl : (xrR xs).length ≤ 1000 := by rw [List.length_map]; omega
    ktf_call "d2"
    refine ⟨_, _, by ktf_call "fog", ?_, xs ++ [r], o4, rfl, by rw [xrR_snoc], by simp; omega, hdr.snoc (fun k hk => by have := hq1 k hk; omega) (fun a c b h => by rw [hq2 a c b h]; exact hch), ho4⟩
    ktf_call "sub"
  · rintro σ' m' ⟨xs, o, rfl, rfl, hlen, hdr, ho⟩
    rw [ups_len] at hlen
    ktf_call "d2"
    exact ⟨_, List.Sublist.refl _, hk q xs o (by omega) hdr ho⟩
end
end
/-! ## NK17k -/
section
set_option maxHeartbeats 4000000
set_option pp.maxSteps 900
/-! k17: the law -/
local macro_rules | `(tactic| ktf_call "s") => `(tactic| ((with_reducible show DSs _ _ _ _ (Stmt.If _ _ _ _ :: _) _); refine held ?_))
local macro_rules | `(tactic| ktf_call "k") => `(tactic| ((with_reducible show (_ = true → _) ∧ (_ = false → _)); refine ⟨fun hyp => ?_, fun hyp => ?_⟩ <;> (try simp only [decide_eq_true_eq, decide_eq_false_iff_not, Bool.not_eq_true', Bool.not_eq_false', Bool.not_true, Bool.not_false, Bool.true_eq_false, Bool.false_eq_true, Int.not_lt, Int.not_le, nil_len, Nat.pos_iff_ne_zero.symm, not_true_eq_false] at hyp)))
local macro_rules | `(tactic| ktf_call "k") => `(tactic| ((with_reducible show (_ = false → _) ∧ (_ = true → _)); refine ⟨fun hyp => ?_, fun hyp => ?_⟩ <;> (try simp only [decide_eq_true_eq, decide_eq_false_iff_not, Bool.not_eq_true', Bool.not_eq_false', Bool.not_true, Bool.not_false, Bool.true_eq_false, Bool.false_eq_true, Int.not_lt, Int.not_le, nil_len, Nat.pos_iff_ne_zero.symm, not_true_eq_false] at hyp)))
local macro_rules | `(tactic| ktf_call "go") => `(tactic| (refine Held.of ?_; refine dss_cons ?_; refine ds_if ?_; ktf_call "d2"))
local macro_rules | `(tactic| ktf_call "sp") => `(tactic| ((with_reducible refine' sp_draw ?hs ?ho ?h0 ?h1 (fun d o' _ _ _ => ?kk)); (case hs => ktf_call "has"); (case ho => ktf_call "side"); (case h0 => ktf_call "side"); (case h1 => ktf_call "side"); (case' kk => dsimp only [List.nil_append, List.cons_append])))
local macro_rules | `(tactic| ktf_call "sp") => `(tactic| ((with_reducible refine' sp_pickW ?hs ?ho ?hl ?h0 ?h1 (fun d o' _ _ _ => ?kk)); (case hs => ktf_call "has"); (case ho => ktf_call "side"); (case hl => exact ⟨by omega, by omega⟩); (case h0 => ktf_call "side"); (case h1 => ktf_call "side"); (case' kk => dsimp only [List.nil_append, List.cons_append])))
local macro_rules | `(tactic| ktf_call "side") => `(tactic| exact log_small (by omega) (by omega))
local macro_rules | `(tactic| ktf_call "s") => `(tactic| ((with_reducible show DSs _ _ _ _ (Stmt.For _ _ _ _ _ :: _) _); refine held ?_))
local macro_rules | `(tactic| ktf_call "e") => `(tactic| first
  | ((with_reducible show DE _ _ _ _ (.Call (.Name "Expression" _) _ _ _) _); refine de_frz ?_; refine de_make (by assumption) (by assumption) (by ktf_call "gl") ?_ (hjk := by omega))
  | ((with_reducible show DE _ _ _ _ (.Call (.Name "list" _) _ _ _) _); refine d_listL (by ktf_call "gl") (by ktf_call "mg") ?_))
section
variable {m rest : Mem} {p : Addr} {o : O} {Kr : Mem → R → Mem → Prop} {Ke : Mem → Addr → List (Str × D2.D) → Mem → Prop}
theorem sp_manyD (hs : Has m p o rest) (ho : Pl o) (k : ∀ n o', 1 ≤ n → n ≤ 40 → Pl o' → Kr rest (D2.rI n) [(p, o')]) : ∃ mf rest, Split m mf rest ∧ spMany [.own p] mf (Kr rest) (Ke rest) := ⟨_, rest, .cons hs .nil, p, o, rfl, rfl, ho, k⟩
theorem sp_sheetX {l : List Nat} {n : Nat} (hs : Has m p o rest) (ho : Pl o) (hl : 0 < l.length ∧ l.length ≤ 3) (hn : 1 ≤ n ∧ n ≤ 1000) (k : ∀ q xs o', xs.length = n → DrX l xs → Pl o' → Kr rest (.own q) [(p, o'), (q, .lst (xrR xs))]) : ∃ mf rest, Split m mf rest ∧ spSheetX [.own p, rS l, D2.rI n] mf (Kr rest) (Ke rest) := ⟨_, rest, .cons hs .nil, p, o, l, n, rfl, rfl, ho, hl, hn, k⟩
theorem sp_rowsKept17 {CX : Addr} {l : List Nat} {xs : List XR} {v : List Nat} {a : Addr} (hs : Has m a (.lst (xrR xs)) rest) (hl : l ∈ alphabets) (h1 : DrX l xs) (h2 : 0 < xs.length ∧ xs.length ≤ 100) (h3 : InL l v) (h4 : v.length ≤ 60) (k : Kr rest (rB true) [(a, .lst (xrR xs))]) : ∃ mf rest, Split m mf rest ∧ spRowsKept17 CX [rS l, .own a, rS v] mf (Kr rest) (Ke rest) := ⟨_, rest, .cons hs .nil, l, xs, v, a, rfl, hl, h1, h2, h3, h4, rfl, k⟩
end
section
variable {P : Program} {w : World} {K : PySem.W.Frag} {mg : Str → Option Value} {base : Heap} {f : Addr} {fd : FuncData}
theorem sc_law : FnScope ["script", "pool", "letters", "rows", "words", "word", "first", "second"] ["script"] (defScope (top 78)) := ⟨rfl, rfl, rfl, by decide +kernel, rfl, by decide +kernel, by decide +kernel⟩
theorem ok_law {C_Expression : Addr} (F : FunD K "law" "law" (defArgs (top 78)) (defBody (top 78)) (defScope (top 78)) [] [] f fd) (c__law_open : CalleeG P w K mg base "_law_open" 1 spOpen) (c__law_draw : CalleeG P w K mg base "_law_draw" 2 spDraw) (c__law_sheet : CalleeG P w K mg base "_law_sheet" 3 spSheetX) (c__law_many : CalleeG P w K mg base "_law_many" 3 spMany) (c__law_word : CalleeG P w K mg base "_law_word" 3 spPickWord) (c__law_rows_kept : CalleeG P w K mg base "_law_rows_kept" 7 (spRowsKept17 C_Expression)) (i_Expression : CalleeI P w K mg base "Expression" C_Expression 4 (spExInit C_Expression)) (m0_list : mg "list" = none) (c__law_pairs_kept : CalleeG P w K mg base "_law_pairs_kept" 6 (spPairsKept C_Expression)) (c__law_said : CalleeG P w K mg base "_law_said" 2 spSaid17) (c__law_holds_kept : CalleeG P w K mg base "_law_holds_kept" 6 (spHoldsKept C_Expression)) (c__law_refusals_kept : CalleeG P w K mg base "_law_refusals_kept" 7 (spRefusals17 C_Expression)) (c__law_long_kept : CalleeG P w K mg base "_law_long_kept" 7 (spLong17 C_Expression)) : FnOk P w K mg base (L2N.CX P w) (8) f fd ["script"] (spOf K (spScript 63)) := by
  refine fn2 F sc_law (by decide +kernel) (fun rs m Kr Ke ⟨_, e, _⟩ => by rw [e]; rfl) fun X c rs m Kr Ke D L hx ⟨ns, er, hns, em, hk⟩ => ?_
  subst er em
  have e__law_open : Callee X "_law_open" 1 spOpen := D.callee c__law_open
  have e__law_draw : Callee X "_law_draw" 2 spDraw := D.callee c__law_draw
  have e__law_sheet : Callee X "_law_sheet" 3 spSheetX := D.callee c__law_sheet
  have e__law_many : Callee X "_law_many" 3 spMany := D.callee c__law_many
  have e__law_word : Callee X "_law_word" 3 spPickWord := D.callee c__law_word
  have e__law_rows_kept : Callee X "_law_rows_kept" 7 (spRowsKept17 C_Expression) := D.callee c__law_rows_kept
  have j_Expression : CalleeI X.prog X.w X.K X.mg X.base "Expression" C_Expression 4 (spExInit C_Expression) := D.calleeI i_Expression
  have m_list : X.mg "list" = none := D.mg_ m0_list
  have e__law_pairs_kept : Callee X "_law_pairs_kept" 6 (spPairsKept C_Expression) := D.callee c__law_pairs_kept
  have e__law_said : Callee X "_law_said" 2 spSaid17 := D.callee c__law_said
  have e__law_holds_kept : Callee X "_law_holds_kept" 6 (spHoldsKept C_Expression) := D.callee c__law_holds_kept
  have e__law_refusals_kept : Callee X "_law_refusals_kept" 7 (spRefusals17 C_Expression) := D.callee c__law_refusals_kept
  have e__law_long_kept : Callee X "_law_long_kept" 7 (spLong17 C_Expression) := D.callee c__law_long_kept
  have g__law_open : Gl X "_law_open" := D.gl (by decide +kernel)
  have g__law_draw : Gl X "_law_draw" := D.gl (by decide +kernel)
  have g__law_sheet : Gl X "_law_sheet" := D.gl (by decide +kernel)
  have g__law_many : Gl X "_law_many" := D.gl (by decide +kernel)
  have g__law_word : Gl X "_law_word" := D.gl (by decide +kernel)
  have g__law_rows_kept : Gl X "_law_rows_kept" := D.gl (by decide +kernel)
  have g_Expression : Gl X "Expression" := D.gl (by decide +kernel)
  have g_list : Gl X "list" := D.gl (by decide +kernel)
  have g__law_pairs_kept : Gl X "_law_pairs_kept" := D.gl (by decide +kernel)
  have g__law_said : Gl X "_law_said" := D.gl (by decide +kernel)
  have g__law_holds_kept : Gl X "_law_holds_kept" := D.gl (by decide +kernel)
  have g__law_refusals_kept : Gl X "_law_refusals_kept" := D.gl (by decide +kernel)
  have g__law_long_kept : Gl X "_law_long_kept" := D.gl (by decide +kernel)
  have o_pool : Own X "pool" := D.own (by decide +kernel)
  have o_letters : Own X "letters" := D.own (by decide +kernel)
  have o_rows : Own X "rows" := D.own (by decide +kernel)
  have o_words : Own X "words" := D.own (by decide +kernel)
  have o_word : Own X "word" := D.own (by decide +kernel)
  have o_first : Own X "first" := D.own (by decide +kernel)
  have o_second : Own X "second" := D.own (by decide +kernel)
  refine dss_lo ?_
  show DSs X c [("script", some (.dat (.lst (dI ns)))), ("pool", none), ("letters", none), ("rows", none), ("words", none), ("word", none), ("first", none), ("second", none)] [] (_ :: _) _
  ktf_call "d2"
  refine sp_open hns fun p o ho => ?_
  dsimp only [List.nil_append, List.cons_append]
  ktf_call "d2"
  rename_i pm dl o1 hl0' hl1' ho1
  obtain ⟨l, hle, hl⟩ : ∃ l, [lit "ab", lit "a", lit "ab", lit "abc"].getD dl.toNat [] = l ∧ l ∈ alphabets := ⟨_, rfl, by
    have : ∀ i, i < 4 → [lit "ab", lit "a", lit "ab", lit "abc"].getD i [] ∈ alphabets := by decide
    exact this _ (by omega)⟩
  obtain ⟨hl0, hl3, hla⟩ := alph_len hl
  refine x_S (xs := [lit "ab", lit "a", lit "ab", lit "abc"]) (.own (.there .here)) ⟨hl0', by simp; omega⟩ ?_
  rw [hle]
  refine dss_in (m' := [(p, o1)]) ?_ (Fog.refl _) (by ktf_call "sub")
  ktf_call "d2"
  refine sp_manyD .here ho1 fun n1 o2 hn1 hn2 ho2 => ?_
  obtain ⟨n1, rfl⟩ := Int.eq_ofNat_of_zero_le (show 0 ≤ n1 by omega)
  dsimp only [List.nil_append, List.cons_append]
  ktf_call "d2"
  refine sp_sheetX .here ho2 ⟨hl0, hl3⟩ ⟨by omega, by omega⟩ fun a xs o3 hxl hdr ho3 => ?_
  dsimp only [List.nil_append, List.cons_append]
  ktf_call "d2"
  refine sp_manyD .here ho3 fun n2 o4 hm1 hm2 ho4 => ?_
  obtain ⟨n2, rfl⟩ := Int.eq_ofNat_of_zero_le (show 0 ≤ n2 by omega)
  dsimp only [List.nil_append, List.cons_append]
  ktf_call "d2"
  refine sp_sheetX .here ho4 ⟨hl0, hl3⟩ ⟨by omega, by omega⟩ fun b ys o5 hyl hdr2 ho5 => ?_
  dsimp only [List.nil_append, List.cons_append]
  ktf_call "d2"
  rename_i pR d1 o6 g10 g11 ho6 w1 o7 hw1 hi1 ho7 d2 o8 g20 g21 ho8 w2 o9 hw2 hi2 ho9 pW
  have hx : 0 < xs.length ∧ xs.length ≤ 100 := by omega
  have hy : 0 < ys.length ∧ ys.length ≤ 100 := by omega
  refine Held.of ?_
  refine dss_frzL (x := "words") (d := .lst (dS [w1, w2])) (by ktf_call "lk") (by ktf_call "put") (.lst .here (.cons .dat (.cons .dat .nil))) ?_
  refine dss_perm (m' := [(a, .lst (xrR xs)), (b, .lst (xrR ys)), (pR, .lst [.own a, .own b]), (p, o9)]) (List.reverse_perm [(a, O.lst (xrR xs)), (b, O.lst (xrR ys)), (pR, O.lst [R.own a, R.own b]), (p, o9)]) ?_
  have hws : ∀ u ∈ [w1, w2], InL l u ∧ u.length ≤ 7 := by
    intro u hu
    simp only [List.mem_cons, List.not_mem_nil, or_false] at hu
    rcases hu with rfl | rfl
    · exact ⟨hi1, by omega⟩
    · exact ⟨hi2, by omega⟩
  refine dss_cons ?_
  refine ds_forC (fun d => ∃ u, d = .str u ∧ InL l u ∧ u.length ≤ 7) L o_word (by ktf_call "put") (it_list ?_) ?_ ?_
  · ktf_call "d2"
    exact ⟨_, _, .dat, fun i d hd => by
      obtain ⟨hi, rfl⟩ := dS_at hd
      exact ⟨_, rfl, hws _ (List.getElem_mem _)⟩, rfl⟩
  · rintro d Nx ⟨u, rfl, iu, lu⟩ hN
    refine dss_lo ?_
    ktf_call "d2"
    ktf_call "go"
    refine sp_rowsKept17 .here hl hdr hx iu (by omega) ?_
    ktf_call "yes"
    ktf_call "d2"
    exact ⟨_, _, by ktf_call "fog", List.Sublist.refl _, hN⟩
  have hr1 := xrR_rows (xs := xs)
  have hr2 := xrR_rows (xs := ys)
  ktf_call "d2"
  refine ⟨_, .own .here, fun q1 => ?_⟩
  ktf_call "d2"
  rw [hr1]
  intro sf dx
  refine ⟨[(q1, .lst (rowsR (xs.map XR.row)))], _, .cons .here .nil, sf, dx, l, xs.map XR.row, _, _, rfl, .own, hl, hdr.fits, hdr.fine (by omega), by rw [List.length_map]; exact hx.1, rfl, ⟨rfl, ?_⟩⟩
  dsimp only [List.nil_append, List.cons_append]
  refine ⟨_, _, .ins .here (frzf_map _ _), ?_⟩
  rw [show (rowsD (xs.map XR.row)).map R.dat = xrR xs from hr1.symm, ← hr1]
  refine dss_in (m' := [(a, .lst (xrR xs)), (b, .lst (xrR ys)), (pR, .lst [.own a, .own b]), (p, o9)]) ?_ (Fog.refl _) (by ktf_call "sub")
  ktf_call "d2"
  refine ⟨_, .own (.there .here), fun q2 => ?_⟩
  ktf_call "d2"
  rw [hr2]
  intro sf2 dx2
  refine ⟨[(q2, .lst (rowsR (ys.map XR.row)))], _, .cons .here .nil, sf2, dx2, l, ys.map XR.row, _, _, rfl, .own, hl, hdr2.fits, hdr2.fine (by omega), by rw [List.length_map]; exact hy.1, rfl, ⟨rfl, ?_⟩⟩
  dsimp only [List.nil_append, List.cons_append]
  refine ⟨_, _, .ins .here (frzf_map _ _), ?_⟩
  rw [show (rowsD (ys.map XR.row)).map R.dat = xrR ys from hr2.symm, ← hr2]
  refine dss_in (m' := [(a, .lst (xrR xs)), (b, .lst (xrR ys)), (pR, .lst [.own a, .own b]), (p, o9)]) ?_ (Fog.refl _) (by ktf_call "sub")
  ktf_call "d2"
  have okx : ExOk l xs := hdr.ex hx.1 (by omega)
  have oky : ExOk l ys := hdr2.ex hy.1 (by omega)
  generalize hdx : (depthsX (xs.map XR.row)).getD ((xs.map XR.row).length - 1) 0 = dpx
  generalize hdy : (depthsX (ys.map XR.row)).getD ((ys.map XR.row).length - 1) 0 = dpy
  have hws3 : ∀ u ∈ [w1, w2, []], InL l u ∧ u.length ≤ 7 := by
    intro u hu
    simp only [List.mem_cons, List.not_mem_nil, or_false] at hu
    rcases hu with rfl | rfl | rfl
    · exact ⟨hi1, by omega⟩
    · exact ⟨hi2, by omega⟩
    · exact ⟨fun c hc => (by cases hc), by simp⟩
  refine Held.of (dss_cons ?_)
  refine ds_for (ds := dS [w1, w2, []]) (fun i σ m => ∃ q jn, σ = ([("script", some (.dat (.lst (dI ns)))), ("pool", some (.own p)), ("letters", some (rS l)), ("rows", some (.own pR)), ("words", some (.dat (.lst (dS [w1, w2])))), ("word", none), ("first", some (.dat (.ins C_Expression (exF l (xs.map XR.row))))), ("second", some (.dat (.ins C_Expression (exF l (ys.map XR.row)))))] : Sl) ∧ m = [(q, .lst jn), (a, .lst (xrR xs)), (b, .lst (xrR ys)), (pR, .lst [.own a, .own b]), (p, o9)]) L (it_list ?_) ?_ ?_
  · ktf_call "d2"
    rename_i p5
    refine o_catL (rs1 := (dS [w1, w2]).map R.dat) (rs2 := [rS (lit "")]) .dat (.own .here) (by simp [dS]) fun p6 => ?_
    exact ⟨dS [w1, w2, []], _, .lst .here (.cons .dat (.cons .dat (.cons .dat .nil))), rfl, p5, _, rfl, rfl⟩
  · rintro i d σ' m' hd ⟨q, jn, rfl, rfl⟩
    obtain ⟨hi, rfl⟩ := dS_at hd
    obtain ⟨iu, lu⟩ := hws3 _ (List.getElem_mem hi)
    generalize [w1, w2, []][i] = u at iu lu
    refine dg_name o_word (by ktf_call "put") ?_
    refine dss_lo ?_
    ktf_call "d2"
    ktf_call "go"
    refine sp_said17 (.there .here) hdr hx.2 (by omega) fun t1 tb1 htl1 htb1 => ?_
    obtain ⟨tk1, hk1, hp1⟩ := tbs_last htl1 hx.1 htb1
    dsimp only [List.nil_append, List.cons_append]
    ktf_call "d2"
    refine sp_pairsKept hl okx iu (by omega) hp1 ?_
    ktf_call "yes"
    ktf_call "d2"
    ktf_call "go"
    refine sp_said17 (.there (.there (.there .here))) hdr2 hy.2 (by omega) fun t2 tb2 htl2 htb2 => ?_
    obtain ⟨tk2, hk2, hp2⟩ := tbs_last htl2 hy.1 htb2
    dsimp only [List.nil_append, List.cons_append]
    ktf_call "d2"
    refine sp_pairsKept hl oky iu (by omega) hp2 ?_
    ktf_call "yes"
    ktf_call "d2"
    ktf_call "go"
    refine sp_said17 (.there .here) hdr2 hy.2 (by omega) fun t3 tb3 htl3 htb3 => ?_
    obtain ⟨tk3, hk3, hp3⟩ := tbs_last htl3 hy.1 htb3
    dsimp only [List.nil_append, List.cons_append]
    ktf_call "d2"
    refine x_fk (L := L) .str (hp3 u (Part.self u)) ?_
    ktf_call "d2"
    refine sp_holdsKept (xs := ys) hl oky iu (by omega) rfl ?_
    ktf_call "yes"
    refine dss_in (m' := [(b, .lst (xrR ys)), (a, .lst (xrR xs)), (q, .lst jn), (pR, .lst [.own a, .own b]), (p, o9)]) ?_ (Fog.refl _) (by ktf_call "sub")
    refine dss_perm (m' := [(q, .lst jn), (a, .lst (xrR xs)), (b, .lst (xrR ys)), (pR, .lst [.own a, .own b]), (p, o9)]) ((List.reverse_perm [(q, O.lst jn), (a, O.lst (xrR xs)), (b, O.lst (xrR ys))]).append_right [(pR, O.lst [R.own a, R.own b]), (p, o9)]) ?_
    ktf_call "d2"
    exact ⟨_, _, by ktf_call "fog", List.Sublist.refl _, q, jn, rfl, rfl⟩
  rintro σ' m' ⟨q, jn, rfl, rfl⟩
  ktf_call "d2"
  ktf_call "go"
  refine sp_refusals17 (by ktf_call "has") ho9 hl okx fun o10 ho10 => ?_
  ktf_call "yes"
  refine dss_in (m' := [(p, o10), (a, .lst (xrR xs)), (pR, .lst [.own a, .own b])]) ?_ (Fog.refl _) (by ktf_call "sub")
  ktf_call "d2"
  refine Held.of (dss_mid (fun σ m => ∃ o, σ = ([("script", some (.dat (.lst (dI ns)))), ("pool", some (.own p)), ("letters", some (rS l)), ("rows", some (.own pR)), ("words", some (.dat (.lst (dS [w1, w2])))), ("word", none), ("first", some (.dat (.ins C_Expression (exF l (xs.map XR.row))))), ("second", some (.dat (.ins C_Expression (exF l (ys.map XR.row)))))] : Sl) ∧ m = [(p, o), (a, .lst (xrR xs)), (pR, .lst [.own a, .own b])] ∧ Pl o) ?_ ?_)
  · refine ds_if ?_
    ktf_call "d2"
    · refine sp_long17 (.cons (by ktf_call "has") (.cons (by ktf_call "has") .nil)) (by assumption) hl hdr hx fun o12 ho12 => ?_
      ktf_call "yes"
      ktf_call "d2"
      exact ⟨o12, rfl, rfl, ho12⟩
    · exact ⟨_, rfl, rfl, by assumption⟩
  rintro σ' m' ⟨o, rfl, rfl, ho⟩
  ktf_call "d2"
  have e1 : [w1, w2].getD (Int.toNat 0) [] = w1 := rfl
  rw [e1]
  refine sp_said17 (by ktf_call "has") hdr hx.2 (by omega) fun t1 tb1 htl1 htb1 => ?_
  obtain ⟨tk1, hk1, hp1⟩ := tbs_last htl1 hx.1 htb1
  dsimp only [List.nil_append, List.cons_append]
  ktf_call "d2"
  rw [e1]
  refine x_fk (L := L) .str (hp1 w1 (Part.self w1)) ?_
  ktf_call "d2"
  refine sp_holdsKept (xs := xs) hl okx hi1 (by omega) rfl ?_
  dsimp only [List.nil_append]
  exact ⟨_, List.nil_sublist _, hk⟩
end
end
end NC
/-! ## NEnd17 -/
/-! the end of k17 -/
namespace NC
open PySem PySem.Spec PyProof.Rows L2 D2
theorem mk_TooLarge {P : Program} {w : World} {K : PySem.W.Frag} {mg : Str → Option Value} {base : Heap} {C : Addr} (I : IniOk P K ini_TooLarge C) (hg : mg "TooLarge" = some (.ref C)) (hm : mg "super" = none) : MkC P w K mg base "TooLarge" C 1 1 [("many", 0)] SmallI :=
  I.mkcF (y := "many") hg hm (by decide +kernel) rfl rfl (by decide +kernel) (by decide +kernel) rfl (fun env => rfl) ⟨by decide +kernel, by decide +kernel⟩ (by decide +kernel) (by decide +kernel) (fun _ _ _ _ _ us hl => match us, hl with | [_, _], _ => rfl)
theorem mk_BadRow {P : Program} {w : World} {K : PySem.W.Frag} {mg : Str → Option Value} {base : Heap} {C : Addr} (I : IniOk P K ini_BadRow C) (hg : mg "BadRow" = some (.ref C)) (hm : mg "super" = none) : MkC P w K mg base "BadRow" C 1 1 [("at", 0)] SmallI :=
  I.mkcF (y := "at") hg hm (by decide +kernel) rfl rfl (by decide +kernel) (by decide +kernel) rfl (fun env => rfl) ⟨by decide +kernel, by decide +kernel⟩ (by decide +kernel) (by decide +kernel) (fun _ _ _ _ _ us hl => match us, hl with | [_, _], _ => rfl)
theorem mk_BadLetters {P : Program} {w : World} {K : PySem.W.Frag} {mg : Str → Option Value} {base : Heap} {C : Addr} (I : IniOk P K ini_BadLetters C) (hg : mg "BadLetters" = some (.ref C)) (hm : mg "super" = none) : MkC P w K mg base "BadLetters" C 1 1 [("given", 0)] (fun _ => True) :=
  I.mkc (y := "given") hg hm (by decide +kernel) rfl rfl (by decide +kernel) rfl (fun env => rfl) ⟨by decide +kernel, by decide +kernel⟩ (fun _ _ _ _ _ us hl => match us, hl with | [_, _], _ => rfl)
theorem mk_BadWord {P : Program} {w : World} {K : PySem.W.Frag} {mg : Str → Option Value} {base : Heap} {C : Addr} (I : IniOk P K ini_BadWord C) (hg : mg "BadWord" = some (.ref C)) (hm : mg "super" = none) : MkC P w K mg base "BadWord" C 1 1 [("word", 0)] (fun _ => True) :=
  I.mkc (y := "word") hg hm (by decide +kernel) rfl rfl (by decide +kernel) rfl (fun env => rfl) ⟨by decide +kernel, by decide +kernel⟩ (fun _ _ _ _ _ us hl => match us, hl with | [_, _], _ => rfl)
theorem facts {w : World} {K : PySem.W.Frag} {h : Heap} {mg : Str → Option Value} {f : Addr} (X : K.In h) (G : h.Ns mainGlobals mg) (hfa : mg ("law" : Str) = some (.ref f)) (cT : SaysST fa fn pw.main.file inis ex tabs w K) :
    ∃ fd : FuncData, (∀ (s : Shared) (v : Value), BindsTo s fd ⟨[v], []⟩ [("script", v)]) ∧ ∀ base : Heap, K.In base → base.Ns mainGlobals mg → FnOk pw w K mg base (L2N.CX pw w) 8 f fd ["script"] (spOf K (spScript 63)) := by
  have c := cT.s
  have d := c.d
  have I_TooLarge : IniOk pw K ini_TooLarge (iC K "TooLarge") := c.inis (by decide +kernel) 0
  have I_BadRow : IniOk pw K ini_BadRow (iC K "BadRow") := c.inis (by decide +kernel) 1
  have I_BadLetters : IniOk pw K ini_BadLetters (iC K "BadLetters") := c.inis (by decide +kernel) 2
  have I_BadWord : IniOk pw K ini_BadWord (iC K "BadWord") := c.inis (by decide +kernel) 3
  obtain ⟨_, xx⟩ := Bool.and_eq_true_iff.mp c.x
  obtain ⟨x0, xx⟩ := Bool.and_eq_true_iff.mp xx
  obtain ⟨x1, xx⟩ := Bool.and_eq_true_iff.mp xx
  obtain ⟨x2, xx⟩ := Bool.and_eq_true_iff.mp xx
  obtain ⟨x3, xx⟩ := Bool.and_eq_true_iff.mp xx
  have x4 := xx
  obtain ⟨d0, F__law_kinds⟩ := d.def_ 0 (d := dF ("_law_kinds", none) "_law_kinds" "_law_kinds" (top 63) []) rfl
  obtain ⟨d1, F__law_error⟩ := d.def_ 1 (d := dF ("_law_error", none) "_law_error" "_law_error" (top 64) []) rfl
  obtain ⟨d2, F_is_item⟩ := d.def_ 2 (d := dF ("is_item", none) "is_item" "is_item" (top 28) []) rfl
  obtain ⟨d3, F_is_row⟩ := d.def_ 3 (d := dF ("is_row", none) "is_row" "is_row" (top 29) []) rfl
  obtain ⟨d4, F_checked_rows⟩ := d.def_ 4 (d := dF ("checked_rows", none) "checked_rows" "checked_rows" (top 30) [] [.int 40000]) rfl
  obtain ⟨d5, F_needed_rows⟩ := d.def_ 5 (d := dF ("needed_rows", none) "needed_rows" "needed_rows" (top 31) []) rfl
  obtain ⟨d6, F_sheet_text⟩ := d.def_ 6 (d := dF ("sheet_text", none) "sheet_text" "sheet_text" (top 35) []) rfl
  obtain ⟨d7, F_check_letters⟩ := d.def_ 7 (d := dF ("check_letters", none) "check_letters" "check_letters" (top 43) []) rfl
  obtain ⟨d8, F_is_word⟩ := d.def_ 8 (d := dF ("is_word", none) "is_word" "is_word" (top 44) []) rfl
  obtain ⟨d9, F_check_word⟩ := d.def_ 9 (d := dF ("check_word", none) "check_word" "check_word" (top 45) [("most", .int 60)]) rfl
  obtain ⟨d10, F_split_bits⟩ := d.def_ 10 (d := dF ("split_bits", none) "split_bits" "split_bits" (top 48) []) rfl
  obtain ⟨d11, F_row_bits⟩ := d.def_ 11 (d := dF ("row_bits", none) "row_bits" "row_bits" (top 49) []) rfl
  obtain ⟨d12, F_stretch_bits⟩ := d.def_ 12 (d := dF ("stretch_bits", none) "stretch_bits" "stretch_bits" (top 50) []) rfl
  obtain ⟨d13, F_expression_truth⟩ := d.def_ 13 (d := dF ("expression_truth", none) "expression_truth" "expression_truth" (top 52) []) rfl
  obtain ⟨d14, F_split_depths⟩ := d.def_ 14 (d := dF ("split_depths", none) "split_depths" "split_depths" (top 57) []) rfl
  obtain ⟨d15, F_Expression___init__⟩ := d.def_ 15 (d := dF ("Expression", some "__init__") "__init__" "Expression.__init__" (clsDef (top 58) 0) []) rfl
  obtain ⟨d16, F_gap_bits⟩ := d.def_ 16 (d := dF ("gap_bits", none) "gap_bits" "gap_bits" (top 51) []) rfl
  obtain ⟨d17, F_holds⟩ := d.def_ 17 (d := dF ("holds", none) "holds" "holds" (top 53) []) rfl
  obtain ⟨d18, F_stretches⟩ := d.def_ 18 (d := dF ("stretches", none) "stretches" "stretches" (top 54) []) rfl
  obtain ⟨d19, F__law_mixed⟩ := d.def_ 19 (d := dF ("_law_mixed", none) "_law_mixed" "_law_mixed" (top 61) []) rfl
  obtain ⟨d20, F__law_draw⟩ := d.def_ 20 (d := dF ("_law_draw", none) "_law_draw" "_law_draw" (top 62) []) rfl
  obtain ⟨d21, F__law_open⟩ := d.def_ 21 (d := dF ("_law_open", none) "_law_open" "_law_open" (top 60) []) rfl
  obtain ⟨d22, F__law_word⟩ := d.def_ 22 (d := dF ("_law_word", none) "_law_word" "_law_word" (top 68) []) rfl
  obtain ⟨d23, F__law_many⟩ := d.def_ 23 (d := dF ("_law_many", none) "_law_many" "_law_many" (top 67) []) rfl
  obtain ⟨d24, F__law_long_word⟩ := d.def_ 24 (d := dF ("_law_long_word", none) "_law_long_word" "_law_long_word" (top 75) []) rfl
  obtain ⟨d25, F__law_holds_kept⟩ := d.def_ 25 (d := dF ("_law_holds_kept", none) "_law_holds_kept" "_law_holds_kept" (top 72) []) rfl
  obtain ⟨d26, F__law_cut⟩ := d.def_ 26 (d := dF ("_law_cut", none) "_law_cut" "_law_cut" (top 70) []) rfl
  obtain ⟨d27, F__law_parts⟩ := d.def_ 27 (d := dF ("_law_parts", none) "_law_parts" "_law_parts" (top 69) []) rfl
  obtain ⟨d28, F__law_said⟩ := d.def_ 28 (d := dF ("_law_said", none) "_law_said" "_law_said" (top 71) []) rfl
  obtain ⟨d29, F__law_pairs_kept⟩ := d.def_ 29 (d := dF ("_law_pairs_kept", none) "_law_pairs_kept" "_law_pairs_kept" (top 73) []) rfl
  obtain ⟨d30, F__law_ask⟩ := d.def_ 30 (d := dF ("_law_ask", none) "_law_ask" "_law_ask" (top 65) []) rfl
  obtain ⟨d31, F__law_refusals_kept⟩ := d.def_ 31 (d := dF ("_law_refusals_kept", none) "_law_refusals_kept" "_law_refusals_kept" (top 77) []) rfl
  obtain ⟨d32, F__law_rows_kept⟩ := d.def_ 32 (d := dF ("_law_rows_kept", none) "_law_rows_kept" "_law_rows_kept" (top 74) []) rfl
  obtain ⟨d33, F__law_long_kept⟩ := d.def_ 33 (d := dF ("_law_long_kept", none) "_law_long_kept" "_law_long_kept" (top 76) []) rfl
  obtain ⟨d34, F__law_sheet⟩ := d.def_ 34 (d := dF ("_law_sheet", none) "_law_sheet" "_law_sheet" (top 66) []) rfl
  obtain ⟨d35, F_law⟩ := d.def_ 35 (d := dF ("law", none) "law" "law" (top 78) []) rfl
  have a__law_kinds := He.glo_ok X G (d.fact 0 (f := .glo "_law_kinds") rfl)
  have a__law_error := He.glo_ok X G (d.fact 1 (f := .glo "_law_error") rfl)
  have a_is_item := He.glo_ok X G (d.fact 2 (f := .glo "is_item") rfl)
  have a_is_row := He.glo_ok X G (d.fact 3 (f := .glo "is_row") rfl)
  have a_checked_rows := He.glo_ok X G (d.fact 4 (f := .glo "checked_rows") rfl)
  have a_needed_rows := He.glo_ok X G (d.fact 5 (f := .glo "needed_rows") rfl)
  have a_sheet_text := He.glo_ok X G (d.fact 6 (f := .glo "sheet_text") rfl)
  have a_check_letters := He.glo_ok X G (d.fact 7 (f := .glo "check_letters") rfl)
  have a_is_word := He.glo_ok X G (d.fact 8 (f := .glo "is_word") rfl)
  have a_check_word := He.glo_ok X G (d.fact 9 (f := .glo "check_word") rfl)
  have a_split_bits := He.glo_ok X G (d.fact 10 (f := .glo "split_bits") rfl)
  have a_row_bits := He.glo_ok X G (d.fact 11 (f := .glo "row_bits") rfl)
  have a_stretch_bits := He.glo_ok X G (d.fact 12 (f := .glo "stretch_bits") rfl)
  have a_expression_truth := He.glo_ok X G (d.fact 13 (f := .glo "expression_truth") rfl)
  have a_split_depths := He.glo_ok X G (d.fact 14 (f := .glo "split_depths") rfl)
  have a_gap_bits := He.glo_ok X G (d.fact 15 (f := .glo "gap_bits") rfl)
  have a_holds := He.glo_ok X G (d.fact 16 (f := .glo "holds") rfl)
  have a_stretches := He.glo_ok X G (d.fact 17 (f := .glo "stretches") rfl)
  have a__law_mixed := He.glo_ok X G (d.fact 18 (f := .glo "_law_mixed") rfl)
  have a__law_draw := He.glo_ok X G (d.fact 19 (f := .glo "_law_draw") rfl)
  have a__law_open := He.glo_ok X G (d.fact 20 (f := .glo "_law_open") rfl)
  have a__law_word := He.glo_ok X G (d.fact 21 (f := .glo "_law_word") rfl)
  have a__law_many := He.glo_ok X G (d.fact 22 (f := .glo "_law_many") rfl)
  have a__law_long_word := He.glo_ok X G (d.fact 23 (f := .glo "_law_long_word") rfl)
  have a__law_holds_kept := He.glo_ok X G (d.fact 24 (f := .glo "_law_holds_kept") rfl)
  have a__law_cut := He.glo_ok X G (d.fact 25 (f := .glo "_law_cut") rfl)
  have a__law_parts := He.glo_ok X G (d.fact 26 (f := .glo "_law_parts") rfl)
  have a__law_said := He.glo_ok X G (d.fact 27 (f := .glo "_law_said") rfl)
  have a__law_pairs_kept := He.glo_ok X G (d.fact 28 (f := .glo "_law_pairs_kept") rfl)
  have a__law_ask := He.glo_ok X G (d.fact 29 (f := .glo "_law_ask") rfl)
  have a__law_refusals_kept := He.glo_ok X G (d.fact 30 (f := .glo "_law_refusals_kept") rfl)
  have a__law_rows_kept := He.glo_ok X G (d.fact 31 (f := .glo "_law_rows_kept") rfl)
  have a__law_long_kept := He.glo_ok X G (d.fact 32 (f := .glo "_law_long_kept") rfl)
  have a__law_sheet := He.glo_ok X G (d.fact 33 (f := .glo "_law_sheet") rfl)
  have e := hfa.symm.trans (He.glo_ok X G (d.fact 34 (f := .glo "law") rfl))
  cases e
  have m0_isinstance := He.free_ok X G (d.fact 35 (f := .free "isinstance") rfl)
  have m0_ValueError := He.free_ok X G (d.fact 36 (f := .free "ValueError") rfl)
  have m0_range := He.free_ok X G (d.fact 37 (f := .free "range") rfl)
  have m0_len := He.free_ok X G (d.fact 38 (f := .free "len") rfl)
  have m0_int := He.free_ok X G (d.fact 39 (f := .free "int") rfl)
  have m0_bool := He.free_ok X G (d.fact 40 (f := .free "bool") rfl)
  have m0_str := He.free_ok X G (d.fact 41 (f := .free "str") rfl)
  have m0_tuple := He.free_ok X G (d.fact 42 (f := .free "tuple") rfl)
  have m0_all := He.free_ok X G (d.fact 43 (f := .free "all") rfl)
  have m0_zip := He.free_ok X G (d.fact 44 (f := .free "zip") rfl)
  have m0_enumerate := He.free_ok X G (d.fact 45 (f := .free "enumerate") rfl)
  have m0_reversed := He.free_ok X G (d.fact 46 (f := .free "reversed") rfl)
  have m0_sum := He.free_ok X G (d.fact 47 (f := .free "sum") rfl)
  have m0_max := He.free_ok X G (d.fact 48 (f := .free "max") rfl)
  have m0_dict := He.free_ok X G (d.fact 49 (f := .free "dict") rfl)
  have m0_abs := He.free_ok X G (d.fact 50 (f := .free "abs") rfl)
  have m0_list := He.free_ok X G (d.fact 51 (f := .free "list") rfl)
  have m0_min := He.free_ok X G (d.fact 52 (f := .free "min") rfl)
  have m0_super := He.free_ok X G (d.fact 53 (f := .free "super") rfl)
  have k_Expression : Cls K (iC K "Expression") := He.cls_ok (d.fact 54 (f := .cls "Expression") rfl)
  have n_Expression_rows : NoAttr K (iC K "Expression") "rows" := He.noat_ok (d.fact 55 (f := .noat "Expression" "rows") rfl)
  have n_Expression_letters : NoAttr K (iC K "Expression") "letters" := He.noat_ok (d.fact 56 (f := .noat "Expression" "letters") rfl)
  have n_Expression_text : NoAttr K (iC K "Expression") "text" := He.noat_ok (d.fact 57 (f := .noat "Expression" "text") rfl)
  have n_Expression_depth : NoAttr K (iC K "Expression") "depth" := He.noat_ok (d.fact 58 (f := .noat "Expression" "depth") rfl)
  have r_Expression := He.mkr_ok (d.fact 59 (f := .mkr "Expression") rfl)
  have b_Expression := He.glo_ok X G (d.fact 60 (f := .glo "Expression") rfl)
  have v_VARIABLES := He.glo_ok X G (d.fact 61 (f := .glo "VARIABLES") rfl)
  have t_VARIABLES : TupG K mg "VARIABLES" ([[120], [121], [122]]) := tupG_of v_VARIABLES x0
  have v_ALPHABETS := He.glo_ok X G (d.fact 62 (f := .glo "ALPHABETS") rfl)
  have t_ALPHABETS : TupG K mg "ALPHABETS" (NC.alphabets) := tupG_of v_ALPHABETS x1
  have v_SHAPES := He.glo_ok X G (d.fact 63 (f := .glo "SHAPES") rfl)
  have t_SHAPES : DicG K w mg "SHAPES" (NC.shapesX) := dicG_of v_SHAPES (cT.tab 0) x2
  have t_MOST : IntG mg "MOST" 30 := He.int_ok X G (d.fact 64 (f := .int "MOST" 30) rfl)
  have O_BadWord : ExcN K mg (iC K "BadWord") "BadWord" "word" := exc_ok X G I_BadWord rfl rfl x3
  have O_TooLarge : ExcN K mg (iC K "TooLarge") "TooLarge" "many" := exc_ok X G I_TooLarge rfl rfl x4
  have b := FunD.bindsA (ps := ["script"]) F_law fun _ _ _ _ _ _ us hl => match us, hl with | [_], _ => rfl
  refine ⟨d35, fun s v => b s [v] rfl, fun base _ _ => ?_⟩
  have x_TooLarge := mk_TooLarge (w := w) (base := base) I_TooLarge (He.glo_ok X G I_TooLarge.glo) m0_super
  have x_BadRow := mk_BadRow (w := w) (base := base) I_BadRow (He.glo_ok X G I_BadRow.glo) m0_super
  have x_BadLetters := mk_BadLetters (w := w) (base := base) I_BadLetters (He.glo_ok X G I_BadLetters.glo) m0_super
  have x_BadWord := mk_BadWord (w := w) (base := base) I_BadWord (He.glo_ok X G I_BadWord.glo) m0_super
  have ok__law_kinds := ok__law_kinds  (P := pw) (w := w) (base := base) (mg := mg) F__law_kinds m0_isinstance m0_ValueError m0_range m0_len 
  have cx__law_kinds : CalleeX pw w K mg base "_law_kinds" 1 (spKinds K mg) := calleeX_of F__law_kinds a__law_kinds ok__law_kinds fun _ _ _ _ _ _ us hl => match us, hl with | [_], _ => rfl
  have ok__law_error := ok_errD  (P := pw) (w := w) (base := base) (mg := mg) F__law_error m0_isinstance cx__law_kinds 
  have cx__law_error : CalleeX pw w K mg base "_law_error" 2 (spErrD K mg) := calleeX_of F__law_error a__law_error ok__law_error fun _ _ _ _ _ _ us hl => match us, hl with | [_], _ => rfl
  have ok_is_item := ok_isItem  (P := pw) (w := w) (base := base) (mg := mg) F_is_item m0_isinstance m0_int m0_bool m0_str m0_len t_VARIABLES 
  have c_is_item : CalleeG pw w K mg base "is_item" 1 spIsItem := callee_of F_is_item a_is_item ok_is_item fun _ _ _ _ _ _ us hl => match us, hl with | [_, _, _, _], _ => rfl
  have ok_is_row := ok_isRow  (P := pw) (w := w) (base := base) (mg := mg) F_is_row m0_isinstance m0_tuple m0_len m0_str m0_all m0_zip c_is_item 
  have c_is_row : CalleeG pw w K mg base "is_row" 2 spIsRow := callee_of F_is_row a_is_row ok_is_row fun _ _ _ _ _ _ us hl => match us, hl with | [_, _, _, _], _ => rfl
  have ok_checked_rows := ok_checkedRows (C_TooLarge := iC K "TooLarge") (C_BadRow := iC K "BadRow") (P := pw) (w := w) (base := base) (mg := mg) F_checked_rows m0_len x_TooLarge m0_enumerate c_is_row x_BadRow m0_tuple 
  have cd_checked_rows : CalleeD pw w K mg base "checked_rows" 3 [D2.rI 40000] spCheckedRows := calleeP_of F_checked_rows a_checked_rows ok_checked_rows (List.cons_ne_nil _ _) 3 rfl (fun T kV doc pm an cdv ct us its l1 l2 => match us, l1, its, l2 with | [_, _, _], _, [_], _ => ⟨_, rfl, rfl⟩) fun G => .cons (.dat .int) (.nil)
  have ok_needed_rows := ok_needed  (P := pw) (w := w) (base := base) (mg := mg) F_needed_rows m0_len m0_reversed m0_range m0_isinstance m0_int 
  have c_needed_rows : CalleeG pw w K mg base "needed_rows" 1 spNeeded := callee_of F_needed_rows a_needed_rows ok_needed_rows fun _ _ _ _ _ _ us hl => match us, hl with | [_], _ => rfl
  have ok_sheet_text := ok_sheetText  (P := pw) (w := w) (base := base) (mg := mg) F_sheet_text m0_str 
  have c_sheet_text : CalleeG pw w K mg base "sheet_text" 1 spSheetText := callee_of F_sheet_text a_sheet_text ok_sheet_text fun _ _ _ _ _ _ us hl => match us, hl with | [_, _], _ => rfl
  have ok_check_letters := ok_checkLetters (C_BadLetters := iC K "BadLetters") (P := pw) (w := w) (base := base) (mg := mg) F_check_letters t_ALPHABETS x_BadLetters 
  have c_check_letters : CalleeG pw w K mg base "check_letters" 3 (spCheckLetters (iC K "BadLetters")) := callee_of F_check_letters a_check_letters ok_check_letters fun _ _ _ _ _ _ us hl => match us, hl with | [_], _ => rfl
  have ok_is_word := ok_isWord  (P := pw) (w := w) (base := base) (mg := mg) F_is_word  
  have c_is_word : CalleeG pw w K mg base "is_word" 1 spIsWord := callee_of F_is_word a_is_word ok_is_word fun _ _ _ _ _ _ us hl => match us, hl with | [_, _], _ => rfl
  have ok_check_word := ok_checkWord (C_BadLetters := iC K "BadLetters") (C_BadWord := iC K "BadWord") (C_TooLarge := iC K "TooLarge") (P := pw) (w := w) (base := base) (mg := mg) F_check_word c_check_letters c_is_word x_BadWord m0_len x_TooLarge 
  have cd_check_word : CalleeD pw w K mg base "check_word" 4 [D2.rI 60] (spCheckWord (iC K "BadLetters") (iC K "BadWord") (iC K "TooLarge")) := calleeD_of F_check_word a_check_word ok_check_word (List.cons_ne_nil _ _) 2 rfl (fun _ _ _ _ _ _ us ks hl hk => match us, hl, ks, hk with | [_, _], _, [_], _ => ⟨_, _, _, _, _, _, rfl, rfl, rfl⟩) fun G => .cons (.dat .int) (.nil)
  have ck_check_word : CalleeK pw w K mg base "check_word" 4 2 ["most"] (fun rs zs => rs ++ zs) (spCheckWord (iC K "BadLetters") (iC K "BadWord") (iC K "TooLarge")) := calleeK_of F_check_word a_check_word ok_check_word (List.cons_ne_nil _ _) 2 ["most"] fun _ _ _ _ _ _ us ws hl hw => match us, hl, ws, hw with | [_, _], _, [_], _ => rfl
  have ok_split_bits := ok_splitBits  (P := pw) (w := w) (base := base) (mg := mg) F_split_bits m0_len m0_enumerate 
  have c_split_bits : CalleeG pw w K mg base "split_bits" 1 spSplitBits := callee_of F_split_bits a_split_bits ok_split_bits fun _ _ _ _ _ _ us hl => match us, hl with | [_, _, _, _, _], _ => rfl
  have ok_row_bits := ok_rowBits  (P := pw) (w := w) (base := base) (mg := mg) F_row_bits c_split_bits 
  have c_row_bits : CalleeG pw w K mg base "row_bits" 2 spRowBits := callee_of F_row_bits a_row_bits ok_row_bits fun _ _ _ _ _ _ us hl => match us, hl with | [_, _, _, _, _], _ => rfl
  have ok_stretch_bits := ok_stretchBits (C_Expression := iC K "Expression") (P := pw) (w := w) (base := base) (mg := mg) F_stretch_bits m0_len m0_sum m0_range c_needed_rows c_row_bits k_Expression n_Expression_rows 
  have c_stretch_bits : CalleeG pw w K mg base "stretch_bits" 3 (spStretchBits (iC K "Expression")) := callee_of F_stretch_bits a_stretch_bits ok_stretch_bits fun _ _ _ _ _ _ us hl => match us, hl with | [_, _], _ => rfl
  have ok_expression_truth := ok_exTruth (C_Expression := iC K "Expression") (P := pw) (w := w) (base := base) (mg := mg) F_expression_truth c_stretch_bits m0_len 
  have c_expression_truth : CalleeG pw w K mg base "expression_truth" 4 (spExTruth (iC K "Expression")) := callee_of F_expression_truth a_expression_truth ok_expression_truth fun _ _ _ _ _ _ us hl => match us, hl with | [_, _], _ => rfl
  have ok_split_depths := ok_splitDepths  (P := pw) (w := w) (base := base) (mg := mg) F_split_depths m0_max m0_isinstance m0_int 
  have c_split_depths : CalleeG pw w K mg base "split_depths" 1 spSplitDepths := callee_of F_split_depths a_split_depths ok_split_depths fun _ _ _ _ _ _ us hl => match us, hl with | [_], _ => rfl
  have ok_Expression___init__ := ok_exInit (C_BadLetters := iC K "BadLetters") (C_Expression := iC K "Expression") (P := pw) (w := w) (base := base) (mg := mg) F_Expression___init__ c_check_letters cd_checked_rows m0_dict t_SHAPES c_sheet_text c_split_depths k_Expression n_Expression_letters n_Expression_rows n_Expression_text n_Expression_depth 
  have i_Expression : CalleeI pw w K mg base "Expression" (iC K "Expression") 4 (spExInit (iC K "Expression")) := ⟨b_Expression, _, _, _, r_Expression, F_Expression___init__.bindsN fun _ _ _ _ _ _ us hl => match us, hl with | [_, _, _], _ => rfl, ok_Expression___init__⟩
  have ok_gap_bits := ok_gapBits (C_Expression := iC K "Expression") (P := pw) (w := w) (base := base) (mg := mg) F_gap_bits m0_len c_stretch_bits m0_range 
  have c_gap_bits : CalleeG pw w K mg base "gap_bits" 4 (spGapBits (iC K "Expression")) := callee_of F_gap_bits a_gap_bits ok_gap_bits fun _ _ _ _ _ _ us hl => match us, hl with | [_, _], _ => rfl
  have ok_holds := ok_holds (C_BadLetters := iC K "BadLetters") (C_BadWord := iC K "BadWord") (C_TooLarge := iC K "TooLarge") (C_Expression := iC K "Expression") (P := pw) (w := w) (base := base) (mg := mg) F_holds cd_check_word c_expression_truth k_Expression n_Expression_letters 
  have c_holds : CalleeG pw w K mg base "holds" 5 (spHolds (iC K "Expression") (iC K "BadWord") (iC K "TooLarge")) := callee_of F_holds a_holds ok_holds fun _ _ _ _ _ _ us hl => match us, hl with | [_, _], _ => rfl
  have ok_stretches := ok_stretches (C_BadLetters := iC K "BadLetters") (C_BadWord := iC K "BadWord") (C_TooLarge := iC K "TooLarge") (C_Expression := iC K "Expression") (P := pw) (w := w) (base := base) (mg := mg) F_stretches ck_check_word t_MOST c_gap_bits m0_range m0_len k_Expression n_Expression_letters 
  have c_stretches : CalleeG pw w K mg base "stretches" 5 (spStretches (iC K "Expression") (iC K "BadWord") (iC K "TooLarge")) := callee_of F_stretches a_stretches ok_stretches fun _ _ _ _ _ _ us hl => match us, hl with | [_, _], _ => rfl
  have ok__law_mixed := ok_mixed  (P := pw) (w := w) (base := base) (mg := mg) F__law_mixed m0_int m0_len 
  have c__law_mixed : CalleeG pw w K mg base "_law_mixed" 1 spMixed := callee_of F__law_mixed a__law_mixed ok__law_mixed fun _ _ _ _ _ _ us hl => match us, hl with | [_, _], _ => rfl
  have ok__law_draw := ok_draw  (P := pw) (w := w) (base := base) (mg := mg) F__law_draw m0_len c__law_mixed m0_int 
  have c__law_draw : CalleeG pw w K mg base "_law_draw" 2 spDraw := callee_of F__law_draw a__law_draw ok__law_draw fun _ _ _ _ _ _ us hl => match us, hl with | [_, _], _ => rfl
  have ok__law_open := ok_open  (P := pw) (w := w) (base := base) (mg := mg) F__law_open m0_int m0_abs 
  have c__law_open : CalleeG pw w K mg base "_law_open" 1 spOpen := callee_of F__law_open a__law_open ok__law_open fun _ _ _ _ _ _ us hl => match us, hl with | [_], _ => rfl
  have ok__law_word := ok_pickWord  (P := pw) (w := w) (base := base) (mg := mg) F__law_word m0_range c__law_draw m0_len 
  have c__law_word : CalleeG pw w K mg base "_law_word" 3 spPickWord := callee_of F__law_word a__law_word ok__law_word fun _ _ _ _ _ _ us hl => match us, hl with | [_, _, _], _ => rfl
  have ok__law_many := ok_many  (P := pw) (w := w) (base := base) (mg := mg) F__law_many c__law_draw 
  have c__law_many : CalleeG pw w K mg base "_law_many" 3 spMany := callee_of F__law_many a__law_many ok__law_many fun _ _ _ _ _ _ us hl => match us, hl with | [_], _ => rfl
  have ok__law_long_word := ok_longWord  (P := pw) (w := w) (base := base) (mg := mg) F__law_long_word c__law_word c__law_draw m0_len 
  have c__law_long_word : CalleeG pw w K mg base "_law_long_word" 4 spLongWord := callee_of F__law_long_word a__law_long_word ok__law_long_word fun _ _ _ _ _ _ us hl => match us, hl with | [_, _, _], _ => rfl
  have ok__law_holds_kept := ok_holdsKept (C_Expression := iC K "Expression") (C_BadWord := iC K "BadWord") (C_TooLarge := iC K "TooLarge") (P := pw) (w := w) (base := base) (mg := mg) F__law_holds_kept c_holds 
  have c__law_holds_kept : CalleeG pw w K mg base "_law_holds_kept" 6 (spHoldsKept (iC K "Expression")) := callee_of F__law_holds_kept a__law_holds_kept ok__law_holds_kept fun _ _ _ _ _ _ us hl => match us, hl with | [_, _, _], _ => rfl
  have ok__law_cut := ok_cut  (P := pw) (w := w) (base := base) (mg := mg) F__law_cut m0_range m0_len 
  have c__law_cut : CalleeG pw w K mg base "_law_cut" 1 spCut := callee_of F__law_cut a__law_cut ok__law_cut fun _ _ _ _ _ _ us hl => match us, hl with | [_, _, _, _], _ => rfl
  have ok__law_parts := ok_parts  (P := pw) (w := w) (base := base) (mg := mg) F__law_parts m0_range m0_len 
  have c__law_parts : CalleeG pw w K mg base "_law_parts" 1 spParts := callee_of F__law_parts a__law_parts ok__law_parts fun _ _ _ _ _ _ us hl => match us, hl with | [_], _ => rfl
  have ok__law_said := ok_said17  (P := pw) (w := w) (base := base) (mg := mg) F__law_said c__law_parts c__law_cut 
  have c__law_said : CalleeG pw w K mg base "_law_said" 2 spSaid17 := callee_of F__law_said a__law_said ok__law_said fun _ _ _ _ _ _ us hl => match us, hl with | [_, _], _ => rfl
  have ok__law_pairs_kept := ok_pairsKept (C_Expression := iC K "Expression") (C_BadWord := iC K "BadWord") (C_TooLarge := iC K "TooLarge") (P := pw) (w := w) (base := base) (mg := mg) F__law_pairs_kept m0_range m0_len c_stretches m0_isinstance m0_list m0_tuple m0_bool 
  have c__law_pairs_kept : CalleeG pw w K mg base "_law_pairs_kept" 6 (spPairsKept (iC K "Expression")) := callee_of F__law_pairs_kept a__law_pairs_kept ok__law_pairs_kept fun _ _ _ _ _ _ us hl => match us, hl with | [_, _, _], _ => rfl
  have ok__law_ask := ok_ask17 (C_Expression := iC K "Expression") (C_BadWord := iC K "BadWord") (C_TooLarge := iC K "TooLarge") (P := pw) (w := w) (base := base) (mg := mg) F__law_ask c_holds c_stretches cx__law_error O_BadWord O_TooLarge 
  have c__law_ask : CalleeG pw w K mg base "_law_ask" 6 (spAsk17 (iC K "Expression")) := callee_of F__law_ask a__law_ask ok__law_ask fun _ _ _ _ _ _ us hl => match us, hl with | [_, _, _], _ => rfl
  have ok__law_refusals_kept := ok_refusals17 (C_Expression := iC K "Expression") (P := pw) (w := w) (base := base) (mg := mg) F__law_refusals_kept c__law_word c__law_draw m0_len m0_int c__law_ask 
  have c__law_refusals_kept : CalleeG pw w K mg base "_law_refusals_kept" 7 (spRefusals17 (iC K "Expression")) := callee_of F__law_refusals_kept a__law_refusals_kept ok__law_refusals_kept fun _ _ _ _ _ _ us hl => match us, hl with | [_, _, _], _ => rfl
  have ok__law_rows_kept := ok_rowsKept17 (C_Expression := iC K "Expression") (P := pw) (w := w) (base := base) (mg := mg) F__law_rows_kept c__law_said m0_range m0_len i_Expression c__law_holds_kept 
  have c__law_rows_kept : CalleeG pw w K mg base "_law_rows_kept" 7 (spRowsKept17 (iC K "Expression")) := callee_of F__law_rows_kept a__law_rows_kept ok__law_rows_kept fun _ _ _ _ _ _ us hl => match us, hl with | [_, _, _], _ => rfl
  have ok__law_long_kept := ok_long17 (C_Expression := iC K "Expression") (P := pw) (w := w) (base := base) (mg := mg) F__law_long_kept c__law_long_word c__law_draw c__law_pairs_kept i_Expression c__law_said m0_len c__law_holds_kept 
  have c__law_long_kept : CalleeG pw w K mg base "_law_long_kept" 7 (spLong17 (iC K "Expression")) := callee_of F__law_long_kept a__law_long_kept ok__law_long_kept fun _ _ _ _ _ _ us hl => match us, hl with | [_, _, _], _ => rfl
  have ok__law_sheet := ok_sheetX  (P := pw) (w := w) (base := base) (mg := mg) F__law_sheet c__law_draw m0_range m0_min m0_len m0_int 
  have c__law_sheet : CalleeG pw w K mg base "_law_sheet" 3 spSheetX := callee_of F__law_sheet a__law_sheet ok__law_sheet fun _ _ _ _ _ _ us hl => match us, hl with | [_, _, _], _ => rfl
  exact ok_law (P := pw) (w := w) (base := base) (mg := mg) F_law c__law_open c__law_draw c__law_sheet c__law_many c__law_word c__law_rows_kept i_Expression m0_list c__law_pairs_kept c__law_said c__law_holds_kept c__law_refusals_kept c__law_long_kept 
end NC
theorem PySem.Challenge.cw_nocounters_k17_stretch_meaning_holds : PySem.Challenge.rw_nocounters_k17_stretch_meaning.Holds :=
  NC.closing NC.facts
