import PyProof.Rows.All
import HandS.Words
import HandS.ExcInit
import HandS.ExcCtx
import HandS.ExcField
import HandS.Defaults
import HandS.HeadHook1
import HandS.HeadHook2
import HandS.HeadHook4
import HandS.HeadEnd
import HandS.EndTab
import HandS.Head0
import HandS.Head1
import HandS.Head2
import Wide.All
import OpenK.AllK
import Wide.FinOn
import HandS.ForMost
import HandS.Exc
import HandS.TryOnly
import HandS.TryMany
import HandS.ExcOwn
import HandS.WordsExc
import HandS.IsInst
import HandS.Wide
import HandS.Lambda
import HandS.ExcValue
import HandS.TupAny
import HandS.WideBits
import HandS.Deep
import HandS.DeepEq
import HandS.DictComp
import PyProof.NeData
import KE.DataCmp
import HandS.List
import PyProof.Rows.SumAny
import PyProof.SumAnyB
import PyProof.TupleOfStr
import PyProof.ListStr
import HandS.Text
import HandS.StrSplit
import HandS.RaiseMore
import HandS.Conv
import HandS.Iter
import HandS.Small
import HandS.CallSlots
import HandS.Flow
import HandS.Strs
import HandS.Style
import HandS.Rev
import PyProof.ListRange
import HandS.ExcIs
import KE.DataFind
import PyProof.Draws
import PyProof.EnumMake
import HandS.ReplaceLit
import HandS.Dict
import PyProof.ReprRoads
import PyProof.RowDictHeap
import PyProof.CallFns
import KE.SortKeyHeap
import HandS.More
import HandS.SortKw
import HandS.Keys
import HandS.HotCalls
import KE.KExcIs
import HandS.Comp
import KE.SortData
import PyProof.ReprLen
import PySem.Challenge.RW_blocksign_k83_whole_unended
set_option Elab.async false
set_option linter.all false
set_option maxRecDepth 100000
namespace DM
open PySem L2 PyProof.Rows
def oexB (K : PySem.W.Frag) (C : Addr) : Bool := (match K.lookup C with
  | some ⟨.type "type", _, .cls cd, sl⟩ => (match cd.mro, sl.toList with
    | .ref C' :: bm, [_, _, _, _, some (.builtin n), _] => C' == C && n == "ValueError.__new__" && !cd.hasDel && cd.hasDict && PySem.HandSPX.refsVE bm
    | _, _ => false)
  | _ => false) && (He.eqO (PySem.W.findIn K (.ref C) "__setattr__") (some (some (.builtin "object.__setattr__"))) && (decide (PySem.W.subIn K (.ref C) (.type "BaseException") = some true) && (decide (PySem.W.typeIn K (.ref C) = some (.type "type")) && PySem.W.keepIn K (.ref C))))
def isVal : Option PySem.W.CFound → Value → Bool
  | some (.val v), u => decide (v = u)
  | _, _ => false
/-- what the row must tell of the class C and of the class S over it -/
def ncB (K : PySem.W.Frag) (C S : Addr) : Bool := oexB K C && (xfB K C && (He.eqO (PySem.W.findIn K (.ref C) "at") (some none) && (He.eqO (PySem.W.findIn K (.ref C) "__init__") (some (some (.ref (He.ma K C "__init__")))) &&
  (decide (PySem.W.typeIn K (.ref (He.ma K C "__init__")) = some (.type "function")) && (decide (PySem.W.specialIn K (.ref S) "__getattribute__" = some (some (.builtin "type.__getattribute__"))) && (PySem.W.readsIn K S (.type "type") &&
  isVal (PySem.W.findCls K (.ref S) (.type "type") "__init__") (.builtin "ValueError.__init__")))))))
inductive Fe where
  | exc (y : Str) | isx (y c : Str) (b : Bool) | ist (y : Str) (n : String) (b : Bool) | nc (y c : Str) | tui (x : Str) (ns : List Int) | tus (x : Str) (ns : List Str)
def intsB : List Value → List Int → Bool
  | [], [] => true
  | .int j _ :: vs, i :: is => decide (j = i) && intsB vs is
  | _, _ => false
def strsB : List Value → List Str → Bool
  | [], [] => true
  | .str j _ :: vs, i :: is => decide (j = i) && strsB vs is
  | _, _ => false
def tusB (K : PySem.W.Frag) (a : Addr) (ns : List Str) : Bool := match K.lookup a with
  | some o => decide (o.cls = .type "tuple") && (match o.data with
    | .seq its _ => decide (its.size ≤ sizeLine) && strsB its.toList ns
    | _ => false)
  | none => false
def tuiB (K : PySem.W.Frag) (a : Addr) (ns : List Int) : Bool := match K.lookup a with
  | some o => decide (o.cls = .type "tuple") && (match o.data with
    | .seq its _ => decide (its.size ≤ sizeLine) && intsB its.toList ns
    | _ => false)
  | none => false
def excB (K : PySem.W.Frag) (a : Addr) : Bool :=
  He.eqO (PySem.W.findIn K (.ref a) "__getattribute__") (some (some (.builtin "BaseException.__getattribute__"))) && (He.eqO (PySem.W.findIn K (.ref a) "__getattr__") (some none) && (decide (PySem.W.subIn K (.ref a) (.type "BaseException") = some true) &&
  (PySem.W.hasDictIn K a && (He.eqO (PySem.W.findIn K (.ref a) "__class__") (some (some (.builtin "object.__class__"))) && (He.eqO (PySem.W.specialIn K (.builtin "object.__class__") "__get__") (some (some (.builtin "getset_descriptor.__get__"))) &&
  (decide (PySem.W.takesIn K (.builtin "object.__class__") = some true) && decide (PySem.W.mroIn K a (.type "object") = some true)))))))
def Fe.ok (K : PySem.W.Frag) : Fe → Bool
  | .exc y => excB K (He.ga K y)
  | .isx y c b => decide (PySem.W.kitOne K (.ref (He.ga K y)) (.ref (He.ga K c)) = some b)
  | .ist y n b => decide (PySem.W.kitOne K (.ref (He.ga K y)) (.type n) = some b)
  | .nc y c => ncB K (He.ga K y) (He.ga K c)
  | .tui x ns => tuiB K (He.ga K x) ns
  | .tus x ns => tusB K (He.ga K x) ns
abbrev AlE : Type := He.AlD × Bool
def SaysE (fa : List He.Fa) (fn : List He.DefD) (fe : List Fe) (K : PySem.W.Frag) : Prop := He.SaysD fa fn K ∧ (fe.all fun f => f.ok K) = true
def pickB : List Addr → Nat → List Addr → List Addr × Nat
  | [], m, acc => (acc, m)
  | a :: r, m, acc => match Nat.beq (Nat.land (Nat.shiftRight m a) 1) 1 with
    | true => pickB r m acc
    | false => pickB r (Nat.lor m (Nat.shiftLeft 1 a)) (a :: acc)
def levB (g : Addr → Option Obj) : Nat → List Addr → Nat → List Addr → List Addr
  | 0, _, _, all => all
  | n + 1, fr, m, all => match pickB (fr.flatMap fun a => match g a with
      | some o => He.refsD o
      | none => []) m [] with
    | (new, m2) => levB g n new m2 (new ++ all)
def asB (g : Addr → Option Obj) (n : Nat) : List Addr := levB g n [mainGlobals] (Nat.shiftLeft 1 mainGlobals) [mainGlobals]
def asT (g : Addr → Option Obj) (n : Nat) : List Addr := (asB g n).filter fun a => match g a with
  | some o => (match o.cls, o.data with
    | .none, .fields vs => !(vs.size == 0)
    | _, _ => true)
  | none => true
def tabB (K : PySem.W.Frag) (m : Str) : Bool := match PySem.W.tabIn K m with
  | some (_, T) => (K.lookup T).isNone
  | none => false
def obsET (n : Nat) (m : Str) (fa : List He.Fa) (fn : List He.DefD) (fe : List Fe) (g : Addr → Option Obj) : AlE := (He.obsD fa fn (He.frG g (asT g n ++ [PySem.cStatics])), (fe.all fun f => f.ok (He.frG g (asT g n ++ [PySem.cStatics]))) && tabB (He.frG g (asT g n ++ [PySem.cStatics])) m)
def SaysT (m : Str) (fa : List He.Fa) (fn : List He.DefD) (fe : List Fe) (K : PySem.W.Frag) : Prop := SaysE fa fn fe K ∧ tabB K m = true
def hookT (n : Nat) (m : Str) (fa : List He.Fa) (fn : List He.DefD) (fe : List Fe) : PySem.W.Hook where
  α := AlE
  obs := fun s => obsET n m fa fn fe s.heap.get?
  val := fun _ => (He.valD fn, true)
  says := fun _ h => ∃ K : PySem.W.Frag, K.In h ∧ SaysT m fa fn fe K
  of := fun _ _ e => ⟨_, He.frG_in, ⟨congrArg Prod.fst e, (Bool.and_eq_true_iff.mp (congrArg Prod.snd e)).1⟩, (Bool.and_eq_true_iff.mp (congrArg Prod.snd e)).2⟩
  keeps _ _ _ := fun ⟨K, inn, says⟩ more => ⟨K, inn.keeps more, says⟩
theorem obsET_eq {n : Nat} {m : Str} {fa : List He.Fa} {fn : List He.DefD} {fe : List Fe} {g : Addr → Option Obj} {s : Shared} (h : ∀ a, g a = s.heap.get? a) : obsET n m fa fn fe g = (hookT n m fa fn fe).obs s := (funext h : g = s.heap.get?) ▸ rfl
end DM
set_option Elab.async false
set_option linter.all false
set_option maxRecDepth 100000
noncomputable section
namespace DM
open PySem PySem.W PySem.Calls PyProof.Rows HandSHeadRun
abbrev runE (r : OpenRow) (M : Nat) (w : World) (os : OsState) := endF (stepQ (denQ tabQ) r.prog w) M r.prog w os
theorem run_join {S α β : Type} {E : Option S} {a : S → α} {b : S → β} {fe fa fn : S → Bool} {fv : S → List He.FnW} {x : α} {y : β} {v : List He.FnW}
    (h1 : E.map (fun s => (a s, b s, fe s)) = some (x, y, true)) (h2 : E.map fa = some true) (h3 : E.map (fun s => (fn s, fv s)) = some (true, v)) :
    E.map (fun s => (a s, b s, (((fa s && fn s), fv s), fe s))) = some (x, y, ((true, v), true)) := by
  cases E with
  | none => cases h2
  | some s =>
    injection h1 with h1
    injection h2 with h2
    injection h3 with h3
    injection h1 with e1 h1
    injection h1 with e2 e3
    injection h3 with e4 e5
    show some (a s, b s, (((fa s && fn s), fv s), fe s)) = _
    rw [e1, e2, e3, h2, e4, e5]
    rfl
def frT (n : Nat) (s : SharedT) : PySem.W.Frag := He.frG (getT s) (asT (getT s) n ++ [PySem.cStatics])
def Run1 (fr : SharedT → PySem.W.Frag) (r : OpenRow) (q : Program) (fe : PySem.W.Frag → Bool) (M : Nat) (loose : List PySem.Str) (w : World) : Prop :=
  ∀ os : OsState, (runE r M w os).map (fun s => (looksF r.prog (boot_heap w.params) s.abs, seenQ q loose (importedModules r.prog.main.body) (fun s => xlAt q [] s && recOk r.toRowW.records s) s.abs, fe (fr s))) = some (true, openGood q loose, true)
def Run2 (fr : SharedT → PySem.W.Frag) (r : OpenRow) (fa : List He.Fa) (M : Nat) (w : World) : Prop :=
  ∀ os : OsState, (runE r M w os).map (fun s => fa.all fun f => f.ok (fr s)) = some true
def Run3 (fr : SharedT → PySem.W.Frag) (r : OpenRow) (fn : List He.DefD) (M : Nat) (w : World) : Prop :=
  ∀ os : OsState, (runE r M w os).map (fun s => (fn.all fun d => d.ok (fr s), fn.map fun d => He.fnW (fr s) d.at_)) = some (true, fn.map He.DefD.val)
theorem runT_of {r : OpenRow} {q : Program} {n : Nat} {m : Str} {fa : List He.Fa} {fn : List He.DefD} {fe : List Fe} {M : Nat} {loose : List PySem.Str} {w : World}
    (h1 : Run1 (frT n) r q (fun K => (fe.all fun f => f.ok K) && tabB K m) M loose w) (h2 : Run2 (frT n) r fa M w) (h3 : Run3 (frT n) r fn M w) : RunEq r q (hookT n m fa fn fe) (fun s => obsET n m fa fn fe (getT s)) M loose w := fun os => by
  have z := run_join (h1 os) (h2 os) (h3 os)
  exact z
end DM
section
set_option autoImplicit false
set_option Elab.async false
set_option linter.all false
set_option maxRecDepth 100000
set_option maxHeartbeats 0
namespace DM.Ak83
open PySem PySem.Spec PyProof.Rows L2 DM
def top (i : Nat) : Stmt := PySem.Challenge.pw_blocksign_k83_whole_unended.main.body.getD i (.Pass ⟨0, 0, 0, 0⟩)
def d0 : He.DefD := ⟨("_law_take", none), "_law_take", "_law_take", defArgs (top 31), defBody (top 31), defScope (top 31), [], []⟩
def d1 : He.DefD := ⟨("_law_mixed", none), "_law_mixed", "_law_mixed", defArgs (top 32), defBody (top 32), defScope (top 32), [], []⟩
def d2 : He.DefD := ⟨("_law_more", none), "_law_more", "_law_more", defArgs (top 33), defBody (top 33), defScope (top 33), [], []⟩
def d3 : He.DefD := ⟨("is_part", none), "is_part", "is_part", defArgs (top 23), defBody (top 23), defScope (top 23), [], []⟩
def d4 : He.DefD := ⟨("are_parts", none), "are_parts", "are_parts", defArgs (top 24), defBody (top 24), defScope (top 24), [], []⟩
def d5 : He.DefD := ⟨("is_whole", none), "is_whole", "is_whole", defArgs (top 22), defBody (top 22), defScope (top 22), [], []⟩
def d6 : He.DefD := ⟨("letters_in", none), "letters_in", "letters_in", defArgs (top 25), defBody (top 25), defScope (top 25), [], []⟩
def d7 : He.DefD := ⟨("are_script", none), "are_script", "are_script", defArgs (top 26), defBody (top 26), defScope (top 26), [], []⟩
def d8 : He.DefD := ⟨("Script", some "__init__"), "__init__", "Script.__init__", defArgs (inClass (top 27) 0), defBody (inClass (top 27) 0), defScope (inClass (top 27) 0), [.int 0], []⟩
def d9 : He.DefD := ⟨("_law_script", none), "_law_script", "_law_script", defArgs (top 34), defBody (top 34), defScope (top 34), [], []⟩
def d10 : He.DefD := ⟨("_law_cell_at", none), "_law_cell_at", "_law_cell_at", defArgs (top 29), defBody (top 29), defScope (top 29), [], []⟩
def d11 : He.DefD := ⟨("_law_pot", none), "_law_pot", "_law_pot", defArgs (top 30), defBody (top 30), defScope (top 30), [], []⟩
def d12 : He.DefD := ⟨("Script", some "firsts"), "firsts", "Script.firsts", defArgs (inClass (top 27) 1), defBody (inClass (top 27) 1), defScope (inClass (top 27) 1), [], []⟩
def d13 : He.DefD := ⟨("Script", some "middles"), "middles", "Script.middles", defArgs (inClass (top 27) 2), defBody (inClass (top 27) 2), defScope (inClass (top 27) 2), [], []⟩
def d14 : He.DefD := ⟨("Script", some "lasts"), "lasts", "Script.lasts", defArgs (inClass (top 27) 3), defBody (inClass (top 27) 3), defScope (inClass (top 27) 3), [], []⟩
def d15 : He.DefD := ⟨("_law_unit", none), "_law_unit", "_law_unit", defArgs (top 35), defBody (top 35), defScope (top 35), [], []⟩
def d16 : He.DefD := ⟨("_law_end", none), "_law_end", "_law_end", defArgs (top 37), defBody (top 37), defScope (top 37), [], []⟩
def d17 : He.DefD := ⟨("Script", some "is_first"), "is_first", "Script.is_first", defArgs (inClass (top 27) 7), defBody (inClass (top 27) 7), defScope (inClass (top 27) 7), [], []⟩
def d18 : He.DefD := ⟨("Script", some "is_middle"), "is_middle", "Script.is_middle", defArgs (inClass (top 27) 8), defBody (inClass (top 27) 8), defScope (inClass (top 27) 8), [], []⟩
def d19 : He.DefD := ⟨("is_loose", none), "is_loose", "is_loose", defArgs (top 10), defBody (top 10), defScope (top 10), [], []⟩
def d20 : He.DefD := ⟨("Script", some "is_last"), "is_last", "Script.is_last", defArgs (inClass (top 27) 9), defBody (inClass (top 27) 9), defScope (inClass (top 27) 9), [], []⟩
def d21 : He.DefD := ⟨("Script", some "has_block"), "has_block", "Script.has_block", defArgs (inClass (top 27) 10), defBody (inClass (top 27) 10), defScope (inClass (top 27) 10), [], []⟩
def d22 : He.DefD := ⟨("is_block", none), "is_block", "is_block", defArgs (top 9), defBody (top 9), defScope (top 9), [], []⟩
def d23 : He.DefD := ⟨("is_unit", none), "is_unit", "is_unit", defArgs (top 11), defBody (top 11), defScope (top 11), [], []⟩
def d24 : He.DefD := ⟨("unit_told", none), "unit_told", "unit_told", defArgs (top 12), defBody (top 12), defScope (top 12), [], []⟩
def d25 : He.DefD := ⟨("looked_over", none), "looked_over", "looked_over", defArgs (top 13), defBody (top 13), defScope (top 13), [], []⟩
def d26 : He.DefD := ⟨("are_lasts", none), "are_lasts", "are_lasts", defArgs (top 16), defBody (top 16), defScope (top 16), [], []⟩
def d27 : He.DefD := ⟨("Ending", some "__init__"), "__init__", "Ending.__init__", defArgs (inClass (top 17) 0), defBody (inClass (top 17) 0), defScope (inClass (top 17) 0), [], []⟩
def d28 : He.DefD := ⟨("_law_ended", none), "_law_ended", "_law_ended", defArgs (top 38), defBody (top 38), defScope (top 38), [], []⟩
def d29 : He.DefD := ⟨("_law_word", none), "_law_word", "_law_word", defArgs (top 36), defBody (top 36), defScope (top 36), [], []⟩
def d30 : He.DefD := ⟨("_law_piece", none), "_law_piece", "_law_piece", defArgs (top 39), defBody (top 39), defScope (top 39), [], []⟩
def d31 : He.DefD := ⟨("_law_words", none), "_law_words", "_law_words", defArgs (top 40), defBody (top 40), defScope (top 40), [], []⟩
def d32 : He.DefD := ⟨("_law_number", none), "_law_number", "_law_number", defArgs (top 41), defBody (top 41), defScope (top 41), [], []⟩
def d33 : He.DefD := ⟨("_law_handed", none), "_law_handed", "_law_handed", defArgs (top 42), defBody (top 42), defScope (top 42), [], []⟩
def d34 : He.DefD := ⟨("Ending", some "stems"), "stems", "Ending.stems", defArgs (inClass (top 17) 2), defBody (inClass (top 17) 2), defScope (inClass (top 17) 2), [], []⟩
def d35 : He.DefD := ⟨("word_of", none), "word_of", "word_of", defArgs (top 15), defBody (top 15), defScope (top 15), [], []⟩
def d36 : He.DefD := ⟨("Ending", some "ended"), "ended", "Ending.ended", defArgs (inClass (top 17) 1), defBody (inClass (top 17) 1), defScope (inClass (top 17) 1), [], []⟩
def d37 : He.DefD := ⟨("Script", some "ends"), "ends", "Script.ends", defArgs (inClass (top 27) 11), defBody (inClass (top 27) 11), defScope (inClass (top 27) 11), [], []⟩
def d38 : He.DefD := ⟨("Script", some "number"), "number", "Script.number", defArgs (inClass (top 27) 13), defBody (inClass (top 27) 13), defScope (inClass (top 27) 13), [], []⟩
def d39 : He.DefD := ⟨("Ending", some "numbers"), "numbers", "Ending.numbers", defArgs (inClass (top 17) 4), defBody (inClass (top 17) 4), defScope (inClass (top 17) 4), [], []⟩
def d40 : He.DefD := ⟨("Ending", some "unended"), "unended", "Ending.unended", defArgs (inClass (top 17) 3), defBody (inClass (top 17) 3), defScope (inClass (top 17) 3), [], []⟩
def d41 : He.DefD := ⟨("law", none), "law", "law", defArgs (top 43), defBody (top 43), defScope (top 43), [], []⟩
def fn : List He.DefD := [d0, d1, d2, d3, d4, d5, d6, d7, d8, d9, d10, d11, d12, d13, d14, d15, d16, d17, d18, d19, d20, d21, d22, d23, d24, d25, d26, d27, d28, d29, d30, d31, d32, d33, d34, d35, d36, d37, d38, d39, d40, d41]
def fa : List He.Fa := ([.glo "_law_take", .glo "_law_mixed", .glo "_law_more", .glo "is_part", .glo "are_parts", .glo "is_whole", .glo "letters_in", .glo "are_script", .glo "_law_script", .glo "_law_cell_at", .glo "_law_pot", .glo "_law_unit", .glo "_law_end", .glo "is_loose", .glo "is_block", .glo "is_unit", .glo "unit_told", .glo "looked_over", .glo "are_lasts", .glo "_law_ended", .glo "_law_word", .glo "_law_piece", .glo "_law_words", .glo "_law_number", .glo "_law_handed", .glo "word_of", .glo "law", .free "len", .free "list", .free "tuple"] : List He.Fa) ++ ([.free "all", .free "any", .free "sum", .free "max", .free "min", .free "abs", .free "int", .free "divmod", .free "str", .free "isinstance", .free "reversed", .free "enumerate", .free "repr", .free "sorted", .free "zip", .free "range", .free "bool", .free "set", .int "MOST_LETTERS" 2, .str "LETTERS" "abcdefghijklmnopqrstuvwxyz", .int "MOST_PARTS" 40, .glo "Script", .cls "Script", .mkr "Script", .noat "Script" "first_parts", .noat "Script" "middle_parts", .noat "Script" "last_parts", .noat "Script" "least", .glo "Ending", .cls "Ending"] : List He.Fa) ++ ([.mkr "Ending", .noat "Ending" "after_last", .noat "Ending" "after_none", .noat "Ending" "script", .noat "Ending" "joined", .noat "Ending" "light", .glo "NoPiece", .glo "NoWord", .exc "NoPiece", .exc "NoWord", .exm "NoPiece" "NoPiece" true, .exm "NoWord" "NoPiece" false, .meth "Script" "__init__", .meth "Script" "firsts", .meth "Script" "middles", .meth "Script" "lasts", .meth "Script" "is_first", .meth "Script" "is_middle", .meth "Script" "is_last", .meth "Script" "has_block", .meth "Ending" "__init__", .meth "Ending" "stems", .meth "Ending" "ended", .meth "Script" "ends", .meth "Script" "number", .meth "Ending" "numbers", .meth "Ending" "unended"] : List He.Fa)
abbrev R : PySem.W.OpenRow := PySem.W.OpenLaw.row PySem.Challenge.rw_blocksign_k83_whole_unended
def fe : List DM.Fe := ([] : List DM.Fe)
abbrev hk : PySem.W.Hook := DM.hookT 4 "law" fa fn fe
def ob (s : PySem.W.SharedT) : DM.AlE := DM.obsET 4 "law" fa fn fe (HandSHeadRun.getT s)
theorem ob_eq (s : PySem.W.SharedT) : ob s = hk.obs s.abs := DM.obsET_eq (HandSHeadRun.getT_eq s)
def loose : List Str := (["SignError", "NoScript", "NoNumber", "NoBlock", "NoPiece", "NoWord", "NoEnding", "is_block", "is_loose", "is_unit", "unit_told", "looked_over", "word_of", "are_lasts", "Ending", "LETTERS", "MOST_PARTS", "MOST_LETTERS", "is_whole", "is_part", "are_parts", "letters_in", "are_script", "Script", "_law_cell_at", "_law_pot", "_law_take", "_law_mixed", "_law_more", "_law_script"] : List Str) ++ (["_law_unit", "_law_word", "_law_end", "_law_ended", "_law_piece", "_law_words", "_law_number", "_law_handed"] : List Str)
theorem run1 (w : World) : DM.Run1 (DM.frT 4) R (PySem.W.view R.prog [43]) (fun K => (fe.all fun f => f.ok K) && DM.tabB K "law") 9000 loose w := by
  intro os
  kernel_rfl
theorem run2 (w : World) : DM.Run2 (DM.frT 4) R fa 9000 w := by
  intro os
  kernel_rfl
theorem run3 (w : World) : DM.Run3 (DM.frT 4) R fn 9000 w := by
  intro os
  kernel_rfl
theorem run (w : World) : HandSHeadRun.RunEq R (PySem.W.view R.prog [43]) hk ob 9000 loose w := DM.runT_of (run1 w) (run2 w) (run3 w)
end DM.Ak83
end
section
set_option autoImplicit false
set_option Elab.async false
set_option linter.all false
set_option maxRecDepth 100000
set_option maxHeartbeats 0
open PySem PySem.W PySem.Calls PyProof.Rows
theorem DM.Ak83.pre (hc : WalkO (view (OpenLaw.row PySem.Challenge.rw_blocksign_k83_whole_unended).prog [43]) DM.Ak83.loose (XL (view (OpenLaw.row PySem.Challenge.rw_blocksign_k83_whole_unended).prog [43]) []) DM.Ak83.hk.says (OpenLaw.row PySem.Challenge.rw_blocksign_k83_whole_unended).toRowW (HandSHeadRun.topDef (OpenLaw.row PySem.Challenge.rw_blocksign_k83_whole_unended).prog 43) [] fun f vs => call f vs) : PySem.Challenge.rw_blocksign_k83_whole_unended.Holds := by
  w_on; o_law
  refine HandSHeadRun.head_any (r := OpenLaw.row PySem.Challenge.rw_blocksign_k83_whole_unended) (q := view (OpenLaw.row PySem.Challenge.rw_blocksign_k83_whole_unended).prog [43]) (H := DM.Ak83.hk) (ob := DM.Ak83.ob) (M := 9000) (loose := DM.Ak83.loose) (d := HandSHeadRun.topDef (OpenLaw.row PySem.Challenge.rw_blocksign_k83_whole_unended).prog 43) (kwd := []) DM.Ak83.ob_eq
    (by kernel_rfl) (fun s => by kernel_rfl) DM.Ak83.run (by kernel_rfl) (by kernel_rfl) (by kernel_rfl) (by rfl) (by first | assumption | decide +kernel) (by decide +kernel) ⟨rfl, rfl, rfl, rfl, rfl, by decide +kernel⟩ ?hw ?hc
  case hw => w_witness2
  case hc => exact hc
end
set_option Elab.async false
set_option linter.all false
set_option maxRecDepth 100000
namespace DM
open PySem L2
/-- a lambda that captures nothing -/
structure LamD where
  qual : Str
  params : Arguments
  body : Expr
  scope : Scope
def LamD.O (F : LamD) (f c' : Addr) : HO := .ext fun h => ∃ pm ctv : Value, h.get? f = some (PySem.W.kla_obj "<lambda>" F.qual F.params F.body F.scope [] pm c' ctv)
structure Gw where
  K : PySem.W.Frag
  ca : Str → Option Addr
  T : List (Addr × Str)
  lams : Nat → LamD → Prop := fun _ _ => False
inductive D where
  | non | bl (b : Bool) | int (i : Int) | str (x : Str) | ty (n : String) | ref (a : Addr)
  | tup (ds : List D) | lst (ds : List D) | frz (ns : List Int) | ins (c : Str) (fs : List (Str × D))
  | exc (c : Str) (o : Option Int) | lam (i : Nat)
abbrev Sl := List (Option D)
/-- owned objects -/
inductive Ch where
  | lst (ds : List D) | dct (kvs : List (Str × D)) | ins (c : Str) (fs : List (Str × D))
abbrev HL := List (Addr × Ch)
def dom (L : HL) : Addr → Prop := fun a => ∃ c, (a, c) ∈ L
/-- nothing is tracked -/
abbrev H0 : Hp := fun _ => none
theorem no_rd {a : Addr} {u : HO} : ¬ Rd H0 a u := fun h => by
  rcases h with h | ⟨_, h⟩ <;> cases h
/-- a tuple, a list of the module's own -/
def WrT (K : PySem.W.Frag) (a : Addr) (xs : List V) : Prop := SqT K H0 a xs
def WrL (K : PySem.W.Frag) (a : Addr) (xs : List V) : Prop := SqL K H0 a xs
def TupAt (K : PySem.W.Frag) (O : Addr → Prop) (H : Hp) (a : Addr) (xs : List V) : Prop := (¬ O a ∧ H a = some (.tup xs)) ∨ WrT K a xs
theorem TupAt.sq {K : PySem.W.Frag} {O : Addr → Prop} {H : Hp} {a : Addr} {xs : List V} (h : TupAt K O H a xs) : SqT K H a xs := h.elim (fun q => .inl (.inl q.2)) fun q => .inr (q.resolve_left no_rd)
/-- the law's own argument -/
def FrzAt (K : PySem.W.Frag) (O : Addr → Prop) (H : Hp) (a : Addr) (xs : List V) : Prop := (¬ O a ∧ Rd H a (.lst xs)) ∨ WrL K a xs
theorem FrzAt.sq {K : PySem.W.Frag} {O : Addr → Prop} {H : Hp} {a : Addr} {xs : List V} (h : FrzAt K O H a xs) : SqL K H a xs := h.elim (fun q => .inl q.2) fun q => .inr (q.resolve_left no_rd)
mutual
inductive Enc (G : Gw) (O : Addr → Prop) (H : Hp) : V → D → Prop
  | non : Enc G O H .non .non
  | bl (b : Bool) : Enc G O H (.bl b) (.bl b)
  | int (i : Int) : Enc G O H (.int i) (.int i)
  | str {x : Str} : x.length ≤ sizeLine → Enc G O H (.str x) (.str x)
  | ty (n : String) : Enc G O H (.ty n) (.ty n)
  | ref (a : Addr) : Enc G O H (.ref a) (.ref a)
  | tup {a : Addr} {xs : List V} {ds : List D} : TupAt G.K O H a xs → xs.length ≤ sizeLine → EncL G O H xs ds → Enc G O H (.ref a) (.tup ds)
  | lst {a : Addr} {xs : List V} {ds : List D} : ¬ O a → H a = some (.lst xs) → xs.length ≤ sizeLine → EncL G O H xs ds → Enc G O H (.ref a) (.lst ds)
  | frz {a : Addr} {ns : List Int} : FrzAt G.K O H a (ns.map V.int) → ns.length ≤ sizeLine → Enc G O H (.ref a) (.frz ns)
  | ins {a C dx : Addr} {c : Str} {vfs : List (Str × V)} {fs : List (Str × D)} : G.ca c = some C → ¬ O a → H a = some (.ins C dx vfs) → vfs.map (·.1) = fs.map (·.1) → EncL G O H (vfs.map (·.2)) (fs.map (·.2)) → Enc G O H (.ref a) (.ins c fs)
  | exc {a C : Addr} {c : Str} : G.ca c = some C → ¬ O a → H a = some (ExO (.ref C) a) → Enc G O H (.ref a) (.exc c none)
  | exa {a C dx : Addr} {c : Str} {n : Int} : G.ca c = some C → ¬ O a → ¬ O dx → H a = some (exo a C (some dx)) → H dx = some (exd dx [("at", .int n)]) → Enc G O H (.ref a) (.exc c (some n))
  | lam {a c' : Addr} {i : Nat} {F : LamD} : G.lams i F → ¬ O a → ¬ O c' → H a = some (F.O a c') → H c' = some (LamX.CodeO c' F.qual) → Enc G O H (.ref a) (.lam i)
inductive EncL (G : Gw) (O : Addr → Prop) (H : Hp) : List V → List D → Prop
  | nil : EncL G O H [] []
  | cons {v : V} {vs : List V} {d : D} {ds : List D} : Enc G O H v d → EncL G O H vs ds → EncL G O H (v :: vs) (d :: ds)
end
/-- what is not owned stays; a table of code objects may grow -/
def Pers (O : Addr → Prop) (H : Hp) (O' : Addr → Prop) (H' : Hp) : Prop :=
  (∀ a o, H a = some o → ¬ O a → H' a = some o ∨ ((∃ ps, o = .tbl ps) ∧ ∃ ps', H' a = some (.tbl ps'))) ∧ ∀ a, O' a → O a ∨ H a = none
theorem Pers.refl (O : Addr → Prop) (H : Hp) : Pers O H O H := ⟨fun _ _ h _ => .inl h, fun _ h => .inl h⟩
theorem Pers.off {O O' : Addr → Prop} {H H' : Hp} (p : Pers O H O' H') {a : Addr} {o : HO} (h : H a = some o) (n : ¬ O a) : ¬ O' a :=
  fun q => (p.2 a q).elim n fun e => by rw [h] at e; cases e
theorem Pers.keep {O O' : Addr → Prop} {H H' : Hp} (p : Pers O H O' H') {a : Addr} {o : HO} (h : H a = some o) (n : ¬ O a) (nt : ∀ ps, o ≠ .tbl ps := by intro _ z; cases z) : H' a = some o ∧ ¬ O' a :=
  ⟨(p.1 a o h n).elim id fun q => (q.1.elim fun ps e => (nt ps e).elim), p.off h n⟩
theorem Pers.trans {O O1 O2 : Addr → Prop} {H H1 H2 : Hp} (p : Pers O H O1 H1) (q : Pers O1 H1 O2 H2) : Pers O H O2 H2 := by
  refine ⟨fun a o h n => ?_, fun a h => ?_⟩
  · have n1 := p.off h n
    rcases p.1 a o h n with h1 | ⟨e, ps', h1⟩
    · exact q.1 a o h1 n1
    · rcases q.1 a _ h1 n1 with h2 | ⟨_, ps2, h2⟩
      · exact .inr ⟨e, ps', h2⟩
      · exact .inr ⟨e, ps2, h2⟩
  · rcases q.2 a h with h1 | h1
    · exact p.2 a h1
    · cases e : H a with
      | none => exact .inr rfl
      | some o =>
        by_cases n : O a
        · exact .inl n
        · rcases p.1 a o e n with h2 | ⟨_, ps', h2⟩
          · rw [h2] at h1
            cases h1
          · rw [h2] at h1
            cases h1
theorem Pers.new {O : Addr → Prop} {H : Hp} {p : Addr} {o : HO} (h : H p = none) : Pers O H O (upd H p o) :=
  ⟨fun a u e _ => .inl (by rw [upd_ne (ne_of_none e h)]; exact e), fun _ h => .inl h⟩
section
variable {G : Gw} {K : PySem.W.Frag} {O O' : Addr → Prop} {H H' : Hp}
theorem TupAt.pers (p : Pers O H O' H') {a : Addr} {xs : List V} (h : TupAt K O H a xs) : TupAt K O' H' a xs := by
  rcases h with ⟨n, h⟩ | h
  · exact .inl ⟨(p.keep h n).2, (p.keep h n).1⟩
  · exact .inr h
mutual
theorem Enc.pers (p : Pers O H O' H') : ∀ {v : V} {d : D}, Enc G O H v d → Enc G O' H' v d
  | _, _, .non => .non
  | _, _, .bl b => .bl b
  | _, _, .int i => .int i
  | _, _, .str h => .str h
  | _, _, .ty n => .ty n
  | _, _, .ref a => .ref a
  | _, _, .tup h n r => .tup (h.pers p) n (EncL.pers p r)
  | _, _, .lst n h z r => .lst (p.keep h n).2 (p.keep h n).1 z (EncL.pers p r)
  | _, _, .frz (.inl ⟨n, .inl h⟩) z => .frz (.inl ⟨(p.keep h n).2, .inl (p.keep h n).1⟩) z
  | _, _, .frz (.inl ⟨n, .inr ⟨o, h⟩⟩) z => .frz (.inl ⟨(p.keep h n).2, .inr ⟨o, (p.keep h n).1⟩⟩) z
  | _, _, .frz (.inr h) z => .frz (.inr h) z
  | _, _, .ins g n h e r => .ins g (p.keep h n).2 (p.keep h n).1 e (EncL.pers p r)
  | _, _, .lam g n m h k => .lam g (p.keep h n (by intro _ z; unfold LamD.O at z; cases z)).2 (p.keep k m (fun _ => LamX.codeO_ne _)).2 (p.keep h n (by intro _ z; unfold LamD.O at z; cases z)).1 (p.keep k m (fun _ => LamX.codeO_ne _)).1
  | _, _, .exc g n h => .exc g (p.keep h n (by intro _ z; unfold ExO at z; cases z)).2 (p.keep h n (by intro _ z; unfold ExO at z; cases z)).1
  | _, _, .exa g n m h k => .exa g (p.keep h n (fun _ => exo_tbl)).2 (p.keep k m (by intro _ z; unfold exd at z; cases z)).2 (p.keep h n (fun _ => exo_tbl)).1 (p.keep k m (by intro _ z; unfold exd at z; cases z)).1
theorem EncL.pers (p : Pers O H O' H') : ∀ {vs : List V} {ds : List D}, EncL G O H vs ds → EncL G O' H' vs ds
  | _, _, .nil => .nil
  | _, _, .cons h r => .cons (h.pers p) (EncL.pers p r)
end
theorem EncL.len : ∀ {vs : List V} {ds : List D}, EncL G O H vs ds → vs.length = ds.length
  | _, _, .nil => rfl
  | _, _, .cons _ r => congrArg (· + 1) r.len
theorem EncL.get : ∀ {vs : List V} {ds : List D} {i : Nat} {v : V}, EncL G O H vs ds → vs[i]? = some v → ∃ d, ds[i]? = some d ∧ Enc G O H v d
  | _, _, 0, _, .cons h _, e => by simp at e; subst e; exact ⟨_, rfl, h⟩
  | _, _, i + 1, v, .cons _ r, e => by
    obtain ⟨d, h1, h2⟩ := EncL.get (i := i) (v := v) r (by simpa using e)
    exact ⟨d, by simpa using h1, h2⟩
  | _, _, _, _, .nil, e => by simp at e
theorem EncL.getD : ∀ {vs : List V} {ds : List D} {i : Nat} {d : D}, EncL G O H vs ds → ds[i]? = some d → ∃ v, vs[i]? = some v ∧ Enc G O H v d
  | _, _, 0, _, .cons h _, e => by simp at e; subst e; exact ⟨_, rfl, h⟩
  | _, _, i + 1, d, .cons _ r, e => by
    obtain ⟨v, h1, h2⟩ := EncL.getD (i := i) (d := d) r (by simpa using e)
    exact ⟨v, by simpa using h1, h2⟩
  | _, _, _, _, .nil, e => by simp at e
theorem EncL.append : ∀ {vs ws : List V} {ds es : List D}, EncL G O H vs ds → EncL G O H ws es → EncL G O H (vs ++ ws) (ds ++ es)
  | _, _, _, _, .nil, s => s
  | _, _, _, _, .cons h r, s => .cons h (r.append s)
theorem EncL.take : ∀ {vs : List V} {ds : List D} (n : Nat), EncL G O H vs ds → EncL G O H (vs.take n) (ds.take n)
  | _, _, 0, _ => .nil
  | _, _, _ + 1, .nil => .nil
  | _, _, n + 1, .cons h r => .cons h (r.take n)
theorem EncL.drop : ∀ {vs : List V} {ds : List D} (n : Nat), EncL G O H vs ds → EncL G O H (vs.drop n) (ds.drop n)
  | _, _, 0, r => r
  | _, _, _ + 1, .nil => .nil
  | _, _, n + 1, .cons _ r => r.drop n
theorem EncL.set {x : V} {d : D} (h : Enc G O H x d) : ∀ {vs : List V} {ds : List D} (i : Nat), EncL G O H vs ds → EncL G O H (vs.set i x) (ds.set i d)
  | _, _, _, .nil => .nil
  | _, _, 0, .cons _ r => .cons h r
  | _, _, i + 1, .cons q r => .cons q (r.set h i)
theorem EncL.reverse : ∀ {vs : List V} {ds : List D}, EncL G O H vs ds → EncL G O H vs.reverse ds.reverse
  | _, _, .nil => .nil
  | _, _, .cons h r => by
    rw [List.reverse_cons, List.reverse_cons]
    exact r.reverse.append (.cons h .nil)
theorem EncL.eraseIdx : ∀ {vs : List V} {ds : List D} (n : Nat), EncL G O H vs ds → EncL G O H (vs.eraseIdx n) (ds.eraseIdx n)
  | _, _, _, .nil => .nil
  | _, _, 0, .cons _ r => r
  | _, _, n + 1, .cons h r => .cons h (r.eraseIdx n)
theorem EncL.one {v : V} {d : D} (h : Enc G O H v d) : EncL G O H [v] [d] := .cons h .nil
theorem EncL.ints : ∀ {vs : List V} {ns : List Int}, EncL G O H vs (ns.map D.int) → vs = ns.map V.int
  | _, [], .nil => rfl
  | _, n :: ns, .cons h r => by
    cases h
    rw [r.ints]
    rfl
theorem EncL.strs : ∀ {vs : List V} {ns : List Str}, EncL G O H vs (ns.map D.str) → vs = ns.map V.str
  | _, [], .nil => rfl
  | _, n :: ns, .cons h r => by
    cases h
    rw [r.strs]
    rfl
theorem EncL.bls : ∀ {vs : List V} {ns : List Bool}, EncL G O H vs (ns.map D.bl) → vs = ns.map V.bl
  | _, [], .nil => rfl
  | _, n :: ns, .cons h r => by
    cases h
    rw [r.bls]
    rfl
end
inductive ChOk (G : Gw) (O : Addr → Prop) (H : Hp) (a : Addr) : Ch → Prop
  | lst {xs : List V} {ds : List D} : H a = some (.lst xs) → xs.length ≤ sizeLine → EncL G O H xs ds → ChOk G O H a (.lst ds)
  | dct {vkvs : List (Key × V)} {kvs : List (Str × D)} : H a = some (.dK vkvs) → vkvs.length ≤ 1000 → vkvs.map (·.1) = kvs.map (fun p => Sum.inr p.1) → EncL G O H (vkvs.map (·.2)) (kvs.map (·.2)) → ChOk G O H a (.dct kvs)
  | ins {C dx : Addr} {c : Str} {vfs : List (Str × V)} {fs : List (Str × D)} : G.ca c = some C → H a = some (.ins C dx vfs) → vfs.length ≤ 100 → vfs.map (·.1) = fs.map (·.1) → EncL G O H (vfs.map (·.2)) (fs.map (·.2)) → ChOk G O H a (.ins c fs)
structure Sat (G : Gw) (H : Hp) (L : HL) : Prop where
  nd : (L.map (·.1)).Nodup
  ok : ∀ a c, (a, c) ∈ L → ChOk G (dom L) H a c
  tb : LamX.Tabs G.T H
section
variable {G : Gw} {H H' : Hp} {L L' : HL}
theorem ChOk.some {O : Addr → Prop} {a : Addr} {c : Ch} (h : ChOk G O H a c) : ∃ o, H a = some o := by
  cases h with
  | lst h => exact ⟨_, h⟩
  | dct h => exact ⟨_, h⟩
  | ins _ h => exact ⟨_, h⟩
theorem ChOk.plain {O : Addr → Prop} {a : Addr} {c : Ch} (h : ChOk G O H a c) : ∃ o : HO, H a = Option.some o ∧ (∀ ps, o ≠ HO.tbl ps) ∧ ∀ φ, o ≠ HO.ext φ := by
  cases h with
  | lst h => exact ⟨_, h, (fun _ z => by cases z), fun _ z => by cases z⟩
  | dct h => exact ⟨_, h, (fun _ z => by cases z), fun _ z => by cases z⟩
  | ins _ h => exact ⟨_, h, (fun _ z => by cases z), fun _ z => by cases z⟩
theorem Sat.nil (t : LamX.Tabs G.T H) : Sat G H [] := ⟨List.nodup_nil, (fun _ _ h => nomatch h), t⟩
theorem tabs_new {T : List (Addr × Str)} {p : Addr} {o : HO} (t : LamX.Tabs T H) (h : H p = none) : LamX.Tabs T (upd H p o) := t.ext fun b u e => (upd_ne (ne_of_none e h)).trans e
theorem tabs_write {T : List (Addr × Str)} {p : Addr} {o u : HO} (t : LamX.Tabs T H) (h : H p = Option.some u) (n1 : ∀ ps, u ≠ .tbl ps) (n2 : ∀ φ, u ≠ .ext φ) : LamX.Tabs T (upd H p o) := fun q hq => by
  obtain ⟨ps, e1, e2, e3⟩ := t q hq
  refine ⟨ps, (upd_ne (ne_of e1 h fun z => n1 ps z.symm)).trans e1, e2, fun pos cv hc => ?_⟩
  obtain ⟨c, r1, r2⟩ := e3 pos cv hc
  exact ⟨c, r1, (upd_ne (ne_of r2 h fun z => n2 _ (by rw [← z]; rfl))).trans r2⟩
theorem Sat.none_of (S : Sat G H L) {a : Addr} (h : H a = none) : ¬ dom L a := fun ⟨c, hc⟩ => by
  obtain ⟨o, e⟩ := (S.ok a c hc).some
  rw [h] at e
  cases e
end
end DM
set_option Elab.async false
set_option linter.all false
set_option maxRecDepth 100000
namespace DM
open PySem L2
abbrev Sv := L2.St
def EncS (G : Gw) (O : Addr → Prop) (H : Hp) (vs : Sv) (σ : Sl) : Prop :=
  vs.length = σ.length ∧ ∀ (i : Nat) (d : D), σ[i]? = some (some d) → ∃ v, vs[i]? = some (some v) ∧ Enc G O H v d
abbrev DX := Str × Option D
abbrev Qd := D → HL → Prop
abbrev Xd := Sl → DX → HL → Prop
abbrev DTE := Sl → HL → Qd → Xd → Prop
abbrev DTT := Sl → HL → (Bool → HL → Prop) → Xd → Prop
abbrev DTA := Sl → HL → (List D → HL → Prop) → Xd → Prop
def XIs (G : Gw) (O : Addr → Prop) (H : Hp) (cls : Value) (d : Option Addr) (x : DX) : Prop :=
  ∃ C, G.ca x.1 = some C ∧ cls = .ref C ∧ ((x.2 = none ∧ d = none) ∨ ∃ e v dx, x.2 = some e ∧ d = some dx ∧ ¬ O dx ∧ H dx = some (.xd [("at", v)]) ∧ Enc G O H v e)
section
variable (G : Gw)
def Kd (L : HL) (H : Hp) (Q : Qd) (Qv : VK) : Prop := ∀ v H' d L', Pers (dom L) H (dom L') H' → Sat G H' L' → Enc G (dom L') H' v d → Q d L' → Qv v H'
def Kt (L : HL) (H : Hp) (Q : Bool → HL → Prop) (Qv : Bool → Hp → Prop) : Prop := ∀ b H' L', Pers (dom L) H (dom L') H' → Sat G H' L' → Q b L' → Qv b H'
def Ka (L : HL) (H : Hp) (Q : List D → HL → Prop) (Qv : List V → Hp → Prop) : Prop := ∀ vs H' ds L', Pers (dom L) H (dom L') H' → Sat G H' L' → EncL G (dom L') H' vs ds → Q ds L' → Qv vs H'
def Kx (L : HL) (H : Hp) (E : Xd) (W : WX) : Prop := ∀ cls d vs H' σ x L', Pers (dom L) H (dom L') H' → Sat G H' L' → EncS G (dom L') H' vs σ → XIs G (dom L') H' cls d x → E σ x L' → W cls d vs H'
def conc (W : WX) (t : DTE) : TE := fun vs H Qv => ∃ σ L Q E, Sat G H L ∧ EncS G (dom L) H vs σ ∧ t σ L Q E ∧ Kd G L H Q Qv ∧ Kx G L H E W
def concT (W : WX) (t : DTT) : TT := fun vs H Qv => ∃ σ L Q E, Sat G H L ∧ EncS G (dom L) H vs σ ∧ t σ L Q E ∧ Kt G L H Q Qv ∧ Kx G L H E W
def concA (W : WX) (t : DTA) : TA := fun vs H Qv => ∃ σ L Q E, Sat G H L ∧ EncS G (dom L) H vs σ ∧ t σ L Q E ∧ Ka G L H Q Qv ∧ Kx G L H E W
end
section
variable {G : Gw} {H H' H1 H2 : Hp} {L L' L1 L2 : HL} {vs : Sv} {σ : Sl} {O O' : Addr → Prop}
theorem EncS.pers (p : Pers O H O' H') (h : EncS G O H vs σ) : EncS G O' H' vs σ :=
  ⟨h.1, fun i d e => let ⟨v, h1, h2⟩ := h.2 i d e; ⟨v, h1, h2.pers p⟩⟩
theorem EncS.set {v : V} {d : D} (h : EncS G O H vs σ) (e : Enc G O H v d) (i : Nat) : EncS G O H (vs.set i (some v)) (σ.set i (some d)) := by
  refine ⟨by rw [List.length_set, List.length_set]; exact h.1, fun j x q => ?_⟩
  rw [List.getElem?_set] at q
  split at q
  · rename_i hij
    subst hij
    split at q
    · rename_i hl
      cases q
      refine ⟨v, ?_, e⟩
      rw [List.getElem?_set, if_pos rfl, if_pos (by rw [h.1]; exact hl)]
    · cases q
  · rename_i hij
    obtain ⟨u, h1, h2⟩ := h.2 j x q
    exact ⟨u, by rw [List.getElem?_set, if_neg hij]; exact h1, h2⟩
theorem Kd.back {Q : Qd} {Qv : VK} (k : Kd G L H Q Qv) (p : Pers (dom L) H (dom L') H') : Kd G L' H' Q Qv := fun v H2 d L2 q => k v H2 d L2 (p.trans q)
theorem Kt.back {Q : Bool → HL → Prop} {Qv : Bool → Hp → Prop} (k : Kt G L H Q Qv) (p : Pers (dom L) H (dom L') H') : Kt G L' H' Q Qv := fun v H2 L2 q => k v H2 L2 (p.trans q)
theorem Ka.back {Q : List D → HL → Prop} {Qv : List V → Hp → Prop} (k : Ka G L H Q Qv) (p : Pers (dom L) H (dom L') H') : Ka G L' H' Q Qv := fun v H2 d L2 q => k v H2 d L2 (p.trans q)
theorem Kx.back {E : Xd} {W : WX} (k : Kx G L H E W) (p : Pers (dom L) H (dom L') H') : Kx G L' H' E W := fun c d vs H2 σ x L2 q => k c d vs H2 σ x L2 (p.trans q)
theorem Kd.here {Q : Qd} {Qv : VK} (k : Kd G L H Q Qv) (S : Sat G H L) {v : V} {d : D} (e : Enc G (dom L) H v d) (q : Q d L) : Qv v H := k v H d L (Pers.refl _ _) S e q
theorem Kt.here {Q : Bool → HL → Prop} {Qv : Bool → Hp → Prop} (k : Kt G L H Q Qv) (S : Sat G H L) {b : Bool} (q : Q b L) : Qv b H := k b H L (Pers.refl _ _) S q
theorem dom_cons {p a : Addr} {c : Ch} : dom ((p, c) :: L) a ↔ a = p ∨ dom L a := by
  constructor
  · rintro ⟨x, h⟩
    rcases List.mem_cons.mp h with h | h
    · exact .inl (Prod.mk.inj h).1
    · exact .inr ⟨x, h⟩
  · rintro (rfl | ⟨x, h⟩)
    · exact ⟨c, List.mem_cons_self ..⟩
    · exact ⟨x, List.mem_cons_of_mem _ h⟩
theorem Sat.dom_some (S : Sat G H L) {a : Addr} (h : dom L a) : ∃ o, H a = some o := let ⟨_, hc⟩ := h; (S.ok _ _ hc).some
theorem ChOk.pers {a : Addr} {c : Ch} (p : Pers O H O' H') (e : H' a = H a) (h : ChOk G O H a c) : ChOk G O' H' a c := by
  cases h with
  | lst h z r => exact .lst (e.trans h) z (r.pers p)
  | dct h z n r => exact .dct (e.trans h) z n (r.pers p)
  | ins g h z n r => exact .ins g (e.trans h) z n (r.pers p)
/-- a new object that is not owned -/
theorem Sat.new (S : Sat G H L) {p : Addr} {o : HO} (h : H p = none) : Sat G (upd H p o) L :=
  ⟨S.nd, fun a c m => (S.ok a c m).pers (Pers.new h) (upd_ne fun q => by
    obtain ⟨u, e⟩ := (S.ok a c m).some
    rw [q, h] at e
    cases e), tabs_new S.tb h⟩
/-- a new object that is owned -/
theorem Pers.own {p : Addr} {o : HO} {c : Ch} (h : H p = none) : Pers (dom L) H (dom ((p, c) :: L)) (upd H p o) :=
  ⟨(Pers.new (O := dom L) h).1, fun a q => (dom_cons.mp q).elim (fun e => .inr (by rw [e]; exact h)) .inl⟩
theorem Sat.own (S : Sat G H L) {p : Addr} {o : HO} {c : Ch} (h : H p = none) (ok : ChOk G (dom ((p, c) :: L)) (upd H p o) p c) : Sat G (upd H p o) ((p, c) :: L) := by
  refine ⟨?_, fun a d m => ?_, tabs_new S.tb h⟩
  · rw [List.map_cons, List.nodup_cons]
    refine ⟨fun q => ?_, S.nd⟩
    obtain ⟨⟨a, d⟩, m, e⟩ := List.mem_map.mp q
    obtain ⟨u, hu⟩ := (S.ok a d m).some
    rw [show a = p from e, h] at hu
    cases hu
  · rcases List.mem_cons.mp m with m | m
    · cases m
      exact ok
    · refine (S.ok a d m).pers (Pers.own h) (upd_ne fun q => ?_)
      obtain ⟨u, e⟩ := (S.ok a d m).some
      rw [q, h] at e
      cases e
/-- an owned object is changed -/
def put (L : HL) (p : Addr) (c : Ch) : HL := L.map fun e => if e.1 = p then (p, c) else e
theorem put_fst (p : Addr) (c : Ch) : ∀ L : HL, (put L p c).map (·.1) = L.map (·.1)
  | [] => rfl
  | (a, d) :: L => by
    show (if a = p then (p, c) else (a, d)).1 :: (put L p c).map (·.1) = a :: L.map (·.1)
    rw [put_fst p c L]
    split
    · rename_i h
      rw [h]
    · rfl
theorem dom_put {p a : Addr} {c : Ch} : dom (put L p c) a ↔ dom L a := by
  have e : ∀ M : HL, dom M a ↔ a ∈ M.map (·.1) := fun M => ⟨fun ⟨c, h⟩ => List.mem_map.mpr ⟨_, h, rfl⟩, fun h => let ⟨⟨b, c⟩, m, q⟩ := List.mem_map.mp h; ⟨c, by rw [← show b = a from q]; exact m⟩⟩
  rw [e, e, put_fst]
theorem mem_put {p a : Addr} {c d : Ch} (h : (a, d) ∈ put L p c) : (a = p ∧ d = c) ∨ (a ≠ p ∧ (a, d) ∈ L) := by
  obtain ⟨⟨b, e⟩, m, q⟩ := List.mem_map.mp h
  by_cases hb : b = p
  · rw [if_pos hb] at q
    cases q
    exact .inl ⟨rfl, rfl⟩
  · rw [if_neg hb] at q
    cases q
    exact .inr ⟨hb, m⟩
theorem Pers.write {p : Addr} {o : HO} {c : Ch} (h : dom L p) : Pers (dom L) H (dom (put L p c)) (upd H p o) :=
  ⟨fun a u e n => .inl (by rw [upd_ne fun q => n (by rw [q]; exact h)]; exact e), fun a q => .inl (dom_put.mp q)⟩
theorem Sat.write (S : Sat G H L) {p : Addr} {o : HO} {c : Ch} (h : dom L p) (ok : ChOk G (dom (put L p c)) (upd H p o) p c) : Sat G (upd H p o) (put L p c) := by
  refine ⟨by rw [put_fst]; exact S.nd, fun a d m => ?_, ?_⟩
  rotate_left
  · obtain ⟨c0, hc0⟩ := h
    obtain ⟨u, e1, e2, e3⟩ := (S.ok p c0 hc0).plain
    exact tabs_write S.tb e1 e2 e3
  rcases mem_put m with ⟨rfl, rfl⟩ | ⟨n, m⟩
  · exact ok
  · exact (S.ok a d m).pers (Pers.write h) (upd_ne n)
/-- owned objects are forgotten -/
theorem Pers.sub (s : ∀ a, dom L' a → dom L a) : Pers (dom L) H (dom L') H := ⟨fun _ _ e _ => .inl e, fun a q => .inl (s a q)⟩
theorem Sat.sub (S : Sat G H L) (s : L'.Sublist L) : Sat G H L' := by
  have hd : ∀ a, dom L' a → dom L a := fun a ⟨c, h⟩ => ⟨c, s.subset h⟩
  exact ⟨S.nd.sublist (s.map _), fun a c m => (S.ok a c (s.subset m)).pers (Pers.sub hd) rfl, S.tb⟩
theorem Sat.perm (S : Sat G H L) (s : L.Perm L') : Sat G H L' := by
  have hd : ∀ a, dom L' a → dom L a := fun a ⟨c, h⟩ => ⟨c, s.mem_iff.mpr h⟩
  exact ⟨(s.map _).nodup_iff.mp S.nd, fun a c m => (S.ok a c (s.mem_iff.mpr m)).pers (Pers.sub hd) rfl, S.tb⟩
/-- (d, L) may be told as (d', L') -/
inductive Le : D → HL → D → HL → Prop
  | refl (d : D) (L : HL) : Le d L d L
  | sub {d : D} {L L' : HL} (s : L'.Sublist L) : Le d L d L'
  | perm {d : D} {L L' : HL} (s : L.Perm L') : Le d L d L'
  | lst {p : Addr} {ds : List D} {L : HL} : Le (.ref p) ((p, .lst ds) :: L) (.lst ds) L
  | ins {p : Addr} {c : Str} {fs : List (Str × D)} {L : HL} : Le (.ref p) ((p, .ins c fs) :: L) (.ins c fs) L
  | trans {d d1 d2 : D} {L L1 L2 : HL} : Le d L d1 L1 → Le d1 L1 d2 L2 → Le d L d2 L2
  | elt {p : Addr} {ds A B : List D} {L : HL} : Le (.lst (A ++ .ref p :: B)) ((p, .lst ds) :: L) (.lst (A ++ .lst ds :: B)) L
theorem EncL.elt {O : Addr → Prop} {d d' : D} {B : List D} (h : ∀ v, Enc G O H v d → Enc G O H v d') : ∀ {A : List D} {vs : List V}, EncL G O H vs (A ++ d :: B) → EncL G O H vs (A ++ d' :: B)
  | [], _, .cons e r => .cons (h _ e) r
  | _ :: A, _, .cons e r => .cons e (EncL.elt h (A := A) r)
theorem Le.ok {d d' : D} {v : V} (l : Le d L d' L') : Sat G H L → Enc G (dom L) H v d → Sat G H L' ∧ Enc G (dom L') H v d' ∧ Pers (dom L) H (dom L') H := by
  induction l with
  | refl d L => exact fun S e => ⟨S, e, Pers.refl _ _⟩
  | sub s => exact fun S e => let p := Pers.sub fun a ⟨c, h⟩ => ⟨c, s.subset h⟩; ⟨S.sub s, e.pers p, p⟩
  | perm s => exact fun S e => let p := Pers.sub fun a ⟨c, h⟩ => ⟨c, s.mem_iff.mpr h⟩; ⟨S.perm s, e.pers p, p⟩
  | @lst p ds L =>
    intro S e
    have s : L.Sublist ((p, .lst ds) :: L) := List.sublist_cons_self ..
    have pp : Pers (dom ((p, Ch.lst ds) :: L)) H (dom L) H := Pers.sub fun a ⟨c, h⟩ => ⟨c, s.subset h⟩
    refine ⟨S.sub s, ?_, pp⟩
    cases e
    have n : ¬ dom L p := fun ⟨cc, h⟩ => (List.nodup_cons.mp S.nd).1 (List.mem_map.mpr ⟨_, h, rfl⟩)
    cases S.ok p _ (List.mem_cons_self ..) with
    | lst h z r => exact .lst n h z (r.pers pp)
  | @ins p c fs L =>
    intro S e
    have s : L.Sublist ((p, .ins c fs) :: L) := List.sublist_cons_self ..
    have pp : Pers (dom ((p, Ch.ins c fs) :: L)) H (dom L) H := Pers.sub fun a ⟨c, h⟩ => ⟨c, s.subset h⟩
    refine ⟨S.sub s, ?_, pp⟩
    cases e
    have n : ¬ dom L p := fun ⟨cc, h⟩ => (List.nodup_cons.mp S.nd).1 (List.mem_map.mpr ⟨_, h, rfl⟩)
    cases S.ok p _ (List.mem_cons_self ..) with
    | ins g h z e r => exact .ins g n h e (r.pers pp)
  | @elt p ds A B L =>
    intro S e
    have s : L.Sublist ((p, .lst ds) :: L) := List.sublist_cons_self ..
    have pp : Pers (dom ((p, Ch.lst ds) :: L)) H (dom L) H := Pers.sub fun a ⟨c, h⟩ => ⟨c, s.subset h⟩
    refine ⟨S.sub s, ?_, pp⟩
    have n : ¬ dom L p := fun ⟨cc, h⟩ => (List.nodup_cons.mp S.nd).1 (List.mem_map.mpr ⟨_, h, rfl⟩)
    have e := e.pers pp
    cases e with
    | lst n2 h2 z2 r2 =>
      refine .lst n2 h2 z2 (r2.elt fun v ev => ?_)
      cases ev
      cases S.ok p _ (List.mem_cons_self ..) with
      | lst h z r => exact .lst n h z (r.pers pp)
  | trans a b iha ihb =>
    intro S e
    obtain ⟨S1, e1, p1⟩ := iha S e
    obtain ⟨S2, e2, p2⟩ := ihb S1 e1
    exact ⟨S2, e2, p1.trans p2⟩
/-- closed under weakening -/
def Up (Q : Qd) : Prop := ∀ d L d' L', Le d L d' L' → Q d' L' → Q d L
/-- a list is told: owned, or not -/
def RetL (ds : List D) (L : HL) (Q : Qd) : Prop := Q (.lst ds) L ∨ ∀ p, Q (.ref p) ((p, .lst ds) :: L)
theorem retL_ok {ds : List D} {Q : Qd} {Qv : VK} {xs : List V} (S : Sat G H L) (z : xs.length ≤ sizeLine) (e : EncL G (dom L) H xs ds) (k : Kd G L H Q Qv) (h : RetL ds L Q) (p : Addr) (hp : H p = none) : Qv (.ref p) (upd H p (.lst xs)) := by
  rcases h with h | h
  · exact k _ _ _ L (Pers.new hp) (S.new hp) (.lst (S.none_of hp) upd_same z (e.pers (Pers.new hp))) h
  · exact k _ _ _ ((p, .lst ds) :: L) (Pers.own hp) (S.own hp (.lst upd_same z (e.pers (Pers.own hp)))) (.ref p) (h p)
inductive IsL (L : HL) : D → List D → Prop
  | lst (ds : List D) : IsL L (.lst ds) ds
  | own {p : Addr} {ds : List D} : (p, Ch.lst ds) ∈ L → IsL L (.ref p) ds
theorem IsL.at_ {x : D} {ds : List D} {v : V} (h : IsL L x ds) (S : Sat G H L) (e : Enc G (dom L) H v x) : ∃ a xs, v = .ref a ∧ H a = some (.lst xs) ∧ xs.length ≤ sizeLine ∧ EncL G (dom L) H xs ds := by
  cases h with
  | lst =>
    cases e with
    | lst n h z r => exact ⟨_, _, rfl, h, z, r⟩
  | own m =>
    cases e
    cases S.ok _ _ m with
    | lst h z r => exact ⟨_, _, rfl, h, z, r⟩
variable {X : Cx} {e a b : Expr} {W : WX}
theorem pe_imp {t t' : TE} (h : PE X e t) (f : ∀ vs H Q, t' vs H Q → t vs H Q) : PE X e t' := ⟨fun pins s σ H Q I q => h.run pins s σ H Q I (f _ _ _ q)⟩
theorem pt_imp {t t' : TT} (h : PT X e t) (f : ∀ vs H Q, t' vs H Q → t vs H Q) : PT X e t' := ⟨fun pins s σ H Q I q => h.run pins s σ H Q I (f _ _ _ q)⟩
theorem pw_imp {t t' : TT} (h : PW X e t) (f : ∀ vs H Q, t' vs H Q → t vs H Q) : PW X e t' := ⟨fun w pins s σ H Q I q => h.run w pins s σ H Q I (f _ _ _ q)⟩
theorem pa_imp {es : List Expr} {t t' : TA} (h : PA X es t) (f : ∀ vs H Q, t' vs H Q → t vs H Q) : PA X es t' := ⟨fun p pins s σ H Q I q => h.run p pins s σ H Q I (f _ _ _ q)⟩
theorem ps_imp {st : Stmt} {t t' : TS} (h : PS X st t) (f : ∀ D vs H, t' D vs H → t D vs H) : PS X st t' := ⟨fun pins s σ H D I q => h.run pins s σ H D I (f _ _ _ q)⟩
theorem pss_imp {st : List Stmt} {t t' : TS} (h : PSs X st t) (f : ∀ D vs H, t' D vs H → t D vs H) : PSs X st t' := ⟨fun pins s σ H D I q => h.run pins s σ H D I (f _ _ _ q)⟩
def dVar (i : Nat) : DTE := fun σ L Q _ => ∃ d, σ[i]? = some (some d) ∧ Q d L
theorem conc_var {i : Nat} (h : PE X e (tVar i)) : PE X e (conc G W (dVar i)) := pe_imp h fun vs H Qv ⟨σ, L, Q, E, S, en, ⟨d, hd, q⟩, k, _⟩ => by
  obtain ⟨v, h1, h2⟩ := en.2 i d hd
  exact ⟨v, h1, k.here S h2 q⟩
def dC (d : D) : DTE := fun _ L Q _ => Q d L
theorem conc_c {v : V} {d : D} (hd : ∀ O H, Enc G O H v d) (h : PE X e (tC v)) : PE X e (conc G W (dC d)) := pe_imp h fun vs H Qv ⟨σ, L, Q, E, S, en, q, k, _⟩ => k.here S (hd _ _) q
def dOp (R : D → D → HL → Qd → Prop) (da db : DTE) : DTE := fun σ L Q E => da σ L (fun x L1 => db σ L1 (fun y L2 => R x y L2 Q) E) E
/-- R, said of values -/
def OpD (G : Gw) (R : D → D → HL → Qd → Prop) (r : R2) : Prop := ∀ {H : Hp} {L : HL} {x y : D} {v u : V} {Q : Qd} {Qv : VK}, Sat G H L → Enc G (dom L) H v x → Enc G (dom L) H u y → Kd G L H Q Qv → R x y L Q → r v u H Qv
theorem conc_bind {da : DTE} {Qv : VK} {E : Xd} {R : D → HL → Prop} (S : Sat G H L) (en : EncS G (dom L) H vs σ) (kx : Kx G L H E W) (h : da σ L R E)
    (f : ∀ v H1 d L1, Pers (dom L) H (dom L1) H1 → Sat G H1 L1 → Enc G (dom L1) H1 v d → EncS G (dom L1) H1 vs σ → Kx G L1 H1 E W → R d L1 → Qv v H1) : conc G W da vs H Qv :=
  ⟨σ, L, R, E, S, en, h, fun v H1 d L1 p S1 e1 q => f v H1 d L1 p S1 e1 (en.pers p) (kx.back p) q, kx⟩
theorem conc_bindT {da : DTT} {Qv : Bool → Hp → Prop} {E : Xd} {R : Bool → HL → Prop} (S : Sat G H L) (en : EncS G (dom L) H vs σ) (kx : Kx G L H E W) (h : da σ L R E)
    (f : ∀ v H1 L1, Pers (dom L) H (dom L1) H1 → Sat G H1 L1 → EncS G (dom L1) H1 vs σ → Kx G L1 H1 E W → R v L1 → Qv v H1) : concT G W da vs H Qv :=
  ⟨σ, L, R, E, S, en, h, fun v H1 L1 p S1 q => f v H1 L1 p S1 (en.pers p) (kx.back p) q, kx⟩
theorem conc_bindA {da : DTA} {Qv : List V → Hp → Prop} {E : Xd} {R : List D → HL → Prop} (S : Sat G H L) (en : EncS G (dom L) H vs σ) (kx : Kx G L H E W) (h : da σ L R E)
    (f : ∀ v H1 d L1, Pers (dom L) H (dom L1) H1 → Sat G H1 L1 → EncL G (dom L1) H1 v d → EncS G (dom L1) H1 vs σ → Kx G L1 H1 E W → R d L1 → Qv v H1) : concA G W da vs H Qv :=
  ⟨σ, L, R, E, S, en, h, fun v H1 d L1 p S1 e1 q => f v H1 d L1 p S1 e1 (en.pers p) (kx.back p) q, kx⟩
theorem conc_op {da db : DTE} {R : D → D → HL → Qd → Prop} {r : R2} (hr : OpD G R r) (h : PE X e (tOp r (conc G W da) (conc G W db))) : PE X e (conc G W (dOp R da db)) :=
  pe_imp h fun vs H Qv ⟨σ, L, Q, E, S, en, q, k, kx⟩ => conc_bind (R := fun x L1 => db σ L1 (fun y L2 => R x y L2 Q) E) S en kx q fun v H1 x L1 p S1 e1 en1 kx1 q1 => conc_bind (R := fun y L2 => R x y L2 Q) S1 en1 kx1 q1 fun u H2 y L2 p2 S2 e2 en2 kx2 q2 =>
    hr S2 (e1.pers p2) e2 ((k.back p).back p2) q2
/-- one of two readings by values -/
theorem opR_or {f : Value → Value → Sem Value} {r r' : R2} (h : OpR X f r) (h' : OpR X f r') : OpR X f (fun x y H Q => r x y H Q ∨ r' x y H Q) := fun pins s σ H x y v u Q I rx ry q => q.elim (h pins s σ H x y v u Q I rx ry) (h' pins s σ H x y v u Q I rx ry)
end
end DM
set_option Elab.async false
set_option linter.all false
set_option maxRecDepth 100000
namespace DM
open PySem PySem.Spec PyProof.Rows L2
theorem same_eqAt {A : Around} {s : Shared} {x : V} {v u : Value} (f : flatB x = true ∨ ∃ a, x = .ref a) (rx : RelV x v) (ry : RelV x u) : SeqAt.EqAt A s v u true := by
  rcases f with f | ⟨a, rfl⟩
  · exact eqAt_same rx ry f
  · cases rx
    cases ry
    exact SeqAt.EqAt.same _
def ItV (K : PySem.W.Frag) (H : Hp) (x y : V) : Prop := (∃ d e, Dp K H x d ∧ Dp K H y e ∧ d.canLay0 = true ∧ e.canLay0 = true ∧ d.depth ≤ 60 ∧ PyData.eqv d e = true) ∨ ∃ a, x = .ref a ∧ y = .ref a
def rSame (K : PySem.W.Frag) (b : Bool) : R2 := fun x y H Q => (∃ a c xs ys, x = .ref a ∧ y = .ref c ∧ SqL K H a xs ∧ SqL K H c ys ∧ Paired (ItV K H) xs ys ∧ Q (.bl b) H) ∨
  (∃ a ks, x = .ref a ∧ y = .ref a ∧ H a = some (.dK ks) ∧ (∀ p ∈ ks, valV ks p.1 = some p.2 ∧ flatB p.2 = true) ∧ Q (.bl b) H) ∨
  (∃ a c k v u, x = .ref a ∧ y = .ref c ∧ H a = some (.dK [(k, v)]) ∧ H c = some (.dK [(k, u)]) ∧ (∃ d e, Dp K H v d ∧ Dp K H u e ∧ d.canLay0 = true ∧ e.canLay0 = true ∧ d.depth ≤ 60 ∧ PyData.eqv d e = true) ∧ Q (.bl b) H) ∨
  ∃ a xs t, x = .ref a ∧ y = .str t ∧ SqL K H a xs ∧ Q (.bl (!b)) H
section
variable {X : Cx} {pins : List (Addr × Obj)} {σ : L2.St} {H : Hp} {s : Shared}
theorem its_run (I : Inv X pins σ H s) {A : Around} (hu : A.units + 62 < cLine) {xs ys : List V} (hp : Paired (ItV X.K H) xs ys) :
    ∀ {us ws : List Value}, Vals xs us → Vals ys ws → ∀ j (h1 : j < us.length) (h2 : j < ws.length), SeqAt.EqAt A s us[j] ws[j] true := by
  induction hp with
  | nil => intro us ws r1 r2 j h1; cases r1; cases h1
  | cons h _ more =>
    rintro _ _ (_ | ⟨a1, b1⟩) (_ | ⟨a2, b2⟩) (_ | j) h1 h2
    · rcases h with ⟨d, e, hd, he, c1, c2, dp, ev⟩ | ⟨a, rfl, rfl⟩
      · obtain ⟨as, x1⟩ := Dp.reads I d _ _ hd a1
        obtain ⟨bs, x2⟩ := Dp.reads I e _ _ he a2
        have := SeqAt.eqAt_reads d e A s _ _ as bs x1 x2 c1 c2 (by have := Nat.min_le_left d.depth e.depth; omega)
        rw [ev] at this
        exact this
      · exact same_eqAt (.inr ⟨a, rfl⟩) a1 a2
    · exact more b1 b2 j (by simpa using h1) (by simpa using h2)
theorem same_hits {A : Around} {ls : List (Key × V)} {vb : List (Key × Value)} (rb : KV ls vb) {ks : List (Key × V)} {va : List (Key × Value)} (ra : KV ks va) : (∀ p ∈ ks, valV ls p.1 = some p.2 ∧ flatB p.2 = true) → PySem.W.KeqHits A s vb va true := by
  unfold KV at ra
  induction ra with
  | nil => intro _; exact .nil
  | @cons p q ps qs h t more =>
    obtain ⟨k, x⟩ := p
    obtain ⟨k', v⟩ := q
    obtain ⟨rfl, rx⟩ : k = k' ∧ RelV x v := h
    intro all
    obtain ⟨at', flat⟩ := all (k, x) List.mem_cons_self
    have found : RelO (some x) (valueAt vb k) := at' ▸ rb.val k
    obtain ⟨y, hy, ry⟩ := found.some_of
    show PySem.W.KeqHits A s vb ((k, v) :: qs) (true && true)
    exact .hit hy (same_eqAt (.inl flat) rx ry) (more fun z m => all z (List.mem_cons_of_mem _ m))
theorem one_hits (I : Inv X pins σ H s) (hu : X.A.units + 64 < cLine) {a c : Addr} {k : Key} {v u : V} (ea : H a = some (.dK [(k, v)])) (ec : H c = some (.dK [(k, u)]))
    (h : ∃ d e, Dp X.K H v d ∧ Dp X.K H u e ∧ d.canLay0 = true ∧ e.canLay0 = true ∧ d.depth ≤ 60 ∧ PyData.eqv d e = true) :
    (a == sysModules) = false ∧ (c == sysModules) = false ∧ ∃ y z : Value, s.heap.DictOf (mixKind X.prog X.w) a [(k, y)] ∧ s.heap.DictOf (mixKind X.prog X.w) c [(k, z)] ∧ ∀ A : Around, A.units + 62 < cLine → PySem.W.KeqHits A s [(k, z)] [(k, y)] true := by
  obtain ⟨-, ya, va, ra, da⟩ := (I.hok a _ ea : ObjOk X.prog X.w H s.heap a (.dK [(k, v)]))
  obtain ⟨-, yc, vc, rc, dc⟩ := (I.hok c _ ec : ObjOk X.prog X.w H s.heap c (.dK [(k, u)]))
  obtain ⟨d, e, hd, he, c1, c2, dp, ev⟩ := h
  cases ra with
  | @cons _ qa _ ta ha t1 =>
    cases t1
    cases rc with
    | @cons _ qc _ tc hc t2 =>
      cases t2
      obtain ⟨ka, y⟩ := qa
      obtain ⟨kc, z⟩ := qc
      obtain ⟨ha1, ha2⟩ := ha
      obtain ⟨hc1, hc2⟩ := hc
      have ha1 : k = ka := ha1
      have hc1 : k = kc := hc1
      subst ha1 hc1
      refine ⟨ya, yc, y, z, da, dc, fun A hA => ?_⟩
      obtain ⟨as, r1⟩ := Dp.reads I d _ _ hd ha2
      obtain ⟨bs, r2⟩ := Dp.reads I e _ _ he hc2
      have hq := SeqAt.eqAt_reads d e A s _ _ as bs r1 r2 c1 c2 (by have := Nat.min_le_left d.depth e.depth; omega)
      rw [ev] at hq
      show PySem.W.KeqHits A s [(k, z)] [(k, y)] (true && true)
      exact .hit (by simp [valueAt]) hq .nil
/-- the two lists as the heap has them -/
theorem two_lists (I : Inv X pins σ H s) {a c : Addr} {xs ys : List V} (hx : SqL X.K H a xs) (hy : SqL X.K H c ys) (hp : Paired (ItV X.K H) xs ys) :
    ∃ us ws : Array Value, s.heap.IsList a us ∧ s.heap.IsList c ws ∧ us.size = ws.size ∧ ((List.range us.size).all fun _ => true) = true ∧ ∀ A : Around, A.units + 62 < cLine → ∀ (j : Nat) (h1 : j < us.size) (h2 : j < ws.size), SeqAt.EqAt A s us[j] ws[j] true := by
  obtain ⟨us, r1, p1, -⟩ := I.list hx
  obtain ⟨ws, r2, p2, -⟩ := I.list hy
  have len : us.length = ws.length := r1.length.symm.trans (hp.length.trans r2.length)
  exact ⟨us.toArray, ws.toArray, p1.isList, p2.isList, len, by simp, fun A hA j h1 h2 => by simpa using its_run I hA hp r1 r2 j h1 h2⟩
/-- a dict beside itself -/
theorem self_dict (I : Inv X pins σ H s) {a : Addr} {ks : List (Key × V)} (ea : H a = some (.dK ks)) (hp : ∀ p ∈ ks, valV ks p.1 = some p.2 ∧ flatB p.2 = true) :
    (a == sysModules) = false ∧ ∃ va, s.heap.DictOf (mixKind X.prog X.w) a va ∧ ∀ A : Around, PySem.W.KeqHits A s va va true :=
  let ⟨_, no, va, kv, dict⟩ := (I.hok a _ ea : ObjOk X.prog X.w H s.heap a (.dK ks))
  ⟨no, va, dict, fun _ => same_hits kv kv hp⟩
theorem op_eqS (hu : X.A.units + 64 < cLine) : OpR X (compareOp .Eq) (rSame X.K true) := by
  have lo : X.A.in1.units + 62 < cLine := (show X.A.units + 1 + 62 < cLine by omega)
  rintro pins s σ H x y v u Q I rx ry (⟨a, c, xs, ys, rfl, rfl, hx, hy, hp, q⟩ | ⟨a, ks, rfl, rfl, ea, hp, q⟩ | ⟨a, c, k, v', u', rfl, rfl, ea, ec, he, q⟩ | ⟨a, xs, t, rfl, rfl, hx, q⟩) <;> cases rx <;> first | (obtain ⟨n, rfl⟩ := ry) | cases ry
  · obtain ⟨us, ws, l1, l2, sz, all, eqs⟩ := two_lists I hx hy hp
    exact SeqAt.RcAt.lists (e := fun _ => true) l1 l2 sz (by omega) (fun j h1 h2 => eqs _ lo j h1 h2) X.prog X.w _ _ (by rw [all]; exact ⟨.bl true, H, I, rfl, q⟩)
  · obtain ⟨no, va, d, hits⟩ := self_dict I ea hp
    exact PySem.W.keq_eq (knd := mixKind X.prog X.w) (r := true) no no d d (by omega) (fun _ => hits _) ⟨.bl true, H, I, (by simp; rfl), q⟩
  · obtain ⟨n1, n2, w1, w2, d1, d2, hits⟩ := one_hits I hu ea ec he
    exact PySem.W.keq_eq (knd := mixKind X.prog X.w) (r := true) n1 n2 d1 d2 (by omega) (fun _ => hits _ lo) ⟨.bl true, H, I, (by simp; rfl), q⟩
  · obtain ⟨us, -, l, -⟩ := I.list hx
    exact SeqAt.RcAt.list_str t n l.isList (by omega) X.prog X.w _ _ ⟨.bl _, H, I, rfl, q⟩
theorem op_neS (hu : X.A.units + 64 < cLine) : OpR X (compareOp .NotEq) (rSame X.K false) := by
  have lo : X.A.in1.units + 62 < cLine := (show X.A.units + 1 + 62 < cLine by omega)
  rintro pins s σ H x y v u Q I rx ry (⟨a, c, xs, ys, rfl, rfl, hx, hy, hp, q⟩ | ⟨a, ks, rfl, rfl, ea, hp, q⟩ | ⟨a, c, k, v', u', rfl, rfl, ea, ec, he, q⟩ | ⟨a, xs, t, rfl, rfl, hx, q⟩) <;> cases rx <;> first | (obtain ⟨n, rfl⟩ := ry) | cases ry
  · obtain ⟨us, ws, l1, l2, sz, all, eqs⟩ := two_lists I hx hy hp
    exact SeqAt.RcNeAt.lists (e := fun _ => true) l1 l2 sz (by omega) (fun j h1 h2 => eqs _ lo j h1 h2) X.prog X.w _ _ (by rw [all]; exact ⟨.bl false, H, I, rfl, q⟩)
  · obtain ⟨no, va, d, hits⟩ := self_dict I ea hp
    exact PySem.W.keq_ne (knd := mixKind X.prog X.w) (r := true) no no d d (by omega) (fun _ => hits _) ⟨.bl false, H, I, (by simp; rfl), q⟩
  · obtain ⟨n1, n2, w1, w2, d1, d2, hits⟩ := one_hits I hu ea ec he
    exact PySem.W.keq_ne (knd := mixKind X.prog X.w) (r := true) n1 n2 d1 d2 (by omega) (fun _ => hits _ lo) ⟨.bl false, H, I, (by simp; rfl), q⟩
  · obtain ⟨us, -, l, -⟩ := I.list hx
    exact SeqAt.RcNeAt.list_str t n l.isList (by omega) X.prog X.w _ _ ⟨.bl _, H, I, rfl, q⟩
/-- < and its like, of alike data -/
def rOrdD (K : PySem.W.Frag) (o : PyData → PyData → Bool) : R2 := fun x y H Q => ∃ d e, Dp K H x d ∧ Dp K H y e ∧ PySem.W.alike d e = true ∧ d ≠ .none ∧ d.depth ≤ 60 ∧ Q (.bl (o d e)) H
theorem both_read (I : Inv X pins σ H s) {x y : V} {v u : Value} {d e : PyData} (hd : Dp X.K H x d) (he : Dp X.K H y e) (rx : RelV x v) (ry : RelV y u) : ∃ as bs, Reads s.heap v d as ∧ Reads s.heap u e bs :=
  let ⟨as, a⟩ := Dp.reads I d x v hd rx
  let ⟨bs, b⟩ := Dp.reads I e y u he ry
  ⟨as, bs, a, b⟩
theorem lower {n m k : Nat} (h : n ≤ 60) (hu : k + 64 < cLine) : k + min n m < cLine := by
  have := Nat.min_le_left n m
  omega
theorem op_ltD (hu : X.A.units + 64 < cLine) : OpR X (compareOp .Lt) (rOrdD X.K fun d e => PySem.W.dataLt d e) := fun pins s σ H x y v u Q I rx ry ⟨d, e, hd, he, h1, h2, h3, q⟩ =>
  let ⟨_, _, r1, r2⟩ := both_read I hd he rx ry
  PySem.W.lt_data r1 r2 h1 h2 (lower h3 hu) ⟨.bl _, H, I, rfl, q⟩
theorem op_gtD (hu : X.A.units + 64 < cLine) : OpR X (compareOp .Gt) (rOrdD X.K fun d e => PySem.W.dataLt e d) := fun pins s σ H x y v u Q I rx ry ⟨d, e, hd, he, h1, h2, h3, q⟩ =>
  let ⟨_, _, r1, r2⟩ := both_read I hd he rx ry
  PySem.W.gt_data r1 r2 h1 h2 (lower h3 hu) ⟨.bl _, H, I, rfl, q⟩
theorem op_leD (hu : X.A.units + 64 < cLine) : OpR X (compareOp .LtE) (rOrdD X.K fun d e => !PySem.W.dataLt e d) := fun pins s σ H x y v u Q I rx ry ⟨d, e, hd, he, h1, h2, h3, q⟩ =>
  let ⟨_, _, r1, r2⟩ := both_read I hd he rx ry
  PySem.W.le_data r1 r2 h1 h2 (lower h3 hu) ⟨.bl _, H, I, rfl, q⟩
theorem op_geD (hu : X.A.units + 64 < cLine) : OpR X (compareOp .GtE) (rOrdD X.K fun d e => !PySem.W.dataLt d e) := fun pins s σ H x y v u Q I rx ry ⟨d, e, hd, he, h1, h2, h3, q⟩ =>
  let ⟨_, _, r1, r2⟩ := both_read I hd he rx ry
  PySem.W.ge_data r1 r2 h1 h2 (lower h3 hu) ⟨.bl _, H, I, rfl, q⟩
end
end DM
set_option Elab.async false
set_option linter.all false
set_option maxRecDepth 100000
namespace DM
open PySem L2
section
variable {G : Gw} {H H' : Hp} {L L' : HL} {vs : Sv} {σ : Sl} {X : Cx}
theorem tup_ok {ds : List D} {Q : Qd} {Qv : VK} {xs : List V} (S : Sat G H L) (z : xs.length ≤ sizeLine) (e : EncL G (dom L) H xs ds) (k : Kd G L H Q Qv) (h : Q (.tup ds) L) (p : Addr) (hp : H p = none) : Qv (.ref p) (upd H p (.tup xs)) :=
  k _ _ _ L (Pers.new hp) (S.new hp) (.tup (.inl ⟨S.none_of hp, upd_same⟩) z (e.pers (Pers.new hp))) h
def vAdd (K : PySem.W.Frag) : R2 := fun x y H Q => rI0 (fun i j => .int (i + j)) x y H Q ∨ (∃ i j, x = .str i ∧ y = .str j ∧ i.length + j.length ≤ sizeLine ∧ Q (.str (i ++ j)) H) ∨ rCat x y H Q ∨ rCatA K x y H Q
theorem op_vAdd : OpR X (binaryOp .Add) (vAdd X.K) := opR_or op_add (opR_or op_add_str (opR_or op_cat op_catA))
inductive oAdd : D → D → HL → Qd → Prop
  | int {i j : Int} {L : HL} {Q : Qd} : Q (.int (i + j)) L → oAdd (.int i) (.int j) L Q
  | str {s t : Str} {L : HL} {Q : Qd} : s.length + t.length ≤ sizeLine → Q (.str (s ++ t)) L → oAdd (.str s) (.str t) L Q
  | tup {xs ys : List D} {L : HL} {Q : Qd} : xs ≠ [] → ys ≠ [] → xs.length + ys.length ≤ sizeLine → Q (.tup (xs ++ ys)) L → oAdd (.tup xs) (.tup ys) L Q
  | lst {x y : D} {xs ys : List D} {L : HL} {Q : Qd} : IsL L x xs → IsL L y ys → xs.length + ys.length ≤ sizeLine → RetL (xs ++ ys) L Q → oAdd x y L Q
  | tup0 {ys : List D} {L : HL} {Q : Qd} : ys.length ≤ sizeLine → Q (.tup ys) L → oAdd (.tup []) (.tup ys) L Q
theorem str_len {x y : Str} : (x ++ y).length = x.length + y.length := by
  show (x.cps ++ y.cps).size = _
  rw [Array.size_append]
  rfl
theorem EncL.nonempty {O : Addr → Prop} {xs : List V} {ds : List D} (r : EncL G O H xs ds) (n : ds ≠ []) : xs ≠ [] := fun e => by
  subst e
  cases r
  exact n rfl
theorem od_add : OpD G oAdd (vAdd G.K) := fun S ev eu k h => by
  cases h with
  | int q =>
    cases ev
    cases eu
    exact .inl ⟨_, _, rfl, rfl, k.here S (.int _) q⟩
  | str z q =>
    cases ev
    cases eu
    exact .inr (.inl ⟨_, _, rfl, rfl, z, k.here S (.str (by rw [str_len]; exact z)) q⟩)
  | tup n m z q =>
    cases ev with
    | tup h1 z1 r1 =>
      cases eu with
      | tup h2 z2 r2 =>
        refine .inr (.inr (.inr ⟨_, _, _, _, rfl, rfl, h1.sq, h2.sq, by rw [r1.len, r2.len]; exact z, fun e => (r1.nonempty n e).elim, fun _ e => (r2.nonempty m e).elim, fun _ _ => tup_ok S (by rw [List.length_append, r1.len, r2.len]; exact z) (r1.append r2) k q⟩))
  | tup0 z q =>
    cases ev with
    | tup h1 z1 r1 =>
      cases eu with
      | tup h2 z2 r2 =>
        cases r1
        refine .inr (.inr (.inr ⟨_, _, _, _, rfl, rfl, h1.sq, h2.sq, by rw [List.length_nil, Nat.zero_add, r2.len]; exact z, fun _ => k.here S (.tup h2 z2 r2) q, fun n => (n rfl).elim, fun n => (n rfl).elim⟩))
  | lst h1 h2 z q =>
    obtain ⟨a, xs, rfl, e1, z1, r1⟩ := h1.at_ S ev
    obtain ⟨b, ys, rfl, e2, z2, r2⟩ := h2.at_ S eu
    exact .inr (.inr (.inl ⟨_, _, _, _, rfl, rfl, e1, e2, by rw [r1.len, r2.len]; exact z, retL_ok S (by rw [List.length_append, r1.len, r2.len]; exact z) (r1.append r2) k q⟩))
inductive oI (C : Int → Int → Prop) (g : Int → Int → D) : D → D → HL → Qd → Prop
  | mk {i j : Int} {L : HL} {Q : Qd} : C i j → Q (g i j) L → oI C g (.int i) (.int j) L Q
theorem od_i {C : Int → Int → Prop} {g : Int → Int → D} {g' : Int → Int → V} (hg : ∀ i j O H, Enc G O H (g' i j) (g i j)) : OpD G (oI C g) (rI C g') := fun S ev eu k h => by
  cases h with
  | mk c q =>
    cases ev
    cases eu
    exact ⟨_, _, rfl, rfl, c, k.here S (hg ..) q⟩
theorem od_i0 {g : Int → Int → D} {g' : Int → Int → V} (hg : ∀ i j O H, Enc G O H (g' i j) (g i j)) : OpD G (oI (fun _ _ => True) g) (rI0 g') := fun S ev eu k h => by
  cases h with
  | mk c q =>
    cases ev
    cases eu
    exact ⟨_, _, rfl, rfl, k.here S (hg ..) q⟩
abbrev oSub := oI (fun _ _ => True) fun i j => .int (i - j)
abbrev oMod := oI (fun _ j => 0 < j) fun i j => .int (i % j)
abbrev oDiv := oI CDivW fun i j => .int (i / j)
abbrev oPow := oI CPow fun i j => .int (i ^ j.toNat)
theorem od_sub : OpD G oSub (rI0 fun i j => .int (i - j)) := od_i0 fun _ _ _ _ => .int _
theorem od_mod : OpD G oMod (rI (fun _ j => 0 < j) fun i j => .int (i % j)) := od_i fun _ _ _ _ => .int _
theorem od_div : OpD G oDiv (rI CDivW fun i j => .int (i / j)) := od_i fun _ _ _ _ => .int _
theorem od_pow : OpD G oPow (rI CPow fun i j => .int (i ^ j.toNat)) := od_i fun _ _ _ _ => .int _
inductive oMul : D → D → HL → Qd → Prop
  | int {i j : Int} {L : HL} {Q : Qd} : CMulW i j → Q (.int (i * j)) L → oMul (.int i) (.int j) L Q
  | lst {x : D} {xs : List D} {k : Int} {L : HL} {Q : Qd} : IsL L x xs → -(2 ^ 63) ≤ k → k < 2 ^ 63 → xs.length * k.toNat ≤ sizeLine → RetL (List.replicate k.toNat xs).flatten L Q → oMul x (.int k) L Q
  | small {i j : Int} {L : HL} {Q : Qd} : Builtin.Int.intBits j ≤ 64 → Q (.int (i * j)) L → oMul (.int i) (.int j) L Q
  | dbl {z : Str} {L : HL} {Q : Qd} : 1 ≤ z.length → z.length ≤ 1000 → Q (.str (z ++ z)) L → oMul (.str z) (.int 2) L Q
  | rep0 {z : Str} {L : HL} {Q : Qd} : Q (.str "") L → oMul (.str z) (.int 0) L Q
  | rep1 {z : Str} {L : HL} {Q : Qd} : Q (.str z) L → oMul (.str z) (.int 1) L Q
/-- a text, twice -/
def rDbl : R2 := fun x y H Q => ∃ z : Str, x = .str z ∧ y = .int 2 ∧ 1 ≤ z.length ∧ z.length ≤ 1000 ∧ Q (.str (z ++ z)) H
theorem op_dbl : OpR X (binaryOp .Mult) rDbl := by
  intro pins s σ H x y v u Q I rx ry h
  obtain ⟨z, rfl, rfl, h1, h2, q⟩ := h
  obtain ⟨t, rfl⟩ := rx
  obtain ⟨t', rfl⟩ := ry
  have h0 : ((2 : Int) == 1 || z.length == 0) = false := by
    have : (z.length == 0) = false := decide_eq_false (by omega)
    rw [this]
    rfl
  refine PySem.P.mul_str (by decide) (fun _ _ => ?_) (fun _ _ => ?_) ?_
  · have : ((2 : Int) ^ 63 - 1) / 2 = 4611686018427387903 := by decide
    rw [this]
    omega
  · refine decide_eq_false ?_
    have : (2 : Int).toNat = 2 := rfl
    rw [this]
    have : (2000 : Nat) ≤ sizeLine := by decide
    omega
  · rw [if_neg (by decide), h0, if_neg Bool.false_ne_true]
    have e : (⟨(List.replicate (2 : Int).toNat z.cps).foldl (· ++ ·) #[]⟩ : Str) = z ++ z := by
      show (⟨#[] ++ z.cps ++ z.cps⟩ : Str) = ⟨z.cps ++ z.cps⟩
      rw [Array.empty_append]
    rw [e]
    have hz : (2000 : Nat) ≤ sizeLine := by decide
    exact ⟨by rw [str_len]; omega, .str (z ++ z), H, I.tok _, ⟨_, rfl⟩, q⟩
/-- a text, not at all or once -/
def rRep0 : R2 := fun x y H Q => ∃ z : Str, x = .str z ∧ y = .int 0 ∧ Q (.str "") H
def rRep1 : R2 := fun x y H Q => ∃ z : Str, x = .str z ∧ y = .int 1 ∧ Q (.str z) H
theorem op_rep0 : OpR X (binaryOp .Mult) rRep0 := by
  intro pins s σ H x y v u Q I rx ry h
  obtain ⟨z, rfl, rfl, q⟩ := h
  obtain ⟨t, rfl⟩ := rx
  obtain ⟨t', rfl⟩ := ry
  refine PySem.P.mul_str_none (by decide) (by decide) ?_
  have e : (Str.empty : Str) = "" := Str.ext' (by decide +kernel)
  rw [e]
  exact ⟨.str "", H, I.tok _, ⟨_, rfl⟩, q⟩
theorem op_rep1 : OpR X (binaryOp .Mult) rRep1 := by
  intro pins s σ H x y v u Q I rx ry h
  obtain ⟨z, rfl, rfl, q⟩ := h
  obtain ⟨t, rfl⟩ := rx
  obtain ⟨t', rfl⟩ := ry
  have h0 : ((1 : Int) == 1 || z.length == 0) = true := rfl
  refine PySem.P.mul_str (by decide) (fun _ e => absurd e (by rw [h0]; decide)) (fun _ e => absurd e (by rw [h0]; decide)) ?_
  rw [if_neg (by decide), if_pos h0]
  exact ⟨.str z, H, I, ⟨_, rfl⟩, q⟩
/-- a factor of 64 bits at most -/
def CMulS (_ j : Int) : Prop := Builtin.Int.intBits j ≤ 64
theorem op_mulS : OpR X (binaryOp .Mult) (rI CMulS fun i j => .int (i * j)) := opI fun _ _ _ _ _ _ _ hc q => PyProof.Rows.mul_int q (IntMulOk.of_right hc)
def vMul : R2 := fun x y H Q => (((rI CMulW (fun i j => .int (i * j)) x y H Q ∨ rRep x y H Q) ∨ rDbl x y H Q) ∨ rI CMulS (fun i j => .int (i * j)) x y H Q) ∨ (rRep0 x y H Q ∨ rRep1 x y H Q)
theorem op_vMul : OpR X (binaryOp .Mult) vMul := opR_or (opR_or (opR_or (opR_or op_mulW op_rep) op_dbl) op_mulS) (opR_or op_rep0 op_rep1)
theorem EncL.rep {O : Addr → Prop} {xs : List V} {ds : List D} (r : EncL G O H xs ds) : ∀ n : Nat, EncL G O H (List.replicate n xs).flatten (List.replicate n ds).flatten
  | 0 => .nil
  | n + 1 => by
    rw [List.replicate_succ, List.replicate_succ, List.flatten_cons, List.flatten_cons]
    exact r.append (r.rep n)
theorem od_mul : OpD G oMul vMul := fun S ev eu k h => by
  cases h with
  | int c q =>
    cases ev
    cases eu
    exact .inl (.inl (.inl (.inl ⟨_, _, rfl, rfl, c, k.here S (.int _) q⟩)))
  | small c q =>
    cases ev
    cases eu
    exact .inl (.inr ⟨_, _, rfl, rfl, c, k.here S (.int _) q⟩)
  | @lst _ _ n _ _ h1 h2 h3 z q =>
    obtain ⟨a, xs, rfl, e1, z1, r1⟩ := h1.at_ S ev
    cases eu
    have hz : (List.replicate n.toNat xs).flatten.length ≤ sizeLine := by
      rw [List.length_flatten, List.map_replicate, List.sum_replicate_nat, Nat.mul_comm, r1.len]
      exact z
    exact .inl (.inl (.inl (.inr ⟨_, _, _, rfl, rfl, e1, h2, h3, by rw [r1.len]; exact z, retL_ok S hz (r1.rep _) k q⟩)))
  | @dbl z _ _ h1 h2 q =>
    cases ev
    cases eu
    have : (2000 : Nat) ≤ sizeLine := by decide
    exact .inl (.inl (.inr ⟨_, rfl, rfl, h1, h2, k.here S (Enc.str (by rw [str_len]; omega)) q⟩))
  | rep0 q =>
    cases ev
    cases eu
    exact .inr (.inl ⟨_, rfl, rfl, k.here S (Enc.str (by decide)) q⟩)
  | rep1 q =>
    cases ev with
    | str z =>
      cases eu
      exact .inr (.inr ⟨_, rfl, rfl, k.here S (Enc.str z) q⟩)
mutual
inductive Py (L : HL) : D → PyData → Prop
  | non : Py L .non .none
  | bl (b : Bool) : Py L (.bl b) (.bool b)
  | int (i : Int) : Py L (.int i) (.int i)
  | str (x : Str) : Py L (.str x) (.str x)
  | tup {ds : List D} {ys : List PyData} : PyL L ds ys → Py L (.tup ds) (.tuple ys)
  | lst {ds : List D} {ys : List PyData} : PyL L ds ys → Py L (.lst ds) (.list ys)
  | own {p : Addr} {ds : List D} {ys : List PyData} : (p, Ch.lst ds) ∈ L → PyL L ds ys → Py L (.ref p) (.list ys)
inductive PyL (L : HL) : List D → List PyData → Prop
  | nil : PyL L [] []
  | cons {d : D} {ds : List D} {y : PyData} {ys : List PyData} : Py L d y → PyL L ds ys → PyL L (d :: ds) (y :: ys)
end
mutual
theorem Py.dp (S : Sat G H L) : ∀ {d : D} {y : PyData} {v : V}, Py L d y → Enc G (dom L) H v d → Dp G.K H v y
  | _, _, _, .non, .non => .non
  | _, _, _, .bl b, .bl _ => .bl b
  | _, _, _, .int b, .int _ => .int b
  | _, _, _, .str b, .str _ => .str b
  | _, _, _, .tup h, .tup t _ r => .tup t.sq (PyL.dp S h r)
  | _, _, _, .lst h, .lst n e _ r => .lst (.inl (.inl e)) (PyL.dp S h r)
  | _, _, _, .own m h, e => by
    cases e
    cases S.ok _ _ m with
    | lst e z r => exact .lst (.inl (.inl e)) (PyL.dp S h r)
theorem PyL.dp (S : Sat G H L) : ∀ {ds : List D} {ys : List PyData} {vs : List V}, PyL L ds ys → EncL G (dom L) H vs ds → DpAll G.K H vs ys
  | _, _, _, .nil, .nil => .nil
  | _, _, _, .cons h t, .cons e r => .cons (Py.dp S h e) (PyL.dp S t r)
end
/-- an item of two lists: equal data, or the very same -/
def ItD (L : HL) (x y : D) : Prop := (∃ a b, Py L x a ∧ Py L y b ∧ a.canLay0 = true ∧ b.canLay0 = true ∧ a.depth ≤ 60 ∧ PyData.eqv a b = true) ∨ ∃ p, x = .ref p ∧ y = .ref p
def flatQ : D → Bool
  | .non | .bl _ | .int _ | .str _ => true
  | _ => false
/-- == and != of data -/
inductive oEq (f : Bool → Bool) : D → D → HL → Qd → Prop
  | mk {x y : D} {a b : PyData} {L : HL} {Q : Qd} : Py L x a → Py L y b → SeqAt.shaped a = true → SeqAt.shaped b = true → Q (.bl (f (PyData.eqv a b))) L → oEq f x y L Q
  | its {x y : D} {xs ys : List D} {L : HL} {Q : Qd} : IsL L x xs → IsL L y ys → Paired (ItD L) xs ys → Q (.bl (f true)) L → oEq f x y L Q
  | dct {p : Addr} {kvs : List (Str × D)} {L : HL} {Q : Qd} : (p, Ch.dct kvs) ∈ L → kvs.length ≤ 1 → (∀ q ∈ kvs, flatQ q.2 = true) → Q (.bl (f true)) L → oEq f (.ref p) (.ref p) L Q
  | dcts {p r : Addr} {k : Str} {d e : D} {a b : PyData} {L : HL} {Q : Qd} : (p, Ch.dct [(k, d)]) ∈ L → (r, Ch.dct [(k, e)]) ∈ L → Py L d a → Py L e b → a.canLay0 = true → b.canLay0 = true → a.depth ≤ 60 → PyData.eqv a b = true → Q (.bl (f true)) L → oEq f (.ref p) (.ref r) L Q
  | txt {s t : Str} {L : HL} {Q : Qd} : Q (.bl (f (decide (s = t)))) L → oEq f (.str s) (.str t) L Q
  | lsS {x : D} {xs : List D} {t : Str} {L : HL} {Q : Qd} : IsL L x xs → Q (.bl (f false)) L → oEq f x (.str t) L Q
theorem its_dp (S : Sat G H L) : ∀ {xs ys : List D}, Paired (ItD L) xs ys → ∀ {vs us : List V}, EncL G (dom L) H vs xs → EncL G (dom L) H us ys → Paired (ItV G.K H) vs us
  | _, _, .nil, _, _, .nil, .nil => .nil
  | _, _, .cons h t, _, _, .cons e r, .cons e' r' => .cons (by
      rcases h with ⟨a, b, h1, h2, c1, c2, dp, ev⟩ | ⟨p, rfl, rfl⟩
      · exact .inl ⟨a, b, Py.dp S h1 e, Py.dp S h2 e', c1, c2, dp, ev⟩
      · cases e
        cases e'
        exact .inr ⟨p, rfl, rfl⟩) (its_dp S t r r')
theorem flat_enc {O : Addr → Prop} {v : V} {d : D} (e : Enc G O H v d) (h : flatQ d = true) : flatB v = true := by
  cases e <;> first | rfl | cases h
theorem same_dp (S : Sat G H L) {b : Bool} {f : Bool → Bool} (hf : f true = b) {x y : D} {v u : V} {Q : Qd} {Qv : VK} (ev : Enc G (dom L) H v x) (eu : Enc G (dom L) H u y) (k : Kd G L H Q Qv)
    (h : (∃ xs ys, IsL L x xs ∧ IsL L y ys ∧ Paired (ItD L) xs ys ∧ Q (.bl (f true)) L) ∨ ∃ p kvs, x = .ref p ∧ y = .ref p ∧ (p, Ch.dct kvs) ∈ L ∧ kvs.length ≤ 1 ∧ (∀ q ∈ kvs, flatQ q.2 = true) ∧ Q (.bl (f true)) L) : rSame G.K b v u H Qv := by
  rcases h with ⟨xs, ys, h1, h2, hp, q⟩ | ⟨p, kvs, rfl, rfl, m, hl, hf1, q⟩
  · obtain ⟨a, vs, rfl, ha, za, ra⟩ := h1.at_ S ev
    obtain ⟨c, us, rfl, hc, zc, rc⟩ := h2.at_ S eu
    rw [hf] at q
    exact .inl ⟨a, c, vs, us, rfl, rfl, .inl (.inl ha), .inl (.inl hc), its_dp S hp ra rc, k.here S (.bl _) q⟩
  · cases ev
    cases eu
    rw [hf] at q
    cases S.ok _ _ m with
    | @dct vkvs _ e z n r =>
      refine .inr (.inl ⟨p, vkvs, rfl, rfl, e, fun p0 m0 => ?_, k.here S (.bl _) q⟩)
      match kvs, vkvs, n, r, hl with
      | [], [], _, _, _ => cases m0
      | [kv], [vkv], _, r, _ =>
        obtain rfl := List.mem_singleton.mp m0
        refine ⟨valV_pos rfl, ?_⟩
        cases r with
        | cons e0 _ => exact flat_enc e0 (hf1 kv (.head _))
abbrev rEqX (K : PySem.W.Frag) : R2 := fun x y H Q => rEqD K x y H Q ∨ rSame K true x y H Q ∨ rEq x y H Q
abbrev rNeX (K : PySem.W.Frag) : R2 := fun x y H Q => rNeD K x y H Q ∨ rSame K false x y H Q ∨ rNe x y H Q
theorem one_dct (S : Sat G H L) {p : Addr} {k : Str} {d : D} (m : (p, Ch.dct [(k, d)]) ∈ L) : ∃ v, H p = some (.dK [(Sum.inr k, v)]) ∧ Enc G (dom L) H v d := by
  cases S.ok _ _ m with
  | @dct vk _ e z n r =>
    match vk, n, r with
    | [(k0, v)], n, r =>
      injection n with n1 _
      have n1 : k0 = Sum.inr k := n1
      subst n1
      cases r with
      | cons e0 _ => exact ⟨v, e, e0⟩
    | [], n, _ => exact absurd (congrArg List.length n) (by simp)
    | _ :: _ :: _, n, _ => exact absurd (congrArg List.length n) (by simp)
theorem od_eq : OpD G (oEq id) (rEqX G.K) := fun S ev eu k h => by
  cases h with
  | mk h1 h2 s1 s2 q => exact .inl ⟨_, _, Py.dp S h1 ev, Py.dp S h2 eu, s1, s2, k.here S (.bl _) q⟩
  | its h1 h2 hp q => exact .inr (.inl (same_dp S (f := id) rfl ev eu k (.inl ⟨_, _, h1, h2, hp, q⟩)))
  | dct m hl hf q => exact .inr (.inl (same_dp S (f := id) rfl ev eu k (.inr ⟨_, _, rfl, rfl, m, hl, hf, q⟩)))
  | dcts m1 m2 h1 h2 c1 c2 dp hv q =>
    cases ev
    cases eu
    obtain ⟨v1, a1, b1⟩ := one_dct S m1
    obtain ⟨v2, a2, b2⟩ := one_dct S m2
    exact .inr (.inl (.inr (.inr (.inl ⟨_, _, _, v1, v2, rfl, rfl, a1, a2, ⟨_, _, Py.dp S h1 b1, Py.dp S h2 b2, c1, c2, dp, hv⟩, k.here S (.bl _) q⟩))))
  | lsS h1 q =>
    obtain ⟨a, vs, rfl, ha, za, ra⟩ := h1.at_ S ev
    cases eu
    exact .inr (.inl (.inr (.inr (.inr ⟨_, _, _, rfl, rfl, .inl (.inl ha), k.here S (.bl _) q⟩))))
  | @txt a b _ _ q =>
    cases ev
    cases eu
    refine .inr (.inr ⟨rfl, ?_⟩)
    rw [show decide (V.str a = V.str b) = decide (a = b) from by rw [Bool.eq_iff_iff]; simp]
    exact k.here S (.bl _) q
theorem od_ne : OpD G (oEq not) (rNeX G.K) := fun S ev eu k h => by
  cases h with
  | mk h1 h2 s1 s2 q => exact .inl ⟨_, _, Py.dp S h1 ev, Py.dp S h2 eu, s1, s2, k.here S (.bl _) q⟩
  | its h1 h2 hp q => exact .inr (.inl (same_dp S (f := not) rfl ev eu k (.inl ⟨_, _, h1, h2, hp, q⟩)))
  | dct m hl hf q => exact .inr (.inl (same_dp S (f := not) rfl ev eu k (.inr ⟨_, _, rfl, rfl, m, hl, hf, q⟩)))
  | dcts m1 m2 h1 h2 c1 c2 dp hv q =>
    cases ev
    cases eu
    obtain ⟨v1, a1, b1⟩ := one_dct S m1
    obtain ⟨v2, a2, b2⟩ := one_dct S m2
    exact .inr (.inl (.inr (.inr (.inl ⟨_, _, _, v1, v2, rfl, rfl, a1, a2, ⟨_, _, Py.dp S h1 b1, Py.dp S h2 b2, c1, c2, dp, hv⟩, k.here S (.bl _) q⟩))))
  | lsS h1 q =>
    obtain ⟨a, vs, rfl, ha, za, ra⟩ := h1.at_ S ev
    cases eu
    exact .inr (.inl (.inr (.inr (.inr ⟨_, _, _, rfl, rfl, .inl (.inl ha), k.here S (.bl _) q⟩))))
  | @txt a b _ _ q =>
    cases ev
    cases eu
    refine .inr (.inr ⟨rfl, ?_⟩)
    rw [show decide (V.str a = V.str b) = decide (a = b) from by rw [Bool.eq_iff_iff]; simp]
    exact k.here S (.bl _) q
/-- < and its like, of ints, of alike data -/
inductive oOrd (g : Int → Int → Bool) (o : PyData → PyData → Bool) : D → D → HL → Qd → Prop
  | mk {i j : Int} {L : HL} {Q : Qd} : True → Q (.bl (g i j)) L → oOrd g o (.int i) (.int j) L Q
  | data {x y : D} {a b : PyData} {L : HL} {Q : Qd} : Py L x a → Py L y b → PySem.W.alike a b = true → a ≠ .none → a.depth ≤ 60 → Q (.bl (o a b)) L → oOrd g o x y L Q
abbrev oLt := oOrd (fun i j => decide (i < j)) (fun a b => PySem.W.dataLt a b)
abbrev oLe := oOrd (fun i j => decide (i ≤ j)) (fun a b => !PySem.W.dataLt b a)
abbrev oGt := oOrd (fun i j => decide (j < i)) (fun a b => PySem.W.dataLt b a)
abbrev oGe := oOrd (fun i j => decide (j ≤ i)) (fun a b => !PySem.W.dataLt a b)
theorem od_ord {g : Int → Int → Bool} {o : PyData → PyData → Bool} : OpD G (oOrd g o) (fun x y H Q => rI0 (fun i j => .bl (g i j)) x y H Q ∨ rOrdD G.K o x y H Q) := fun S ev eu k h => by
  cases h with
  | mk _ q =>
    cases ev
    cases eu
    exact .inl ⟨_, _, rfl, rfl, k.here S (.bl _) q⟩
  | data h1 h2 a1 a2 a3 q => exact .inr ⟨_, _, Py.dp S h1 ev, Py.dp S h2 eu, a1, a2, a3, k.here S (.bl _) q⟩
/-- in: flat items of a list or tuple; data of any depth in a list; a text in a text -/
def flatD : D → Bool
  | .non | .bl _ | .int _ | .str _ => true
  | _ => false
def eqD : D → D → Bool
  | .non, .non => true
  | .bl a, .bl b => a == b
  | .bl a, .int b => (if a then 1 else 0) == b
  | .int a, .bl b => a == (if b then 1 else 0)
  | .int a, .int b => a == b
  | .str a, .str b => a == b
  | _, _ => false
theorem flat_v {O : Addr → Prop} {v : V} {d : D} (e : Enc G O H v d) (f : flatD d = true) : flatV v = true := by
  cases e <;> first | rfl | exact nomatch f
theorem flat_vs {O : Addr → Prop} : ∀ {xs : List V} {ds : List D}, EncL G O H xs ds → ds.all flatD = true → xs.all flatV = true
  | _, _, .nil, _ => rfl
  | _, _, .cons e r, f => by
    rw [List.all_cons, Bool.and_eq_true] at f
    rw [List.all_cons, Bool.and_eq_true]
    exact ⟨flat_v e f.1, flat_vs r f.2⟩
theorem eq_v {O : Addr → Prop} {v u : V} {d x : D} (e : Enc G O H v d) (g : Enc G O H u x) : eqV v u = eqD d x := by
  cases e <;> cases g <;> rfl
theorem in_v {O : Addr → Prop} {v : V} {d : D} (e : Enc G O H v d) : ∀ {xs : List V} {ds : List D}, EncL G O H xs ds → inV v xs = ds.any fun y => eqD y d
  | _, _, .nil => rfl
  | _, _, .cons g r => by
    show (eqV _ v || inV v _) = (eqD _ d || _)
    rw [eq_v g e, in_v e r]
inductive oIn (f : Bool → Bool) : D → D → HL → Qd → Prop
  | lst {x y : D} {ys : List D} {L : HL} {Q : Qd} : IsL L y ys → flatD x = true → ys.all flatD = true → Q (.bl (f (ys.any fun z => eqD z x))) L → oIn f x y L Q
  | tup {x : D} {ys : List D} {L : HL} {Q : Qd} : flatD x = true → ys.all flatD = true → Q (.bl (f (ys.any fun z => eqD z x))) L → oIn f x (.tup ys) L Q
  | deep {x y : D} {a : PyData} {bs : List PyData} {L : HL} {Q : Qd} : Py L x a → Py L y (.list bs) → SeqAt.shaped a = true → SeqAt.shaped (.list bs) = true → Q (.bl (f (bs.any fun z => PyData.eqv z a))) L → oIn f x y L Q
  | deepT {x y : D} {a : PyData} {bs : List PyData} {L : HL} {Q : Qd} : Py L x a → Py L y (.tuple bs) → SeqAt.shaped a = true → SeqAt.shaped (.tuple bs) = true → Q (.bl (f (bs.any fun z => PyData.eqv z a))) L → oIn f x y L Q
  | str {s t : Str} {L : HL} {Q : Qd} : Q (.bl (f (!(Builtin.Str.occurrences t s 0 t.length 1).isEmpty))) L → oIn f (.str s) (.str t) L Q
def rInT (K : PySem.W.Frag) (f : Bool → Bool) : R2 := fun x y H Q => ∃ d ds, Dp K H x d ∧ Dp K H y (.tuple ds) ∧ SeqAt.shaped d = true ∧ SeqAt.shaped (.tuple ds) = true ∧ Q (.bl (f (ds.any fun z => PyData.eqv z d))) H
theorem op_inT (hu : X.A.units + 65 < cLine) : OpR X (compareOp .In) (rInT X.K id) := by
  intro pins s σ H x y v u Q I rx ry h
  obtain ⟨d, ds, hd, he, sd, se, q⟩ := h
  obtain ⟨as, r1⟩ := Dp.reads I d x v hd rx
  obtain ⟨bs, r2⟩ := Dp.reads I (.tuple ds) y u he ry
  exact SeqAt.in_tuple_reads r2 r1 (SeqAt.canLay_of_shaped se) (SeqAt.canLay_of_shaped sd) (PyProof.Rows.room_in_shaped sd hu) ⟨.bl _, H, I, rfl, q⟩
theorem op_notInT (hu : X.A.units + 65 < cLine) : OpR X (compareOp .NotIn) (rInT X.K not) := by
  intro pins s σ H x y v u Q I rx ry h
  obtain ⟨d, ds, hd, he, sd, se, q⟩ := h
  obtain ⟨as, r1⟩ := Dp.reads I d x v hd rx
  obtain ⟨bs, r2⟩ := Dp.reads I (.tuple ds) y u he ry
  exact SeqAt.notIn_tuple_reads r2 r1 (SeqAt.canLay_of_shaped se) (SeqAt.canLay_of_shaped sd) (PyProof.Rows.room_in_shaped sd hu) ⟨.bl _, H, I, rfl, q⟩
def vIn (K : PySem.W.Frag) : R2 := fun x y H Q => rIn K false x y H Q ∨ rInD K x y H Q ∨ (∃ i j, x = .str i ∧ y = .str j ∧ Q (.bl (!(Builtin.Str.occurrences j i 0 j.length 1).isEmpty)) H) ∨ rInT K id x y H Q
def vNi (K : PySem.W.Frag) : R2 := fun x y H Q => rIn K true x y H Q ∨ rNotInD K x y H Q ∨ (∃ i j, x = .str i ∧ y = .str j ∧ Q (.bl (!(!(Builtin.Str.occurrences j i 0 j.length 1).isEmpty))) H) ∨ rInT K not x y H Q
theorem op_vIn (hu : X.A.units + 65 < cLine) : OpR X (compareOp .In) (vIn X.K) := opR_or op_in_seq (opR_or (op_inD hu) (opR_or op_in_str (op_inT hu)))
theorem op_vNi (hu : X.A.units + 65 < cLine) : OpR X (compareOp .NotIn) (vNi X.K) := opR_or op_notIn_seq (opR_or (op_notInD hu) (opR_or op_notIn_str (op_notInT hu)))
theorem od_in : OpD G (oIn id) (vIn G.K) := fun S ev eu k h => by
  cases h with
  | lst hl fx fy q =>
    obtain ⟨a, xs, rfl, e1, z1, r1⟩ := hl.at_ S eu
    refine .inl ⟨_, _, rfl, .inl (.inl (.inl e1)), flat_v ev fx, flat_vs r1 fy, ?_⟩
    rw [in_v ev r1]
    exact k.here S (.bl _) q
  | tup fx fy q =>
    cases eu with
    | tup h2 z2 r2 =>
      refine .inl ⟨_, _, rfl, .inr h2.sq, flat_v ev fx, flat_vs r2 fy, ?_⟩
      rw [in_v ev r2]
      exact k.here S (.bl _) q
  | deep h1 h2 s1 s2 q => exact .inr (.inl ⟨_, _, Py.dp S h1 ev, Py.dp S h2 eu, s1, s2, k.here S (.bl _) q⟩)
  | str q =>
    cases ev
    cases eu
    exact .inr (.inr (.inl ⟨_, _, rfl, rfl, k.here S (.bl _) q⟩))
  | deepT h1 h2 s1 s2 q => exact .inr (.inr (.inr ⟨_, _, Py.dp S h1 ev, Py.dp S h2 eu, s1, s2, k.here S (.bl _) q⟩))
theorem od_ni : OpD G (oIn not) (vNi G.K) := fun S ev eu k h => by
  cases h with
  | lst hl fx fy q =>
    obtain ⟨a, xs, rfl, e1, z1, r1⟩ := hl.at_ S eu
    refine .inl ⟨_, _, rfl, .inl (.inl (.inl e1)), flat_v ev fx, flat_vs r1 fy, ?_⟩
    rw [in_v ev r1]
    exact k.here S (.bl _) q
  | tup fx fy q =>
    cases eu with
    | tup h2 z2 r2 =>
      refine .inl ⟨_, _, rfl, .inr h2.sq, flat_v ev fx, flat_vs r2 fy, ?_⟩
      rw [in_v ev r2]
      exact k.here S (.bl _) q
  | deep h1 h2 s1 s2 q => exact .inr (.inl ⟨_, _, Py.dp S h1 ev, Py.dp S h2 eu, s1, s2, k.here S (.bl _) q⟩)
  | str q =>
    cases ev
    cases eu
    exact .inr (.inr (.inl ⟨_, _, rfl, rfl, k.here S (.bl _) q⟩))
  | deepT h1 h2 s1 s2 q => exact .inr (.inr (.inr ⟨_, _, Py.dp S h1 ev, Py.dp S h2 eu, s1, s2, k.here S (.bl _) q⟩))
/-- is None, is not None -/
def isNon : D → Bool
  | .non => true
  | _ => false
inductive oIs (f : Bool → Bool) : D → D → HL → Qd → Prop
  | mk {x : D} {L : HL} {Q : Qd} : Q (.bl (f (isNon x))) L → oIs f x .non L Q
theorem isNon_v {O : Addr → Prop} {v : V} {d : D} (e : Enc G O H v d) : decide (v = .non) = isNon d := by
  cases e <;> rfl
theorem od_is : OpD G (oIs id) (fun x y H Q => y = .non ∧ Q (.bl (decide (x = .non))) H) := fun S ev eu k h => by
  cases h with
  | mk q =>
    cases eu
    refine ⟨rfl, ?_⟩
    rw [isNon_v ev]
    exact k.here S (.bl _) q
theorem od_isnot : OpD G (oIs not) (fun x y H Q => y = .non ∧ Q (.bl (!decide (x = .non))) H) := fun S ev eu k h => by
  cases h with
  | mk q =>
    cases eu
    refine ⟨rfl, ?_⟩
    rw [isNon_v ev]
    exact k.here S (.bl _) q
end
end DM
set_option Elab.async false
set_option linter.all false
set_option maxRecDepth 100000
namespace DM
open PySem L2
/-- the classes' own fields: what may be read and stored -/
structure Fds (G : Gw) (fds : Str → List Str) : Prop where
  cls : ∀ c C f, G.ca c = some C → f ∈ fds c → Cls G.K C
  no : ∀ c C f, G.ca c = some C → f ∈ fds c → NoAttr G.K C f
section
variable {G : Gw} {H H' : Hp} {L L' : HL} {vs : Sv} {σ : Sl} {X : Cx} {e : Expr} {W : WX} {fds : Str → List Str}
inductive IsS (L : HL) : D → List D → Prop
  | lst {x : D} {ds : List D} : IsL L x ds → IsS L x ds
  | tup (ds : List D) : IsS L (.tup ds) ds
  | frz (ns : List Int) : IsS L (.frz ns) (ns.map D.int)
theorem EncL.of_ints {O : Addr → Prop} : ∀ ns : List Int, EncL G O H (ns.map V.int) (ns.map D.int)
  | [] => .nil
  | n :: ns => .cons (.int n) (EncL.of_ints ns)
theorem EncL.of_strs {O : Addr → Prop} : ∀ ns : List Str, (∀ x ∈ ns, x.length ≤ sizeLine) → EncL G O H (ns.map V.str) (ns.map D.str)
  | [], _ => .nil
  | n :: ns, h => .cons (.str (h n (List.mem_cons_self ..))) (EncL.of_strs ns fun x m => h x (List.mem_cons_of_mem _ m))
theorem IsS.at_ {x : D} {ds : List D} {v : V} (h : IsS L x ds) (S : Sat G H L) (e : Enc G (dom L) H v x) :
    ∃ a xs, v = .ref a ∧ (SqL G.K H a xs ∨ SqT G.K H a xs) ∧ xs.length ≤ sizeLine ∧ EncL G (dom L) H xs ds := by
  cases h with
  | lst h =>
    obtain ⟨a, xs, h1, h2, h3, h4⟩ := h.at_ S e
    exact ⟨a, xs, h1, .inl (.inl (.inl h2)), h3, h4⟩
  | tup =>
    cases e with
    | tup t z r => exact ⟨_, _, rfl, .inr t.sq, z, r⟩
  | frz =>
    cases e with
    | frz t z => exact ⟨_, _, rfl, .inl t.sq, by rw [List.length_map]; exact z, EncL.of_ints _⟩
theorem atI_enc {O : Addr → Prop} {xs : List V} {ds : List D} {i : Int} {d : D} (r : EncL G O H xs ds) (h : atI ds i = some d) : ∃ v, atI xs i = some v ∧ Enc G O H v d := by
  unfold atI at h ⊢
  rw [r.len]
  cases q : ixN ds.length i with
  | none => rw [q] at h; cases h
  | some j =>
    rw [q] at h
    exact r.getD h
inductive oIx : D → D → HL → Qd → Prop
  | seq {x d : D} {ds : List D} {i : Int} {L : HL} {Q : Qd} : IsS L x ds → atI ds i = some d → Q d L → oIx x (.int i) L Q
  | str {z : Str} {i : Int} {c : Nat} {L : HL} {Q : Qd} : atI z.cps.toList i = some c → Q (.str ⟨#[c]⟩) L → oIx (.str z) (.int i) L Q
theorem one_le {c : Nat} : (⟨#[c]⟩ : Str).length ≤ sizeLine := by
  show 1 ≤ sizeLine
  decide
theorem od_ix : OpD G oIx (rIx G.K) := fun S ev eu k h => by
  cases h with
  | seq h1 h2 q =>
    cases eu
    obtain ⟨a, xs, rfl, hs, z, r⟩ := h1.at_ S ev
    obtain ⟨v, hv, ed⟩ := atI_enc r h2
    rcases hs with hs | hs
    · exact .inl ⟨_, _, _, _, rfl, rfl, hs, hv, k.here S ed q⟩
    · exact .inr (.inl ⟨_, _, _, _, rfl, rfl, hs, hv, k.here S ed q⟩)
  | str h q =>
    cases eu
    cases ev with
    | str z => exact .inr (.inr ⟨_, _, _, rfl, rfl, z, h, k.here S (.str one_le) q⟩)
abbrev DTO := Sl → HL → (Option Int → HL → Prop) → Xd → Prop
def Ko (G : Gw) (L : HL) (H : Hp) (Q : Option Int → HL → Prop) (Qv : Option Int → Hp → Prop) : Prop := ∀ b H' L', Pers (dom L) H (dom L') H' → Sat G H' L' → Q b L' → Qv b H'
def concO (G : Gw) (W : WX) (t : DTO) : TO := fun vs H Qv => ∃ σ L Q E, Sat G H L ∧ EncS G (dom L) H vs σ ∧ t σ L Q E ∧ Ko G L H Q Qv ∧ Kx G L H E W
theorem po_imp {x : Option Expr} {t t' : TO} (h : PO X x t) (f : ∀ vs H Q, t' vs H Q → t vs H Q) : PO X x t' := ⟨fun pins s σ H Q I q => h.run pins s σ H Q I (f _ _ _ q)⟩
def dNoPart : DTO := fun _ L Q _ => Q none L
def dPart (t : DTE) : DTO := fun σ L Q E => t σ L (fun d L1 => ∃ i, d = .int i ∧ Q (some i) L1) E
theorem conc_noPart : PO X none (concO G W dNoPart) := po_imp po_none fun vs H Qv ⟨σ, L, Q, E, S, en, q, k, _⟩ => k none H L (Pers.refl _ _) S q
theorem conc_part {x : Expr} {t : DTE} (h : PE X x (conc G W t)) : PO X (some x) (concO G W (dPart t)) := po_imp (po_some h) fun vs H Qv ⟨σ, L, Q, E, S, en, q, k, kx⟩ =>
  conc_bind (R := fun d L1 => ∃ i, d = .int i ∧ Q (some i) L1) S en kx q fun v H1 d L1 p S1 e1 en1 kx1 ⟨i, hd, q1⟩ => by
    subst hd
    cases e1
    exact ⟨i, rfl, k _ _ L1 p S1 q1⟩
theorem conc_bindO {da : DTO} {Qv : Option Int → Hp → Prop} {E : Xd} {R : Option Int → HL → Prop} (S : Sat G H L) (en : EncS G (dom L) H vs σ) (kx : Kx G L H E W) (h : da σ L R E)
    (f : ∀ v H1 L1, Pers (dom L) H (dom L1) H1 → Sat G H1 L1 → EncS G (dom L1) H1 vs σ → Kx G L1 H1 E W → R v L1 → Qv v H1) : concO G W da vs H Qv :=
  ⟨σ, L, R, E, S, en, h, fun v H1 L1 p S1 q => f v H1 L1 p S1 (en.pers p) (kx.back p) q, kx⟩
def cutD (xs : List D) (lo hi : Option Int) : List D := (xs.drop (HT.sIx xs.length 0 lo)).take (HT.sIx xs.length xs.length hi - HT.sIx xs.length 0 lo)
theorem cut_enc {O : Addr → Prop} {xs : List V} {ds : List D} (r : EncL G O H xs ds) (lo hi : Option Int) : EncL G O H (cutV xs lo hi) (cutD ds lo hi) := by
  unfold cutV cutD
  rw [r.len]
  exact (r.drop _).take _
inductive oSl : D → Option Int → Option Int → HL → Qd → Prop
  | lst {x : D} {ds : List D} {lo hi : Option Int} {L : HL} {Q : Qd} : IsL L x ds → RetL (cutD ds lo hi) L Q → oSl x lo hi L Q
  | frz {ns : List Int} {lo hi : Option Int} {L : HL} {Q : Qd} : RetL (cutD (ns.map D.int) lo hi) L Q → oSl (.frz ns) lo hi L Q
  | tup {ds : List D} {lo hi : Option Int} {L : HL} {Q : Qd} : Q (.tup (cutD ds lo hi)) L → oSl (.tup ds) lo hi L Q
  | str {z : Str} {lo hi : Option Int} {L : HL} {Q : Qd} : Q (.str (cutS z lo hi)) L → oSl (.str z) lo hi L Q
def vSl (K : PySem.W.Frag) : V → Option Int → Option Int → Hp → VK → Prop := fun x lo hi H Q => rSlL K x lo hi H Q ∨ rSlA K x lo hi H Q ∨ rSlS x lo hi H Q
theorem sl_v : SlR X (vSl X.K) := sl_list.or (sl_tupA.or sl_str)
theorem cut_all {α : Type} {xs : List α} {lo hi : Option Int} (h : HT.sIx xs.length 0 lo = 0 ∧ HT.sIx xs.length xs.length hi = xs.length) :
    (xs.drop (HT.sIx xs.length 0 lo)).take (HT.sIx xs.length xs.length hi - HT.sIx xs.length 0 lo) = xs := by
  rw [h.1, h.2, List.drop_zero, Nat.sub_zero, List.take_length]
theorem sl_ok {x : D} {v : V} {lo hi : Option Int} {Q : Qd} {Qv : VK} (S : Sat G H L) (ev : Enc G (dom L) H v x) (k : Kd G L H Q Qv) (h : oSl x lo hi L Q) : vSl G.K v lo hi H Qv := by
  cases h with
  | lst h q =>
    obtain ⟨a, xs, rfl, e, z, r⟩ := h.at_ S ev
    exact .inl ⟨a, xs, rfl, .inl (.inl e), retL_ok S (Nat.le_trans (cutV_length ..) z) (cut_enc r ..) k q⟩
  | @frz ns _ _ _ _ q =>
    cases ev with
    | @frz a _ t z =>
      exact .inl ⟨a, ns.map V.int, rfl, t.sq, retL_ok S (Nat.le_trans (cutV_length ..) (by rw [List.length_map]; exact z)) (cut_enc (EncL.of_ints _) ..) k q⟩
  | @tup ds _ _ _ _ q =>
    cases ev with
    | @tup a xs _ t z r =>
      refine .inr (.inl ⟨a, xs, rfl, t.sq, fun hw => ?_, fun _ => tup_ok S (Nat.le_trans (cutV_length ..) z) (cut_enc r ..) k q⟩)
      have e : cutD ds lo hi = ds := cut_all (by rw [← r.len]; exact hw)
      rw [e] at q
      exact k.here S (.tup t z r) q
  | str q =>
    cases ev with
    | str z => exact .inr (.inr ⟨_, rfl, z, k.here S (.str (Nat.le_trans (cutS_length ..) z)) q⟩)
def dSl (t : DTE) (tl th : DTO) : DTE := fun σ L Q E => t σ L (fun x L1 => tl σ L1 (fun lo L2 => th σ L2 (fun hi L3 => oSl x lo hi L3 Q) E) E) E
theorem conc_sl {t : DTE} {tl th : DTO} (h : PE X e (tSl (vSl G.K) (conc G W t) (concO G W tl) (concO G W th))) : PE X e (conc G W (dSl t tl th)) :=
  pe_imp h fun vs H Qv ⟨σ, L, Q, E, S, en, q, k, kx⟩ =>
    conc_bind (R := fun x L1 => tl σ L1 (fun lo L2 => th σ L2 (fun hi L3 => oSl x lo hi L3 Q) E) E) S en kx q fun v H1 x L1 p S1 e1 en1 kx1 q1 =>
    conc_bindO (R := fun lo L2 => th σ L2 (fun hi L3 => oSl x lo hi L3 Q) E) S1 en1 kx1 q1 fun lo H2 L2 p2 S2 en2 kx2 q2 =>
    conc_bindO (R := fun hi L3 => oSl x lo hi L3 Q) S2 en2 kx2 q2 fun hi H3 L3 p3 S3 en3 kx3 q3 => sl_ok S3 ((e1.pers p2).pers p3) (((k.back p).back p2).back p3) q3
def dNil : DTA := fun _ L Q _ => Q [] L
def dCons (t : DTE) (ts : DTA) : DTA := fun σ L Q E => t σ L (fun x L1 => ts σ L1 (fun xs L2 => Q (x :: xs) L2) E) E
theorem conc_nil {es : List Expr} (h : PA X es tNil) : PA X es (concA G W dNil) := pa_imp h fun vs H Qv ⟨σ, L, Q, E, S, en, q, k, _⟩ => k [] H [] L (Pers.refl _ _) S .nil q
theorem conc_cons {es : List Expr} {t : DTE} {ts : DTA} (h : PA X es (tCons (conc G W t) (concA G W ts))) : PA X es (concA G W (dCons t ts)) :=
  pa_imp h fun vs H Qv ⟨σ, L, Q, E, S, en, q, k, kx⟩ => conc_bind (R := fun x L1 => ts σ L1 (fun xs L2 => Q (x :: xs) L2) E) S en kx q fun v H1 x L1 p S1 e1 en1 kx1 q1 =>
    conc_bindA (R := fun xs L2 => Q (x :: xs) L2) S1 en1 kx1 q1 fun us H2 xs L2 p2 S2 e2 en2 kx2 q2 => k _ _ _ L2 (p.trans p2) S2 (.cons (e1.pers p2) e2) q2
def dTup (t : DTA) : DTE := fun σ L Q E => t σ L (fun xs L1 => xs.length ≤ sizeLine ∧ Q (.tup xs) L1) E
def dLst (t : DTA) : DTE := fun σ L Q E => t σ L (fun xs L1 => xs.length ≤ sizeLine ∧ RetL xs L1 Q) E
theorem conc_tup {t : DTA} (h : PE X e (tTup (concA G W t))) : PE X e (conc G W (dTup t)) :=
  pe_imp h fun vs H Qv ⟨σ, L, Q, E, S, en, q, k, kx⟩ => conc_bindA (R := fun xs L1 => xs.length ≤ sizeLine ∧ Q (.tup xs) L1) S en kx q fun us H1 xs L1 p S1 e1 en1 kx1 q1 =>
    ⟨by rw [e1.len]; exact q1.1, tup_ok S1 (by rw [e1.len]; exact q1.1) e1 (k.back p) q1.2⟩
theorem conc_lst {t : DTA} (h : PE X e (tLst (concA G W t))) : PE X e (conc G W (dLst t)) :=
  pe_imp h fun vs H Qv ⟨σ, L, Q, E, S, en, q, k, kx⟩ => conc_bindA (R := fun xs L1 => xs.length ≤ sizeLine ∧ RetL xs L1 Q) S en kx q fun us H1 xs L1 p S1 e1 en1 kx1 q1 =>
    ⟨by rw [e1.len]; exact q1.1, retL_ok S1 (by rw [e1.len]; exact q1.1) e1 (k.back p) q1.2⟩
inductive IsI (L : HL) : D → Str → List (Str × D) → Prop
  | ins (c : Str) (fs : List (Str × D)) : IsI L (.ins c fs) c fs
  | own {p : Addr} {c : Str} {fs : List (Str × D)} : (p, Ch.ins c fs) ∈ L → IsI L (.ref p) c fs
theorem IsI.at_ {x : D} {c : Str} {fs : List (Str × D)} {v : V} (h : IsI L x c fs) (S : Sat G H L) (e : Enc G (dom L) H v x) :
    ∃ a C dx vfs, v = .ref a ∧ G.ca c = some C ∧ H a = some (.ins C dx vfs) ∧ vfs.map (·.1) = fs.map (·.1) ∧ EncL G (dom L) H (vfs.map (·.2)) (fs.map (·.2)) := by
  cases h with
  | ins =>
    cases e with
    | ins g n h q r => exact ⟨_, _, _, _, rfl, g, h, q, r⟩
  | own m =>
    cases e
    cases S.ok _ _ m with
    | ins g h z q r => exact ⟨_, _, _, _, rfl, g, h, q, r⟩
theorem lookup_enc {O : Addr → Prop} {f : Str} {d : D} : ∀ {vfs : List (Str × V)} {fs : List (Str × D)}, vfs.map (·.1) = fs.map (·.1) → EncL G O H (vfs.map (·.2)) (fs.map (·.2)) → fs.lookup f = some d → ∃ v, vfs.lookup f = some v ∧ Enc G O H v d
  | [], [], _, _, h => nomatch h
  | (a, v) :: vfs, (b, x) :: fs, e, r, h => by
    have hab : a = b := (List.cons.inj e).1
    subst hab
    cases r with
    | cons r1 r2 =>
      rw [List.lookup_cons] at h ⊢
      split at h
      · cases h
        exact ⟨v, rfl, r1⟩
      · exact lookup_enc (List.cons.inj e).2 r2 h
theorem lookup_none : ∀ {f : Str} {vfs : List (Str × V)} {fs : List (Str × D)}, vfs.map (·.1) = fs.map (·.1) → fs.lookup f = none → vfs.lookup f = none
  | _, [], _, _, _ => rfl
  | _, _ :: _, [], e, _ => nomatch e
  | f, (a, v) :: vfs, (b, x) :: fs, e, h => by
    have hab : a = b := (List.cons.inj e).1
    subst hab
    rw [List.lookup_cons] at h ⊢
    split at h
    · cases h
    · exact lookup_none (List.cons.inj e).2 h
def dFld (fds : Str → List Str) (t : DTE) (f : Str) : DTE := fun σ L Q E => t σ L (fun x L1 => ∃ c fs d, IsI L1 x c fs ∧ f ∈ fds c ∧ fs.lookup f = some d ∧ Q d L1) E
theorem conc_fld {t : DTE} {f : Str} (F : Fds G fds) (h : PE X e (tFld G.K (conc G W t) f)) : PE X e (conc G W (dFld fds t f)) :=
  pe_imp h fun vs H Qv ⟨σ, L, Q, E, S, en, q, k, kx⟩ => conc_bind (R := fun x L1 => ∃ c fs d, IsI L1 x c fs ∧ f ∈ fds c ∧ fs.lookup f = some d ∧ Q d L1) S en kx q
    fun v H1 x L1 p S1 e1 en1 kx1 ⟨c, fs, d, hi, hf, hl, q1⟩ => by
      obtain ⟨a, C, dx, vfs, rfl, g, ha, hn, r⟩ := hi.at_ S1 e1
      obtain ⟨v, hv, ed⟩ := lookup_enc hn r hl
      exact ⟨a, C, dx, vfs, v, rfl, ha, F.cls c C f g hf, F.no c C f g hf, hv, (k.back p).here S1 ed q1⟩
/-- d["x"] -/
def dGet (t : DTE) (f : Str) : DTE := fun σ L Q E => t σ L (fun x L1 => ∃ p kvs d, x = .ref p ∧ (p, Ch.dct kvs) ∈ L1 ∧ kvs.lookup f = some d ∧ Q d L1) E
theorem val_enc {O : Addr → Prop} {f : Str} {d : D} : ∀ {vs : List (Key × V)} {ks : List (Str × D)}, vs.map (·.1) = ks.map (fun p => Sum.inr p.1) → EncL G O H (vs.map (·.2)) (ks.map (·.2)) → ks.lookup f = some d → ∃ v, valV vs (Sum.inr f) = some v ∧ Enc G O H v d
  | [], [], _, _, h => nomatch h
  | (a, v) :: vs, (b, x) :: ks, e, r, h => by
    have hab : a = Sum.inr b := (List.cons.inj e).1
    subst hab
    cases r with
    | cons r1 r2 =>
      rw [List.lookup_cons] at h
      unfold valV
      rw [List.find?_cons]
      split at h
      · rename_i hb
        have hb : f = b := by simpa using hb
        subst hb
        cases h
        exact ⟨v, by simp, r1⟩
      · rename_i hb
        have hb : ¬ b = f := fun z => by simp [z] at hb
        have hd : decide ((Sum.inr b : Key) = Sum.inr f) = false := decide_eq_false fun z => hb (Sum.inr.inj z)
        rw [hd]
        exact val_enc (List.cons.inj e).2 r2 h
theorem conc_get {t : DTE} {f : Str} (h : PE X e (tDGet (conc G W t) (tC (.str f)))) : PE X e (conc G W (dGet t f)) :=
  pe_imp h fun vs H Qv ⟨σ, L, Q, E, S, en, q, k, kx⟩ => conc_bind (R := fun x L1 => ∃ p kvs d, x = .ref p ∧ (p, Ch.dct kvs) ∈ L1 ∧ kvs.lookup f = some d ∧ Q d L1) S en kx q
    fun v H1 x L1 p S1 e1 en1 kx1 ⟨a, kvs, d, hx, hm, hl, q1⟩ => by
      subst hx
      cases e1
      cases S1.ok _ _ hm with
      | dct h z n r =>
        obtain ⟨v, hv, ed⟩ := val_enc n r hl
        exact ⟨a, v, rfl, hv ▸ DGet.k (k := Sum.inr f) h, (k.back p).here S1 ed q1⟩
end
end DM
set_option Elab.async false
set_option linter.all false
set_option maxRecDepth 100000
namespace DM
open PySem PySem.Spec PyProof.Rows L2
def oneB (b : Bool) : Int := if b then 1 else 0
def nums (val : Nat → Bool) : Nat → Int := fun i => oneB (val i)
section
variable {prog : Program} {w : World} {A : Around} {E : Value → Shared → Prop} {s : Shared} {l : Addr}
/-- by the library's sum over anything that is walked -/
theorem sum_boolL {its : List Value} {bs : List Bool} {Q : Value → Shared → Prop} (hh : A.handled = none) (hl : s.heap.IsList l its.toArray) (hi : Vals (bs.map V.bl) its)
    (h : ∀ h' tk t', (∀ b o, s.heap.get? b = some o → h'.get? b = some o) → Q (.int (preSum (nums fun i => bs.getD i false) bs.length) t') { s with heap := h', toks := tk }) : wpAny (model prog w) A (call (.builtin "sum") [.ref l]) Q E s := by
  have len : bs.length = its.length := by rw [← hi.length, List.length_map]
  have low : l < s.heap.objs.size := let ⟨_, e, _⟩ := hl; Heap.lt_size e
  have ne : l ≠ s.heap.objs.size := Nat.ne_of_lt low
  refine PySem.call_sum_walkAnyB (wpAny_pyIter_list hl ⟨_, [s.heap.objs.size, l], [s.heap.objs.size], _, its.toArray.size, fun i v => its.toArray[i]? = some v, _, nums fun i => bs.getD i false, rfl, (Walks.list (A := A.in1) hh s.heap.objs.size l ne its.toArray).toS,
    ⟨⟨_, Heap.get?_push_size _ rfl, rfl, rfl⟩, hl.push _⟩, fun b hb => ?_, fun i v e => .inr ⟨bs.getD i false, ?_, rfl⟩, fun s' t' m => ?_⟩)
  · rw [Heap.size_push]
    rcases hb with _ | ⟨_, _ | ⟨_, hb⟩⟩
    · exact Nat.lt_succ_self _
    · exact Nat.lt_succ_of_lt low
    · cases hb
  · have e : its.toArray[i]? = some v := e
    rw [List.getElem?_toArray] at e
    have lt : i < bs.length := len ▸ (List.getElem?_eq_some_iff.mp e).1
    obtain ⟨u, hu, ru⟩ := hi.get (i := i) (x := V.bl (bs.getD i false)) (by simp [lt])
    exact (Option.some.inj (e.symm.trans hu)).trans ru
  · obtain ⟨h', gens, drawn, toks, os⟩ := s'
    obtain rfl : gens = s.gens := m.gens
    obtain rfl : drawn = s.drawn := m.drawn
    obtain rfl : os = s.os := m.os
    rw [List.size_toArray, ← len]
    refine h h' toks t' fun b o e => m.heap b o (fun hb => ?_) (Heap.get?_push_of_some _ e)
    rw [List.mem_singleton.mp hb] at e
    exact Nat.lt_irrefl _ (Heap.lt_size e)
end
def rSumB (K : PySem.W.Frag) : List V → Hp → VK → Prop := fun vs H Q => ∃ (a : Addr) (bs : List Bool), vs = [V.ref a] ∧ SqL K H a (bs.map V.bl) ∧ bs.length ≤ 1000 ∧ Q (.int (preSum (nums fun i => bs.getD i false) bs.length)) H
theorem cr_sumB (hc : X.calm = true) : CallR X (.builtin "sum") (rSumB X.K) := by
  intro pins s σ H vs us Q I r h
  obtain ⟨a, bs, rfl, hs, hn, q⟩ := h
  obtain ⟨its, rv, hl, _⟩ := I.list hs
  rw [Vals.ref1 r]
  exact sum_boolL (I.ok.hd hc) hl.isList rv fun h' tk t' hk => ⟨.int _, H, I.kept hk, ⟨_, rfl⟩, q⟩
end DM
set_option Elab.async false
set_option linter.all false
set_option maxRecDepth 100000
namespace DM
open PySem L2
inductive Sp : HL → Addr → Ch → HL → HL → Prop
  | here {p : Addr} {c : Ch} {B : HL} : Sp ((p, c) :: B) p c [] B
  | app {p : Addr} {c : Ch} {A B : HL} : Sp (A ++ (p, c) :: B) p c A B
  | there {e : Addr × Ch} {L : HL} {p : Addr} {c : Ch} {A B : HL} : Sp L p c A B → Sp (e :: L) p c (e :: A) B
theorem Sp.eq {L A B : HL} {p : Addr} {c : Ch} (h : Sp L p c A B) : L = A ++ (p, c) :: B := by
  induction h with
  | here => rfl
  | app => rfl
  | there _ ih => rw [ih]; rfl
theorem Sp.mem {L A B : HL} {p : Addr} {c : Ch} (h : Sp L p c A B) : (p, c) ∈ L := by
  rw [h.eq]
  exact List.mem_append_right _ (List.mem_cons_self ..)
section
variable {G : Gw} {H H' : Hp} {L L' A B : HL} {vs : Sv} {σ : Sl} {X : Cx} {e : Expr} {W : WX}
theorem Sp.put {p : Addr} {c c' : Ch} (h : Sp L p c A B) (nd : (L.map (·.1)).Nodup) : put L p c' = A ++ (p, c') :: B := by
  rw [h.eq] at nd ⊢
  rw [List.map_append, List.map_cons, List.nodup_append] at nd
  obtain ⟨n1, n2, n3⟩ := nd
  have hA : ∀ M : HL, (∀ x ∈ M.map (·.1), x ≠ p) → M.map (fun e => if e.1 = p then (p, c') else e) = M := fun M hM => by
    induction M with
    | nil => rfl
    | cons x M ih =>
      rw [List.map_cons, if_neg (hM x.1 (List.mem_map.mpr ⟨x, List.mem_cons_self .., rfl⟩)), ih fun y hy => hM y (by rw [List.map_cons]; exact List.mem_cons_of_mem _ hy)]
  unfold DM.put
  rw [List.map_append, List.map_cons, if_pos rfl, hA A fun x hx => n3 x hx p (List.mem_cons_self ..), hA B fun x hx e => (List.nodup_cons.mp n2).1 (by rw [← e]; exact hx)]
/-- the object at p is changed -/
theorem Sat.at_ {p : Addr} {c c' : Ch} {o : HO} (S : Sat G H L) (h : Sp L p c A B) (ok : ChOk G (dom (put L p c')) (upd H p o) p c') :
    Sat G (upd H p o) (A ++ (p, c') :: B) ∧ Pers (dom L) H (dom (A ++ (p, c') :: B)) (upd H p o) := by
  rw [← h.put (c' := c') S.nd]
  exact ⟨S.write ⟨_, h.mem⟩ ok, Pers.write ⟨_, h.mem⟩⟩
theorem wr_lst {p : Addr} {c : Ch} {xs : List V} {ds : List D} {d : D} {v : V} {Q : Qd} {Qv : VK} (S : Sat G H L) (h : Sp L p c A B) (k : Kd G L H Q Qv) (z : xs.length ≤ sizeLine) (r : EncL G (dom L) H xs ds) (e : Enc G (dom L) H v d)
    (q : Q d (A ++ (p, .lst ds) :: B)) : Qv v (upd H p (.lst xs)) := by
  have pp : Pers (dom L) H (dom (put L p (.lst ds))) (upd H p (.lst xs)) := Pers.write ⟨_, h.mem⟩
  obtain ⟨S1, p1⟩ := S.at_ h (c' := .lst ds) (.lst upd_same z (r.pers pp))
  exact k _ _ _ _ p1 S1 (e.pers p1) q
def CallD (G : Gw) (R : List D → HL → Qd → Prop) (r : List V → Hp → VK → Prop) : Prop := ∀ {H : Hp} {L : HL} {xs : List D} {us : List V} {Q : Qd} {Qv : VK}, Sat G H L → EncL G (dom L) H us xs → Kd G L H Q Qv → R xs L Q → r us H Qv
def dCB (R : List D → HL → Qd → Prop) (t : DTA) : DTE := fun σ L Q E => t σ L (fun xs L1 => R xs L1 Q) E
theorem conc_callB {R : List D → HL → Qd → Prop} {r : List V → Hp → VK → Prop} {t : DTA} (hr : CallD G R r) (h : PE X e (tCB r (concA G W t))) : PE X e (conc G W (dCB R t)) :=
  pe_imp h fun vs H Qv ⟨σ, L, Q, E, S, en, q, k, kx⟩ => conc_bindA (R := fun xs L1 => R xs L1 Q) S en kx q fun us H1 xs L1 p S1 e1 en1 kx1 q1 => hr S1 e1 (k.back p) q1
theorem callR_or {f : Value} {r r' : List V → Hp → VK → Prop} (h : CallR X f r) (h' : CallR X f r') : CallR X f (fun xs H Q => r xs H Q ∨ r' xs H Q) := fun pins s σ H xs us Q I rx q => q.elim (h pins s σ H xs us Q I rx) (h' pins s σ H xs us Q I rx)
theorem EncL.inv1 {O : Addr → Prop} {us : List V} {x : D} (h : EncL G O H us [x]) : ∃ v, us = [v] ∧ Enc G O H v x := by
  cases h with
  | cons e r =>
    cases r
    exact ⟨_, rfl, e⟩
theorem EncL.inv2 {O : Addr → Prop} {us : List V} {x y : D} (h : EncL G O H us [x, y]) : ∃ v u, us = [v, u] ∧ Enc G O H v x ∧ Enc G O H u y := by
  cases h with
  | cons e r =>
    obtain ⟨u, rfl, e2⟩ := r.inv1
    exact ⟨_, _, rfl, e, e2⟩
/-- len -/
inductive oLen : List D → HL → Qd → Prop
  | seq {x : D} {ds : List D} {L : HL} {Q : Qd} : IsS L x ds → Q (.int (ds.length : Int)) L → oLen [x] L Q
  | str {z : Str} {L : HL} {Q : Qd} : Q (.int (z.length : Int)) L → oLen [.str z] L Q
def vLen (K : PySem.W.Frag) : List V → Hp → VK → Prop := fun xs H Q => (∃ p ys, xs = [.ref p] ∧ (SqL K H p ys ∨ SqT K H p ys) ∧ Q (.int ys.length) H) ∨ ∃ z, xs = [.str z] ∧ z.length ≤ sizeLine ∧ Q (.int z.length) H
theorem call_vLen : CallR X (.builtin "len") (vLen X.K) := callR_or call_len_seq call_len_str
theorem cd_len : CallD G oLen (vLen G.K) := fun S ev k h => by
  cases h with
  | seq h1 q =>
    obtain ⟨v, rfl, e⟩ := ev.inv1
    obtain ⟨a, xs, rfl, hs, z, r⟩ := h1.at_ S e
    rw [← r.len] at q
    exact .inl ⟨a, xs, rfl, hs, k.here S (.int _) q⟩
  | str q =>
    obtain ⟨v, rfl, e⟩ := ev.inv1
    cases e with
    | str z => exact .inr ⟨_, rfl, z, k.here S (.int _) q⟩
/-- the signs of a text, each a text -/
def signs (x : Str) : List D := x.cps.toList.map fun c => .str ⟨#[c]⟩
theorem call_list_txt (hc : X.calm = true) : CallR X (.type "list") (fun xs H Q => ∃ x : Str, xs = [.str x] ∧ x.length ≤ sizeLine ∧ ∀ p, H p = none → Q (.ref p) (upd H p (.lst (x.cps.toList.map fun c => V.str ⟨#[c]⟩)))) := by
  intro pins s σ H xs us Q I r h
  obtain ⟨x, rfl, hz, q⟩ := h
  obtain ⟨u, rfl, t, rfl⟩ := vals1 r
  refine PySem.call_list_str (I.ok.hd hc) x t (hn := hz) fun h' tk acc' c' hkeep hS hacc => ?_
  refine ⟨.ref s.heap.objs.size, upd H s.heap.objs.size (.lst (x.cps.toList.map fun c => V.str ⟨#[c]⟩)), I.laid hkeep (Nat.le_refl _) (show ObjOk X.prog X.w _ _ _ (.lst _) from ⟨?_, acc'.toList, c', ?_, ?_⟩), rfl, q _ (I.hok.fresh (Nat.le_refl _))⟩
  · rw [List.length_map, Array.length_toList]
    exact hz
  · refine vals_of_at (by rw [List.length_map, Array.length_toList, Array.length_toList, hacc.1]) fun j y w h1 h2 => ?_
    obtain ⟨c, t2, hk, rfl⟩ := hacc.2 j w (by rw [← Array.getElem?_toList]; exact h2)
    rw [List.getElem?_map, Array.getElem?_toList, hk] at h1
    cases h1
    exact ⟨t2, rfl⟩
  · rw [Array.toArray_toList]
    exact hS
inductive oList : List D → HL → Qd → Prop
  | seq {x : D} {ds : List D} {L : HL} {Q : Qd} : IsS L x ds → RetL ds L Q → oList [x] L Q
  | str {z : Str} {L : HL} {Q : Qd} : RetL (signs z) L Q → oList [.str z] L Q
def vList (K : PySem.W.Frag) : List V → Hp → VK → Prop := fun xs H Q => (∃ p ys, xs = [.ref p] ∧ (SqL K H p ys ∨ SqT K H p ys) ∧ ∀ l, H l = none → Q (.ref l) (upd H l (.lst ys))) ∨
  ∃ x : Str, xs = [.str x] ∧ x.length ≤ sizeLine ∧ ∀ p, H p = none → Q (.ref p) (upd H p (.lst (x.cps.toList.map fun c => V.str ⟨#[c]⟩)))
theorem call_vList (hc : X.calm = true) : CallR X (.type "list") (vList X.K) := callR_or call_list_of (call_list_txt hc)
theorem EncL.signs {O : Addr → Prop} : ∀ l : List Nat, EncL G O H (l.map fun c => V.str ⟨#[c]⟩) (l.map fun c => D.str ⟨#[c]⟩)
  | [] => .nil
  | _ :: l => .cons (.str one_le) (EncL.signs l)
theorem cd_list : CallD G oList (vList G.K) := fun S ev k h => by
  cases h with
  | seq h1 q =>
    obtain ⟨v, rfl, e⟩ := ev.inv1
    obtain ⟨a, xs, rfl, hs, z, r⟩ := h1.at_ S e
    exact .inl ⟨a, xs, rfl, hs, retL_ok S z r k q⟩
  | str q =>
    obtain ⟨v, rfl, e⟩ := ev.inv1
    cases e with
    | str z => exact .inr ⟨_, rfl, z, retL_ok S (by rw [List.length_map, Array.length_toList]; exact z) (EncL.signs _) k q⟩
/-- tuple -/
theorem call_tuple_txt (hc : X.calm = true) : CallR X (.type "tuple") (fun xs H Q => ∃ x : Str, xs = [.str x] ∧ x.length ≤ sizeLine ∧ ∀ p, H p = none → Q (.ref p) (upd H p (.tup (x.cps.toList.map fun c => V.str ⟨#[c]⟩)))) := by
  intro pins s σ H xs us Q I r h
  obtain ⟨x, rfl, hz, q⟩ := h
  obtain ⟨u, rfl, t, rfl⟩ := vals1 r
  refine PySem.call_tuple_str (I.ok.hd hc) x t (hsz := hz) fun h' tk acc kp hacc => ?_
  obtain ⟨its, rfl⟩ : ∃ its : List Value, acc = its.toArray := ⟨acc.toList, by rw [Array.toArray_toList]⟩
  have I1 : Inv X pins σ H { s with heap := h', toks := tk } := I.kept (t' := tk) kp
  refine ⟨.ref h'.objs.size, upd H h'.objs.size (.tup (x.cps.toList.map fun c => V.str ⟨#[c]⟩)), I1.laid (t' := tk) (fun b o e => Heap.get?_push_of_some _ e) (Nat.le_refl _) (show ObjOk X.prog X.w _ _ _ (.tup _) from ⟨?_, its, ?_, PyProof.Rows.IsTup.new _ _⟩), rfl, q _ (I1.hok.fresh (Nat.le_refl _))⟩
  · rw [List.length_map, Array.length_toList]
    exact hz
  · refine vals_of_at (by rw [List.length_map, Array.length_toList]; have := hacc.1; rw [List.size_toArray] at this; exact this.symm) fun j y w h1 h2 => ?_
    obtain ⟨c, t2, hk, rfl⟩ := hacc.2 j w (by rw [List.getElem?_toArray]; exact h2)
    rw [List.getElem?_map, Array.getElem?_toList, hk] at h1
    cases h1
    exact ⟨t2, rfl⟩
inductive oTuple : List D → HL → Qd → Prop
  | lst {x : D} {ds : List D} {L : HL} {Q : Qd} : IsL L x ds → Q (.tup ds) L → oTuple [x] L Q
  | tup {ds : List D} {L : HL} {Q : Qd} : Q (.tup ds) L → oTuple [.tup ds] L Q
  | str {z : Str} {L : HL} {Q : Qd} : Q (.tup (signs z)) L → oTuple [.str z] L Q
def vTuple (K : PySem.W.Frag) : List V → Hp → VK → Prop := fun xs H Q => (∃ p ys, xs = [.ref p] ∧ ((SqL K H p ys ∧ ∀ l, H l = none → Q (.ref l) (upd H l (.tup ys))) ∨ (SqT K H p ys ∧ Q (.ref p) H))) ∨
  ∃ x : Str, xs = [.str x] ∧ x.length ≤ sizeLine ∧ ∀ p, H p = none → Q (.ref p) (upd H p (.tup (x.cps.toList.map fun c => V.str ⟨#[c]⟩)))
theorem call_vTuple (hc : X.calm = true) : CallR X (.type "tuple") (vTuple X.K) := callR_or call_tuple_of (call_tuple_txt hc)
theorem cd_tuple : CallD G oTuple (vTuple G.K) := fun S ev k h => by
  cases h with
  | lst h1 q =>
    obtain ⟨v, rfl, e⟩ := ev.inv1
    obtain ⟨a, xs, rfl, hs, z, r⟩ := h1.at_ S e
    exact .inl ⟨a, xs, rfl, .inl ⟨.inl (.inl hs), tup_ok S z r k q⟩⟩
  | tup q =>
    obtain ⟨v, rfl, e⟩ := ev.inv1
    cases e with
    | tup t z r => exact .inl ⟨_, _, rfl, .inr ⟨t.sq, k.here S (.tup t z r) q⟩⟩
  | str q =>
    obtain ⟨v, rfl, e⟩ := ev.inv1
    cases e with
    | str z => exact .inr ⟨_, rfl, z, tup_ok S (by rw [List.length_map, Array.length_toList]; exact z) (EncL.signs _) k q⟩
/-- all, any -/
inductive oAll (f : List Bool → Bool) : List D → HL → Qd → Prop
  | mk {x : D} {bs : List Bool} {L : HL} {Q : Qd} : IsL L x (bs.map D.bl) → Q (.bl (f bs)) L → oAll f [x] L Q
def vAll (K : PySem.W.Frag) (f : List Bool → Bool) : List V → Hp → VK → Prop := fun vs H Q => ∃ (a : Addr) (bs : List Bool), vs = [V.ref a] ∧ SqL K H a (bs.map V.bl) ∧ Q (.bl (f bs)) H
theorem cd_all {f : List Bool → Bool} : CallD G (oAll f) (vAll G.K f) := fun S ev k h => by
  cases h with
  | mk h1 q =>
    obtain ⟨v, rfl, e⟩ := ev.inv1
    obtain ⟨a, xs, rfl, hs, z, r⟩ := h1.at_ S e
    rw [r.bls] at hs
    exact ⟨a, _, rfl, .inl (.inl hs), k.here S (.bl _) q⟩
/-- sum of ints; of at most a thousand bools -/
inductive oSum : List D → HL → Qd → Prop
  | mk {x : D} {ns : List Int} {L : HL} {Q : Qd} : IsL L x (ns.map D.int) → Q (.int ns.sum) L → oSum [x] L Q
  | bls {x : D} {bs : List Bool} {L : HL} {Q : Qd} : IsL L x (bs.map D.bl) → bs.length ≤ 1000 → Q (.int (preSum (nums fun i => bs.getD i false) bs.length)) L → oSum [x] L Q
def vSum (K : PySem.W.Frag) : List V → Hp → VK → Prop := fun vs H Q => rSum K vs H Q ∨ rSumB K vs H Q
theorem cd_sum : CallD G oSum (vSum G.K) := fun S ev k h => by
  cases h with
  | mk h1 q =>
    obtain ⟨v, rfl, e⟩ := ev.inv1
    obtain ⟨a, xs, rfl, hs, z, r⟩ := h1.at_ S e
    rw [r.ints] at hs
    exact .inl ⟨a, _, rfl, .inl (.inl hs), k.here S (.int _) q⟩
  | bls h1 hn q =>
    obtain ⟨v, rfl, e⟩ := ev.inv1
    obtain ⟨a, xs, rfl, hs, z, r⟩ := h1.at_ S e
    rw [r.bls] at hs
    exact .inr ⟨a, _, rfl, .inl (.inl hs), hn, k.here S (.int _) q⟩
/-- max, min of two, or of a list; abs; int; divmod; str of an int -/
inductive oMax : List D → HL → Qd → Prop
  | two {i j : Int} {L : HL} {Q : Qd} : Q (.int (if j > i then j else i)) L → oMax [.int i, .int j] L Q
  | lst {x : D} {ns : List Int} {L : HL} {Q : Qd} : IsL L x (ns.map D.int) → 0 < ns.length → (∀ m, m ∈ ns → (∀ y, y ∈ ns → y ≤ m) → Q (.int m) L) → oMax [x] L Q
def vMax (K : PySem.W.Frag) : List V → Hp → VK → Prop := fun xs H Q => (∃ i j, xs = [.int i, .int j] ∧ Q (.int (if j > i then j else i)) H) ∨ rMax K xs H Q
theorem cd_max : CallD G oMax (vMax G.K) := fun S ev k h => by
  cases h with
  | two q =>
    obtain ⟨v, u, rfl, e1, e2⟩ := ev.inv2
    cases e1
    cases e2
    exact .inl ⟨_, _, rfl, k.here S (.int _) q⟩
  | lst h1 h2 q =>
    obtain ⟨v, rfl, e⟩ := ev.inv1
    obtain ⟨a, xs, rfl, hs, z, r⟩ := h1.at_ S e
    rw [r.ints] at hs
    exact .inr ⟨a, _, rfl, .inl (.inl hs), h2, fun m hm hy => k.here S (.int _) (q m hm hy)⟩
inductive oMin : List D → HL → Qd → Prop
  | two {i j : Int} {L : HL} {Q : Qd} : Q (.int (if j < i then j else i)) L → oMin [.int i, .int j] L Q
theorem cd_min : CallD G oMin (fun xs H Q => ∃ i j, xs = [.int i, .int j] ∧ Q (.int (if j < i then j else i)) H) := fun S ev k h => by
  cases h with
  | two q =>
    obtain ⟨v, u, rfl, e1, e2⟩ := ev.inv2
    cases e1
    cases e2
    exact ⟨_, _, rfl, k.here S (.int _) q⟩
inductive oAbs : List D → HL → Qd → Prop
  | mk {i : Int} {L : HL} {Q : Qd} : Q (.int (if i < 0 then -i else i)) L → oAbs [.int i] L Q
theorem cd_abs : CallD G oAbs (fun xs H Q => ∃ i, xs = [.int i] ∧ Q (.int (if i < 0 then -i else i)) H) := fun S ev k h => by
  cases h with
  | mk q =>
    obtain ⟨v, rfl, e⟩ := ev.inv1
    cases e
    exact ⟨_, rfl, k.here S (.int _) q⟩
inductive oInt : List D → HL → Qd → Prop
  | int {i : Int} {L : HL} {Q : Qd} : Q (.int i) L → oInt [.int i] L Q
  | bl {b : Bool} {L : HL} {Q : Qd} : Q (.int (if b then 1 else 0)) L → oInt [.bl b] L Q
  | str {z : Str} {n : Int} {L : HL} {Q : Qd} : PySem.intText? z = some n → z.length ≤ 640 → Q (.int n) L → oInt [.str z] L Q
def vInt : List V → Hp → VK → Prop := fun xs H Q => ((∃ i, xs = [.int i] ∧ Q (.int i) H) ∨ ∃ k, xs = [.bl k] ∧ Q (.int (if k then 1 else 0)) H) ∨ ∃ a n, xs = [.str a] ∧ PySem.intText? a = some n ∧ a.length ≤ 640 ∧ Q (.int n) H
theorem call_vInt : CallR X (.type "int") vInt := callR_or call_int1 call_int_str
theorem cd_int : CallD G oInt vInt := fun S ev k h => by
  cases h with
  | int q =>
    obtain ⟨v, rfl, e⟩ := ev.inv1
    cases e
    exact .inl (.inl ⟨_, rfl, k.here S (.int _) q⟩)
  | bl q =>
    obtain ⟨v, rfl, e⟩ := ev.inv1
    cases e
    exact .inl (.inr ⟨_, rfl, k.here S (.int _) q⟩)
  | str h1 h2 q =>
    obtain ⟨v, rfl, e⟩ := ev.inv1
    cases e
    exact .inr ⟨_, _, rfl, h1, h2, k.here S (.int _) q⟩
inductive oDivmod : List D → HL → Qd → Prop
  | mk {i j : Int} {L : HL} {Q : Qd} : CDivP i j → Q (.tup [.int (i / j), .int (i % j)]) L → oDivmod [.int i, .int j] L Q
theorem cd_divmod : CallD G oDivmod (fun xs H Q => ∃ i j, xs = [.int i, .int j] ∧ CDivP i j ∧ ∀ p, H p = none → Q (.ref p) (upd H p (.tup [.int (i / j), .int (i % j)]))) := fun S ev k h => by
  cases h with
  | mk c q =>
    obtain ⟨v, u, rfl, e1, e2⟩ := ev.inv2
    cases e1
    cases e2
    exact ⟨_, _, rfl, c, tup_ok S (by show 2 ≤ sizeLine; decide) (.cons (.int _) (.cons (.int _) .nil)) k q⟩
inductive oStr : List D → HL → Qd → Prop
  | mk {i : Int} {L : HL} {Q : Qd} : i.natAbs.log2 < 1920 → (Str.ofString (toString i)).length ≤ sizeLine → Q (.str (toString i)) L → oStr [.int i] L Q
theorem cd_str : CallD G oStr (fun xs H Q => ∃ i, xs = [.int i] ∧ i.natAbs.log2 < 1920 ∧ Q (.str (toString i)) H) := fun S ev k h => by
  cases h with
  | mk c z q =>
    obtain ⟨v, rfl, e⟩ := ev.inv1
    cases e
    exact ⟨_, rfl, c, k.here S (.str z) q⟩
def tyD : D → Option String
  | .non => some "NoneType"
  | .bl _ => some "bool"
  | .int _ => some "int"
  | .str _ => some "str"
  | .tup _ => some "tuple"
  | .lst _ => some "list"
  | .frz _ => some "list"
  | _ => none
inductive TyD (L : HL) : D → String → Prop
  | of {x : D} {T : String} : tyD x = some T → TyD L x T
  | own {p : Addr} {ds : List D} : (p, Ch.lst ds) ∈ L → TyD L (.ref p) "list"
  | dct {p : Addr} {ds : List (Str × D)} : (p, Ch.dct ds) ∈ L → TyD L (.ref p) "dict"
theorem TyD.at_ {x : D} {T : String} {v : V} (h : TyD L x T) (S : Sat G H L) (e : Enc G (dom L) H v x) : TyX G.K H v (.type T) := by
  cases h with
  | of h =>
    cases e with
    | non => cases h; exact .base .non
    | bl b => cases h; exact .base (.bl _)
    | int b => cases h; exact .base (.int _)
    | str b => cases h; exact .base (.str _)
    | ty n => cases h
    | ref n => cases h
    | tup t z r =>
      cases h
      rcases t with ⟨_, t⟩ | t
      · exact .base (.tup t)
      · obtain ⟨o, its, n, h1, h2, _⟩ := t.resolve_left no_rd
        exact .kTuple h1 h2
    | lst n t z r => cases h; exact .base (.lst t)
    | frz t z =>
      cases h
      rcases t with ⟨_, t | ⟨o, t⟩⟩ | t
      · exact .base (.lst t)
      · exact .base (.frz t)
      · obtain ⟨o, its, n, h1, h2, _⟩ := t.resolve_left no_rd
        exact .kList h1 h2
    | ins => cases h
    | exc => cases h
    | exa => cases h
    | lam => cases h
  | own m =>
    cases e
    cases S.ok _ _ m with
    | lst h => exact .base (.lst h)
  | dct m =>
    cases e
    cases S.ok _ _ m with
    | dct h => exact .base (.dK h)
def subB (a b : String) : Bool := a == b || (a == "bool" && b == "int")
def tyNames : List String := ["NoneType", "bool", "int", "str", "tuple", "list", "dict"]
theorem kit_all : (tyNames.all fun a => ["int", "bool", "str", "list", "tuple"].all fun b => decide (kitB a b = some (subB a b))) = true := by decide +kernel
theorem tyD_in {x : D} {T : String} (h : TyD L x T) : T ∈ tyNames := by
  cases h with
  | of h => cases x <;> cases h <;> decide
  | own => decide
  | dct => decide
theorem kit_sub {K : PySem.W.Frag} {a b : String} (ha : a ∈ tyNames) (hb : b ∈ ["int", "bool", "str", "list", "tuple"]) : PySem.W.kitOne K (.type a) (.type b) = some (subB a b) :=
  kit_ty (of_decide_eq_true (List.all_eq_true.mp (List.all_eq_true.mp kit_all a ha) b hb))
theorem kit_any {K : PySem.W.Frag} {a : String} (ha : a ∈ tyNames) : ∀ bs : List String, (∀ b ∈ bs, b ∈ ["int", "bool", "str", "list", "tuple"]) → PySem.W.kitAny K (.type a) (bs.map Value.type) = some (bs.any (subB a))
  | [], _ => rfl
  | b :: bs, h => by
    have h1 := kit_sub (K := K) ha (h b (List.mem_cons_self ..))
    have h2 := kit_any (K := K) ha bs fun c m => h c (List.mem_cons_of_mem _ m)
    show (match PySem.W.kitOne K (.type a) (.type b) with
      | some true => some true
      | some false => PySem.W.kitAny K (.type a) (bs.map Value.type)
      | none => none) = _
    rw [h1, List.any_cons]
    cases subB a b with
    | true => rfl
    | false => exact h2
inductive oIsi : List D → HL → Qd → Prop
  | one {x : D} {T n : String} {L : HL} {Q : Qd} : TyD L x T → n ∈ ["int", "bool", "str", "list", "tuple"] → Q (.bl (subB T n)) L → oIsi [x, .ty n] L Q
  | many {x : D} {T : String} {ns : List String} {L : HL} {Q : Qd} : TyD L x T → (∀ b ∈ ns, b ∈ ["int", "bool", "str", "list", "tuple"]) → Q (.bl (ns.any (subB T))) L → oIsi [x, .tup (ns.map D.ty)] L Q
def vIsi (K : PySem.W.Frag) : List V → Hp → VK → Prop := fun xs H Q => rIsi K xs H Q ∨ rIsiT K xs H Q ∨ rIsiK K xs H Q
theorem call_vIsi : CallR X (.builtin "isinstance") (vIsi X.K) := callR_or call_isi (callR_or call_isiT call_isiK)
theorem EncL.tys {O : Addr → Prop} : ∀ {vs : List V} {ns : List String}, EncL G O H vs (ns.map D.ty) → vs = ns.map V.ty
  | _, [], .nil => rfl
  | _, n :: ns, .cons h r => by
    cases h
    rw [r.tys]
    rfl
theorem paired_ty : ∀ ns : List String, Paired ClsV (ns.map V.ty) (ns.map Value.type)
  | [] => .nil
  | n :: ns => .cons (.ty n) (paired_ty ns)
theorem vals_ty : ∀ {ns : List String} {us : List Value}, Vals (ns.map V.ty) us → us = ns.map Value.type
  | [], _, .nil => rfl
  | _ :: _, _, .cons r t => by
    obtain rfl := r
    rw [vals_ty t]
    rfl
theorem cd_isi : CallD G oIsi (vIsi G.K) := fun S ev k h => by
  cases h with
  | one t n q =>
    obtain ⟨v, u, rfl, e1, e2⟩ := ev.inv2
    cases e2
    exact .inl ⟨_, _, _, _, _, rfl, .ty _, t.at_ S e1, kit_sub (tyD_in t) n, k.here S (.bl _) q⟩
  | @many x T ns _ _ t n q =>
    obtain ⟨v, u, rfl, e1, e2⟩ := ev.inv2
    cases e2 with
    | tup tt z r =>
      rw [r.tys] at tt
      rcases tt with ⟨_, tt⟩ | tt
      · exact .inr (.inl ⟨_, _, _, _, _, _, rfl, tt, paired_ty ns, t.at_ S e1, kit_any (tyD_in t) ns n, k.here S (.bl _) q⟩)
      · obtain ⟨⟨oc, od, oda, os⟩, its, m, h1, h2, h3, _, h5⟩ := tt.resolve_left no_rd
        simp only at h2 h3
        subst h2 h3
        have e3 : its = (ns.map Value.type).toArray := by
          rw [← vals_ty h5]
        subst e3
        exact .inr (.inr ⟨_, _, _, _, _, _, _, _, rfl, h1, t.at_ S e1, kit_any (tyD_in t) ns n, k.here S (.bl _) q⟩)
end
end DM
set_option Elab.async false
set_option linter.all false
set_option maxRecDepth 100000
namespace DM
open PySem L2
section
variable {G : Gw} {H H' : Hp} {L L' A B : HL} {vs : Sv} {σ : Sl} {X : Cx} {e : Expr} {W : WX}
inductive TyM (L : HL) : String → D → Prop
  | lst {x : D} {ds : List D} : IsL L x ds → TyM L "list" x
  | str (z : Str) : TyM L "str" (.str z)
theorem TyM.at_ {T : String} {x : D} {v : V} (h : TyM L T x) (S : Sat G H L) (ev : Enc G (dom L) H v x) : tyV G.K T v H := by
  cases h with
  | lst h =>
    obtain ⟨a, xs, rfl, e, z, r⟩ := h.at_ S ev
    exact .inl ⟨rfl, _, .inl (.inl e)⟩
  | str z =>
    cases ev
    rfl
def MtD (G : Gw) (R : D → List D → HL → Qd → Prop) (r : V → List V → Hp → VK → Prop) : Prop := ∀ {H : Hp} {L : HL} {x : D} {xs : List D} {v : V} {us : List V} {Q : Qd} {Qv : VK},
  Sat G H L → Enc G (dom L) H v x → EncL G (dom L) H us xs → Kd G L H Q Qv → R x xs L Q → r v us H Qv
def dBM (T : String) (R : D → List D → HL → Qd → Prop) (to : DTE) (t : DTA) : DTE := fun σ L Q E => to σ L (fun x L1 => TyM L1 T x ∧ t σ L1 (fun xs L2 => R x xs L2 Q) E) E
theorem conc_bm {T : String} {R : D → List D → HL → Qd → Prop} {r : V → List V → Hp → VK → Prop} {to : DTE} {t : DTA} (hr : MtD G R r) (h : PE X e (tBM G.K T r (conc G W to) (concA G W t))) : PE X e (conc G W (dBM T R to t)) :=
  pe_imp h fun vs H Qv ⟨σ, L, Q, E, S, en, q, k, kx⟩ => conc_bind (R := fun x L1 => TyM L1 T x ∧ t σ L1 (fun xs L2 => R x xs L2 Q) E) S en kx q fun v H1 x L1 p S1 e1 en1 kx1 ⟨q0, q1⟩ =>
    ⟨q0.at_ S1 e1, conc_bindA (R := fun xs L2 => R x xs L2 Q) S1 en1 kx1 q1 fun us H2 xs L2 p2 S2 e2 en2 kx2 q2 => hr S2 (e1.pers p2) e2 ((k.back p).back p2) q2⟩
theorem conc_bm0 {T : String} {R : D → List D → HL → Qd → Prop} {r : V → List V → Hp → VK → Prop} {to : DTE} (hr : MtD G R r) (h : PE X e (tBM0 G.K T r (conc G W to))) : PE X e (conc G W (dBM T R to dNil)) :=
  pe_imp h fun vs H Qv ⟨σ, L, Q, E, S, en, q, k, kx⟩ => conc_bind (R := fun x L1 => TyM L1 T x ∧ dNil σ L1 (fun xs L2 => R x xs L2 Q) E) S en kx q fun v H1 x L1 p S1 e1 en1 kx1 ⟨q0, q1⟩ =>
    ⟨q0.at_ S1 e1, hr S1 e1 .nil (k.back p) q1⟩
theorem mtR_or {id : String} {r r' : V → List V → Hp → VK → Prop} (h : MtR X id r) (h' : MtR X id r') : MtR X id (fun x xs H Q => r x xs H Q ∨ r' x xs H Q) :=
  fun pins s σ H x xs v us Q I rx rs q => q.elim (h pins s σ H x xs v us Q I rx rs) (h' pins s σ H x xs v us Q I rx rs)
theorem EncL.inv0 {O : Addr → Prop} {us : List V} (h : EncL G O H us []) : us = [] := by
  cases h
  rfl
/-- the owned list at p, opened -/
theorem own_lst {p : Addr} {ds : List D} (S : Sat G H L) (h : Sp L p (.lst ds) A B) : ∃ xs, H p = some (.lst xs) ∧ xs.length ≤ sizeLine ∧ EncL G (dom L) H xs ds := by
  cases S.ok _ _ h.mem with
  | lst h z r => exact ⟨_, h, z, r⟩
inductive oAppend : D → List D → HL → Qd → Prop
  | mk {p : Addr} {ds : List D} {d : D} {L A B : HL} {Q : Qd} : Sp L p (.lst ds) A B → ds.length < sizeLine → Q .non (A ++ (p, .lst (ds ++ [d])) :: B) → oAppend (.ref p) [d] L Q
theorem md_append : MtD G oAppend rAppend := fun S ev eu k h => by
  cases h with
  | mk sp z q =>
    cases ev
    obtain ⟨v, rfl, ed⟩ := eu.inv1
    obtain ⟨xs, hx, zx, r⟩ := own_lst S sp
    exact ⟨_, xs, v, rfl, rfl, hx, by rw [r.len]; exact z, wr_lst S sp k (by rw [List.length_append, r.len]; exact z) (r.append (.one ed)) .non q⟩
inductive oExtend : D → List D → HL → Qd → Prop
  | mk {p : Addr} {x : D} {ds es : List D} {L A B : HL} {Q : Qd} : Sp L p (.lst ds) A B → IsL L x es → ds.length + es.length ≤ sizeLine → Q .non (A ++ (p, .lst (ds ++ es)) :: B) → oExtend (.ref p) [x] L Q
theorem md_extend : MtD G oExtend rExtend := fun S ev eu k h => by
  cases h with
  | mk sp hl z q =>
    cases ev
    obtain ⟨v, rfl, ed⟩ := eu.inv1
    obtain ⟨xs, hx, zx, r⟩ := own_lst S sp
    obtain ⟨b, ys, rfl, e2, z2, r2⟩ := hl.at_ S ed
    exact ⟨_, b, xs, ys, rfl, rfl, hx, e2, by rw [r.len, r2.len]; exact z, wr_lst S sp k (by rw [List.length_append, r.len, r2.len]; exact z) (r.append r2) .non q⟩
theorem EncL.dropLast {O : Addr → Prop} {xs : List V} {ds : List D} (r : EncL G O H xs ds) : EncL G O H xs.dropLast ds.dropLast := by
  rw [List.dropLast_eq_take, List.dropLast_eq_take, r.len]
  exact r.take _
inductive oPop : D → List D → HL → Qd → Prop
  | last {p : Addr} {ds : List D} {d : D} {L A B : HL} {Q : Qd} : Sp L p (.lst ds) A B → ds[ds.length - 1]? = some d → Q d (A ++ (p, .lst ds.dropLast) :: B) → oPop (.ref p) [] L Q
  | at_ {p : Addr} {ds : List D} {d : D} {k : Nat} {L A B : HL} {Q : Qd} : Sp L p (.lst ds) A B → ds[k]? = some d → Q d (A ++ (p, .lst (ds.eraseIdx k)) :: B) → oPop (.ref p) [.int (k : Int)] L Q
def vPop : V → List V → Hp → VK → Prop := fun x xs H Q => rPop x xs H Q ∨ rPopAt x xs H Q
theorem sq_nat {k n : Nat} (h : k < n) : seqIndex? (k : Int) n = some k := by
  rw [seqIndex_of (by omega) (by omega)]
  rfl
theorem md_pop : MtD G oPop vPop := fun S ev eu k h => by
  cases h with
  | last sp hd q =>
    cases ev
    rw [eu.inv0]
    obtain ⟨xs, hx, zx, r⟩ := own_lst S sp
    obtain ⟨v, hv, ed⟩ := r.getD hd
    exact .inl ⟨_, xs, v, rfl, rfl, hx, by rw [r.len]; exact hv, wr_lst S sp k (by rw [List.length_dropLast]; omega) r.dropLast ed q⟩
  | @at_ p ds d j _ _ _ _ sp hd q =>
    cases ev
    obtain ⟨v, rfl, ei⟩ := eu.inv1
    cases ei
    obtain ⟨xs, hx, zx, r⟩ := own_lst S sp
    obtain ⟨v, hv, ed⟩ := r.getD hd
    have hj : j < xs.length := (List.getElem?_eq_some_iff.mp hv).1
    have hs : j < 2 ^ 24 := Nat.lt_of_lt_of_le hj zx
    exact .inr ⟨_, xs, _, j, v, rfl, rfl, hx, by omega, by omega, sq_nat hj, hv, wr_lst S sp k (by rw [List.length_eraseIdx]; split <;> omega) (r.eraseIdx j) ed q⟩
inductive oInsert : D → List D → HL → Qd → Prop
  | mk {p : Addr} {ds : List D} {d : D} {i : Nat} {L A B : HL} {Q : Qd} : Sp L p (.lst ds) A B → ds.length < sizeLine → i < 2 ^ 60 → Q .non (A ++ (p, .lst (ds.take i ++ [d] ++ ds.drop i)) :: B) → oInsert (.ref p) [.int (i : Int), d] L Q
def vInsert : V → List V → Hp → VK → Prop := fun x vs H Q => ∃ (l : Addr) (xs : List V) (i : Int) (y : V), x = .ref l ∧ vs = [.int i, y] ∧ H l = some (.lst xs) ∧ xs.length < sizeLine ∧ 0 ≤ i ∧ i < 2 ^ 63 ∧
    Q .non (upd H l (.lst (xs.take i.toNat ++ [y] ++ xs.drop i.toNat)))
theorem md_insert : MtD G oInsert vInsert := fun S ev eu k h => by
  cases h with
  | mk sp z hi q =>
    cases ev
    obtain ⟨v, u, rfl, ei, ed⟩ := eu.inv2
    cases ei
    obtain ⟨xs, hx, zx, r⟩ := own_lst S sp
    refine ⟨_, xs, _, u, rfl, rfl, hx, by rw [r.len]; exact z, by omega, by omega, ?_⟩
    rw [Int.toNat_natCast]
    exact wr_lst S sp k (by
      have := r.len
      rw [List.length_append, List.length_append, List.length_take, List.length_drop, List.length_singleton]
      omega) (((r.take _).append (.one ed)).append (r.drop _)) .non q
inductive oReverse : D → List D → HL → Qd → Prop
  | mk {p : Addr} {ds : List D} {L A B : HL} {Q : Qd} : Sp L p (.lst ds) A B → Q .non (A ++ (p, .lst ds.reverse) :: B) → oReverse (.ref p) [] L Q
theorem md_reverse : MtD G oReverse rReverse := fun S ev eu k h => by
  cases h with
  | mk sp q =>
    cases ev
    rw [eu.inv0]
    obtain ⟨xs, hx, zx, r⟩ := own_lst S sp
    exact ⟨_, xs, rfl, rfl, hx, wr_lst S sp k (by rw [List.length_reverse]; exact zx) r.reverse .non q⟩
inductive oClear : D → List D → HL → Qd → Prop
  | mk {p : Addr} {ds : List D} {L A B : HL} {Q : Qd} : Sp L p (.lst ds) A B → Q .non (A ++ (p, .lst []) :: B) → oClear (.ref p) [] L Q
theorem md_clear : MtD G oClear rClear := fun S ev eu k h => by
  cases h with
  | mk sp q =>
    cases ev
    rw [eu.inv0]
    obtain ⟨xs, hx, zx, r⟩ := own_lst S sp
    exact ⟨_, xs, rfl, rfl, hx, wr_lst S sp k (Nat.zero_le _) .nil .non q⟩
/-- xs.index(y), flat items -/
inductive oIndex : D → List D → HL → Qd → Prop
  | mk {x y z : D} {ds : List D} {j : Nat} {L : HL} {Q : Qd} : IsL L x ds → flatD y = true → ds.all flatD = true → ds[j]? = some z → eqD z y = true → (∀ m, m < j → ∀ u, ds[m]? = some u → eqD u y = false) → Q (.int (j : Int)) L → oIndex x [y] L Q
  | data {x y : D} {ds : List D} {d z : PyData} {ys : List PyData} {j : Nat} {L : HL} {Q : Qd} : IsL L x ds → PyL L ds ys → Py L y d → SeqAt.shaped (.list ys) = true → SeqAt.shaped d = true → ys[j]? = some z → PyData.eqv z d = true → (∀ (m : Nat) (z' : PyData), m < j → ys[m]? = some z' → PyData.eqv z' d = false) → Q (.int (j : Int)) L → oIndex x [y] L Q
theorem md_index : MtD G oIndex (fun x xs H Q => rIndex G.K x xs H Q ∨ rIndexD G.K x xs H Q) := fun S ev eu k h => by
  cases h with
  | @data y ds d z ys j _ _ hl hp hy s1 s2 hz hzd hno q =>
    obtain ⟨v, rfl, ey⟩ := eu.inv1
    obtain ⟨a, xs, rfl, e1, z1, r⟩ := hl.at_ S ev
    exact .inr ⟨a, v, d, ys, j, z, rfl, rfl, .lst (.inl (.inl e1)) (hp.dp S r), hy.dp S ey, s1, s2, hz, hzd, hno, k.here S (.int _) q⟩
  | @mk y z ds j _ _ hl fy fs hz hzy hno q =>
    obtain ⟨v, rfl, ey⟩ := eu.inv1
    obtain ⟨a, xs, rfl, e1, z1, r⟩ := hl.at_ S ev
    obtain ⟨u, hu, eu⟩ := r.getD hz
    refine .inl ⟨a, xs, v, j, u, rfl, rfl, .inl (.inl e1), flat_v ey fy, flat_vs r fs, hu, by rw [eq_v eu ey]; exact hzy, fun m w hm hw => ?_, k.here S (.int _) q⟩
    obtain ⟨d, hd, ew⟩ := r.get hw
    rw [eq_v ew ey]
    exact hno m hm d hd
/-- texts -/
inductive oJoin : D → List D → HL → Qd → Prop
  | mk {a : Str} {x : D} {ys : List Str} {L : HL} {Q : Qd} : IsS L x (ys.map D.str) → (ys.map (·.length)).sum + ys.length * a.length ≤ 16777216 → (Txt.join a ys).length ≤ sizeLine → Q (.str (Txt.join a ys)) L → oJoin (.str a) [x] L Q
  | joins {a z : Str} {L : HL} {Q : Qd} : z.length + z.length * a.length ≤ 16777216 → (Txt.join a (PyProof.Rows.signs z)).length ≤ sizeLine → Q (.str (Txt.join a (PyProof.Rows.signs z))) L → oJoin (.str a) [.str z] L Q
def vJoin (K : PySem.W.Frag) : V → List V → Hp → VK → Prop := fun x xs H Q => (∃ a p, ∃ ys : List Str, x = .str a ∧ xs = [.ref p] ∧ (SqL K H p (ys.map V.str) ∨ SqT K H p (ys.map V.str)) ∧ (ys.map (·.length)).sum + ys.length * a.length ≤ 16777216 ∧ Q (.str (Txt.join a ys)) H) ∨
  ∃ a z, x = .str a ∧ xs = [.str z] ∧ z.length + z.length * a.length ≤ 16777216 ∧ Q (.str (Txt.join a (PyProof.Rows.signs z))) H
theorem mt_joins (hc : X.calm = true) : MtR X "str.join" (vJoin X.K) := fun pins s σ H x xs v us Q I rx rs h => h.elim (fun h => mt_join pins s σ H x xs v us Q I rx rs h) fun ⟨a, z, e1, e2, ok, q⟩ => by
  subst e1 e2
  obtain ⟨t, rfl⟩ := rx
  obtain ⟨u, rfl, k, rfl⟩ := vals1 rs
  refine PySem.SC.joinStr (I.ok.hd hc) (PyProof.Rows.joinOk_of (by rw [PyProof.Rows.signs_sumLen, PyProof.Rows.signs_length]; exact ok)) fun h' k t' hk => ⟨.str _, H, ?_, ⟨t', rfl⟩, q⟩
  exact I.kept hk
theorem md_join : MtD G oJoin (vJoin G.K) := fun S ev eu k h => by
  cases h with
  | mk hs z z2 q =>
    cases ev
    obtain ⟨v, rfl, ey⟩ := eu.inv1
    obtain ⟨a, xs, rfl, e1, z1, r⟩ := hs.at_ S ey
    rw [r.strs] at e1
    exact .inl ⟨_, a, _, rfl, rfl, e1, z, k.here S (.str z2) q⟩
  | joins z z2 q =>
    cases ev
    obtain ⟨v, rfl, ey⟩ := eu.inv1
    cases ey
    exact .inr ⟨_, _, rfl, rfl, z, k.here S (.str z2) q⟩
inductive oSplit : D → List D → HL → Qd → Prop
  | mk {a b : Str} {L : HL} {Q : Qd} : (b.length == 0) = false → a.length + 2 ≤ sizeLine → (Txt.split a b).length ≤ sizeLine → (∀ x ∈ Txt.split a b, x.length ≤ sizeLine) → RetL ((Txt.split a b).map D.str) L Q → oSplit (.str a) [.str b] L Q
  | max {a b : Str} {i : Int} {L : HL} {Q : Qd} : (b.length == 0) = false → -(2 ^ 63) ≤ i → i < 2 ^ 63 → a.length + 2 ≤ sizeLine → (Txt.splitMax a b i).length ≤ sizeLine → (∀ x ∈ Txt.splitMax a b i, x.length ≤ sizeLine) → RetL ((Txt.splitMax a b i).map D.str) L Q → oSplit (.str a) [.str b, .int i] L Q
def vSplit : V → List V → Hp → VK → Prop := fun x xs H Q => (∃ a b, x = .str a ∧ xs = [.str b] ∧ (b.length == 0) = false ∧ a.length + 2 ≤ sizeLine ∧ rNewStrs (Txt.split a b) H Q) ∨
  ∃ (a b : Str) (k : Int), x = .str a ∧ xs = [.str b, .int k] ∧ (b.length == 0) = false ∧ -(2 ^ 63) ≤ k ∧ k < 2 ^ 63 ∧ a.length + 2 ≤ sizeLine ∧ rNewStrs (Txt.splitMax a b k) H Q
theorem op_vSplit : MtR X "str.split" vSplit := mtR_or mt_split mt_splitMax
theorem md_split : MtD G oSplit vSplit := fun S ev eu k h => by
  cases h with
  | mk hb ha z1 z2 q =>
    cases ev
    obtain ⟨v, rfl, ey⟩ := eu.inv1
    cases ey
    exact .inl ⟨_, _, rfl, rfl, hb, ha, retL_ok S (by rw [List.length_map]; exact z1) (EncL.of_strs _ z2) k q⟩
  | max hb h1 h2 ha z1 z2 q =>
    cases ev
    obtain ⟨v, u, rfl, ey, ei⟩ := eu.inv2
    cases ey
    cases ei
    exact .inr ⟨_, _, _, rfl, rfl, hb, h1, h2, ha, retL_ok S (by rw [List.length_map]; exact z1) (EncL.of_strs _ z2) k q⟩
inductive oPart : D → List D → HL → Qd → Prop
  | mk {a b : Str} {L : HL} {Q : Qd} : (b.length == 0) = false → a.length ≤ sizeLine → (Txt.partition a b).1.length ≤ sizeLine → (Txt.partition a b).2.1.length ≤ sizeLine → (Txt.partition a b).2.2.length ≤ sizeLine →
    Q (.tup [.str (Txt.partition a b).1, .str (Txt.partition a b).2.1, .str (Txt.partition a b).2.2]) L → oPart (.str a) [.str b] L Q
def vPart : V → List V → Hp → VK → Prop := fun x xs H Q => ∃ a b, x = .str a ∧ xs = [.str b] ∧ (b.length == 0) = false ∧ a.length ≤ sizeLine ∧
    ∀ p, H p = none → Q (.ref p) (upd H p (.tup [.str (Txt.partition a b).1, .str (Txt.partition a b).2.1, .str (Txt.partition a b).2.2]))
theorem md_part : MtD G oPart vPart := fun S ev eu k h => by
  cases h with
  | mk hb ha z1 z2 z3 q =>
    cases ev
    obtain ⟨v, rfl, ey⟩ := eu.inv1
    cases ey
    exact ⟨_, _, rfl, rfl, hb, ha, tup_ok S (by show 3 ≤ sizeLine; decide) (.cons (.str z1) (.cons (.str z2) (.cons (.str z3) .nil))) k q⟩
inductive oUpper : D → List D → HL → Qd → Prop
  | mk {a : Str} {L : HL} {Q : Qd} : a.length ≤ 5592405 → (Txt.upper a).length ≤ sizeLine → Q (.str (Txt.upper a)) L → oUpper (.str a) [] L Q
theorem md_upper : MtD G oUpper (fun x xs H Q => ∃ a, x = .str a ∧ xs = [] ∧ a.length ≤ 5592405 ∧ Q (.str (Txt.upper a)) H) := fun S ev eu k h => by
  cases h with
  | mk ha z q =>
    cases ev
    rw [eu.inv0]
    exact ⟨_, rfl, rfl, ha, k.here S (.str z) q⟩
inductive oStarts : D → List D → HL → Qd → Prop
  | mk {a b : Str} {L : HL} {Q : Qd} : Q (.bl (Txt.startswith a b)) L → oStarts (.str a) [.str b] L Q
theorem md_starts : MtD G oStarts (fun x xs H Q => ∃ a b, x = .str a ∧ xs = [.str b] ∧ Q (.bl (Txt.startswith a b)) H) := fun S ev eu k h => by
  cases h with
  | mk q =>
    cases ev
    obtain ⟨v, rfl, ey⟩ := eu.inv1
    cases ey
    exact ⟨_, _, rfl, rfl, k.here S (.bl _) q⟩
end
end DM
set_option Elab.async false
set_option linter.all false
set_option maxRecDepth 100000
namespace DM
open PySem L2 PyProof.Rows
structure Sq where
  items : List D
  live : HL → Prop
abbrev DTI := Sl → HL → (Sq → HL → Prop) → Xd → Prop
/-- an iterator serves the items as long as the owned heap is as the sequence asks -/
def Adeq (G : Gw) (L0 : HL) (H0 : Hp) (J : It) (q : Sq) : Prop := q.items.length ≤ sizeLine ∧ ∀ (i : Nat) (H : Hp) (L : HL), Pers (dom L0) H0 (dom L) H → Sat G H L → q.live L → (i = q.items.length → J.stop i H) ∧
  ∀ d, q.items[i]? = some d → J.go i H ∧ ∀ x H', J.yld i H x H' → Pers (dom L) H (dom L) H' ∧ Sat G H' L ∧ Enc G (dom L) H' x d
def Ki (G : Gw) (L : HL) (H : Hp) (Q : Sq → HL → Prop) (R : It → Hp → Prop) : Prop := ∀ J H' q L', Pers (dom L) H (dom L') H' → Sat G H' L' → Adeq G L' H' J q → q.live L' → Q q L' → R J H'
def concI (G : Gw) (W : WX) (t : DTI) : TI := fun vs H R => ∃ σ L Q E, Sat G H L ∧ EncS G (dom L) H vs σ ∧ t σ L Q E ∧ Ki G L H Q R ∧ Kx G L H E W
section
variable {G : Gw} {H H' : Hp} {L L' A B : HL} {vs : Sv} {σ : Sl} {X : Cx} {e tg iter : Expr} {W : WX}
theorem pi_imp {t t' : TI} (h : PI X tg iter t) (f : ∀ vs H R, t' vs H R → t vs H R) : PI X tg iter t' := ⟨fun pins s σ H R I q => h.run pins s σ H R I (f _ _ _ q)⟩
def iAny (K : PySem.W.Frag) (te : TE) : TI := fun σ H R => te σ H fun x H1 => (∃ a, x = .ref a ∧ (∃ xs, SqL K H1 a xs) ∧ R (Itl K a) H1) ∨ (∃ a, x = .ref a ∧ (∃ xs, SqT K H1 a xs) ∧ R (Itt K a) H1) ∨ ∃ z, x = .str z ∧ R (Its z) H1
theorem pi_any {te : TE} (hl : PE X e te) : PI X tg e (iAny X.K te) := by
  refine ⟨fun pins s σ H R I h => thn (hl.run pins s σ H _ I h) fun v s1 ⟨x, H1, I1, r1, q1⟩ => ?_⟩
  rcases q1 with ⟨a, rfl, ⟨xs, hq⟩, q⟩ | ⟨a, rfl, ⟨xs, hq⟩, q⟩ | ⟨z, rfl, q⟩
  · obtain rfl := r1
    obtain ⟨its, rv, p, hz⟩ := I1.list hq
    exact wpAny_pyIter_list p.isList (pi_one (tk := s1.toks) I1 _ (turn_list a _) ⟨_, Heap.get?_push_size _ rfl, rfl, rfl⟩ q)
  · obtain rfl := r1
    obtain ⟨its, rv, p, hz⟩ := I1.tuple hq
    exact wpAny_pyIter_tuple (show s1.heap.IsTuple a its.toArray from p) (pi_one (tk := s1.toks) I1 _ (turn_tuple a _) ⟨_, Heap.get?_push_size _ rfl, rfl, rfl⟩ q)
  · obtain ⟨t, rfl⟩ := r1
    cases ha : z.cps.all (· < 128)
    · exact wpAny_pyIter_wide ha (pi_one (tk := s1.toks) I1 _ (turn_str _ z t "str_iterator" (.inr rfl)) ⟨_, Heap.get?_push_size _ rfl, rfl, rfl⟩ q)
    · exact wpAny_pyIter_ascii ha (pi_one (tk := s1.toks) I1 _ (turn_str _ z t "str_ascii_iterator" (.inl rfl)) ⟨_, Heap.get?_push_size _ rfl, rfl, rfl⟩ q)
theorem ad_list {a : Addr} {q : Sq} (hx : ∀ H' L', Pers (dom L) H (dom L') H' → Sat G H' L' → q.live L' → ∃ xs, H' a = some (.lst xs) ∧ EncL G (dom L') H' xs q.items) (hz : q.items.length ≤ sizeLine) : Adeq G L H (Itl G.K a) q := ⟨hz, fun i H L p S lv => by
  obtain ⟨xs, h, r⟩ := hx H L p S lv
  refine ⟨fun e => ⟨xs, .inl (.inl h), by rw [r.len, e]; exact Nat.le_refl _⟩, fun d hd => ?_⟩
  obtain ⟨v, hv, ev⟩ := r.getD hd
  refine ⟨⟨xs, v, .inl (.inl h), hv⟩, fun y H' hy => ?_⟩
  obtain ⟨rfl, hy⟩ := hy
  have := hy xs (.inl (.inl h))
  rw [hv] at this
  cases this
  exact ⟨Pers.refl _ _, S, ev⟩⟩
theorem ad_tup {a : Addr} {xs : List V} {ds : List D} (t : TupAt G.K (dom L) H a xs) (hz : xs.length ≤ sizeLine) (r : EncL G (dom L) H xs ds) : Adeq G L H (Itt G.K a) ⟨ds, fun _ => True⟩ := ⟨by rw [← r.len]; exact hz, fun i H L p S _ => by
  have t1 := (t.pers p).sq
  have r1 := r.pers p
  refine ⟨fun e => ⟨xs, t1, by rw [r.len, e]; exact Nat.le_refl _⟩, fun d hd => ?_⟩
  obtain ⟨v, hv, ev⟩ := r1.getD hd
  refine ⟨⟨xs, v, t1, hv⟩, fun y H' hy => ?_⟩
  obtain ⟨rfl, hy⟩ := hy
  have := hy xs t1
  rw [hv] at this
  cases this
  exact ⟨Pers.refl _ _, S, ev⟩⟩
theorem signs_len {z : Str} : (signs z).length = z.length := by
  unfold signs
  rw [List.length_map, Array.length_toList]
  rfl
theorem ad_str {z : Str} (hz : z.length ≤ sizeLine) : Adeq G L H (Its z) ⟨signs z, fun _ => True⟩ := ⟨by rw [signs_len]; exact hz, fun i H L p S _ => by
  have hl : (signs z).length = z.cps.size := signs_len
  refine ⟨fun e => ?_, fun d hd => ?_⟩
  · show z.cps.size ≤ i
    rw [e, hl]
    exact Nat.le_refl _
  · unfold signs at hd
    rw [List.getElem?_map, Array.getElem?_toList] at hd
    cases q : z.cps[i]? with
    | none => rw [q] at hd; cases hd
    | some c =>
      rw [q] at hd
      cases hd
      refine ⟨(Array.getElem?_eq_some_iff.mp q).1, fun y H' hy => ?_⟩
      obtain ⟨rfl, c', hc, rfl⟩ := hy
      rw [q] at hc
      cases hc
      exact ⟨Pers.refl _ _, S, .str one_le⟩⟩
def rgD (lo : Int) (n : Nat) : List D := (List.range n).map fun i : Nat => D.int (lo + (i : Int))
theorem rgD_len {lo : Int} {n : Nat} : (rgD lo n).length = n := by
  unfold rgD
  rw [List.length_map, List.length_range]
theorem ad_rng {lo : Int} {n : Nat} (hz : n ≤ sizeLine) : Adeq G L H (Itr lo n) ⟨rgD lo n, fun _ => True⟩ := ⟨by rw [rgD_len]; exact hz, fun i H L p S _ => by
  have hl : (rgD lo n).length = n := rgD_len
  refine ⟨fun e => ?_, fun d hd => ?_⟩
  · show n ≤ i
    rw [e, hl]
    exact Nat.le_refl _
  · have hi : i < n := by
      have := (List.getElem?_eq_some_iff.mp hd).1
      rw [hl] at this
      exact this
    refine ⟨hi, fun y H' hy => ?_⟩
    obtain ⟨rfl, rfl⟩ := hy
    unfold rgD at hd
    rw [List.getElem?_map, List.getElem?_range hi] at hd
    cases hd
    exact ⟨Pers.refl _ _, S, .int _⟩⟩
def rgdD (lo : Int) (n : Nat) : List D := (List.range n).map fun i : Nat => D.int (lo + (i : Int) * (-1))
theorem rgdD_len {lo : Int} {n : Nat} : (rgdD lo n).length = n := by
  unfold rgdD
  rw [List.length_map, List.length_range]
theorem ad_rngd {lo : Int} {n : Nat} (hz : n ≤ sizeLine) : Adeq G L H (Itc lo (-1) n) ⟨rgdD lo n, fun _ => True⟩ := ⟨by rw [rgdD_len]; exact hz, fun i H L p S _ => by
  have hl : (rgdD lo n).length = n := rgdD_len
  refine ⟨fun e => ?_, fun d hd => ?_⟩
  · show n ≤ i
    rw [e, hl]
    exact Nat.le_refl _
  · have hi : i < n := by
      have := (List.getElem?_eq_some_iff.mp hd).1
      rw [hl] at this
      exact this
    refine ⟨hi, fun y H' hy => ?_⟩
    obtain ⟨rfl, rfl⟩ := hy
    unfold rgdD at hd
    rw [List.getElem?_map, List.getElem?_range hi] at hd
    cases hd
    exact ⟨Pers.refl _ _, S, .int _⟩⟩
inductive oIter : D → HL → (Sq → HL → Prop) → Prop
  | frz_lst {ds : List D} {L : HL} {Q : Sq → HL → Prop} : Q ⟨ds, fun _ => True⟩ L → oIter (.lst ds) L Q
  | own {p : Addr} {ds : List D} {L : HL} {Q : Sq → HL → Prop} : (p, Ch.lst ds) ∈ L → Q ⟨ds, fun L' => (p, Ch.lst ds) ∈ L'⟩ L → oIter (.ref p) L Q
  | tup {ds : List D} {L : HL} {Q : Sq → HL → Prop} : Q ⟨ds, fun _ => True⟩ L → oIter (.tup ds) L Q
  | str {z : Str} {L : HL} {Q : Sq → HL → Prop} : Q ⟨signs z, fun _ => True⟩ L → oIter (.str z) L Q
def dIter (t : DTE) : DTI := fun σ L Q E => t σ L (fun x L1 => oIter x L1 Q) E
theorem Ki.back {Q : Sq → HL → Prop} {R : It → Hp → Prop} (k : Ki G L H Q R) (p : Pers (dom L) H (dom L') H') : Ki G L' H' Q R := fun J H2 q L2 p2 => k J H2 q L2 (p.trans p2)
theorem it_ok {x : D} {v : V} {Q : Sq → HL → Prop} {R : It → Hp → Prop} (S : Sat G H L) (ev : Enc G (dom L) H v x) (k : Ki G L H Q R) (h : oIter x L Q) :
    (∃ a, v = .ref a ∧ (∃ xs, SqL G.K H a xs) ∧ R (Itl G.K a) H) ∨ (∃ a, v = .ref a ∧ (∃ xs, SqT G.K H a xs) ∧ R (Itt G.K a) H) ∨ ∃ z, v = .str z ∧ R (Its z) H := by
  cases h with
  | frz_lst q =>
    cases ev with
    | lst n e z r =>
      refine .inl ⟨_, rfl, ⟨_, .inl (.inl e)⟩, k _ _ _ L (Pers.refl _ _) S (ad_list (fun H' L' p S' _ => ⟨_, (p.keep e n).1, r.pers p⟩) (by rw [← r.len]; exact z)) trivial q⟩
  | own m q =>
    cases ev
    cases S.ok _ _ m with
    | lst e z r =>
      refine .inl ⟨_, rfl, ⟨_, .inl (.inl e)⟩, k _ _ _ L (Pers.refl _ _) S (ad_list (fun H' L' p S' lv => ?_) (by rw [← r.len]; exact z)) m q⟩
      cases S'.ok _ _ lv with
      | lst e z r => exact ⟨_, e, r⟩
  | tup q =>
    cases ev with
    | tup t z r => exact .inr (.inl ⟨_, rfl, ⟨_, t.sq⟩, k _ _ _ L (Pers.refl _ _) S (ad_tup t z r) trivial q⟩)
  | str q =>
    cases ev with
    | str z => exact .inr (.inr ⟨_, rfl, k _ _ _ L (Pers.refl _ _) S (ad_str z) trivial q⟩)
theorem conc_iter {t : DTE} (h : PI X tg iter (iAny G.K (conc G W t))) : PI X tg iter (concI G W (dIter t)) :=
  pi_imp h fun vs H R ⟨σ, L, Q, E, S, en, q, k, kx⟩ => conc_bind (R := fun x L1 => oIter x L1 Q) S en kx q fun v H1 x L1 p S1 e1 en1 kx1 q1 => it_ok S1 e1 (k.back p) q1
/-- range(n), range(a, b) -/
inductive oRange : List D → HL → (Sq → HL → Prop) → Prop
  | one {j : Int} {L : HL} {Q : Sq → HL → Prop} : j ≤ 16777216 → -(2 ^ 62) ≤ j → Q ⟨rgD 0 j.toNat, fun _ => True⟩ L → oRange [.int j] L Q
  | two {i j : Int} {L : HL} {Q : Sq → HL → Prop} : j - i ≤ 16777216 → -(2 ^ 61) ≤ i → i < 2 ^ 61 → -(2 ^ 61) ≤ j → Q ⟨rgD i (j - i).toNat, fun _ => True⟩ L → oRange [.int i, .int j] L Q
  | three {i j : Int} {L : HL} {Q : Sq → HL → Prop} : i - j ≤ 16777216 → -(2 ^ 61) ≤ i → i < 2 ^ 61 → -(2 ^ 61) ≤ j → j < 2 ^ 61 → Q ⟨rgdD i (i - j).toNat, fun _ => True⟩ L → oRange [.int i, .int j, .int (-1)] L Q
def dRange (t : DTA) : DTI := fun σ L Q E => t σ L (fun xs L1 => oRange xs L1 Q) E
theorem rng1_ok {xs : List D} {us : List V} {Q : Sq → HL → Prop} {R : It → Hp → Prop} (S : Sat G H L) (ev : EncL G (dom L) H us xs) (hl : xs.length = 1) (k : Ki G L H Q R) (h : oRange xs L Q) :
    ∃ j : Int, us = [.int j] ∧ -(2 ^ 62) ≤ j ∧ j < 2 ^ 62 ∧ R (Itr 0 j.toNat) H := by
  cases h with
  | one h1 h2 q =>
    obtain ⟨v, rfl, e⟩ := ev.inv1
    cases e
    exact ⟨_, rfl, h2, by omega, k _ _ _ L (Pers.refl _ _) S (ad_rng (by show _ ≤ 16777216; omega)) trivial q⟩
  | two => cases hl
  | three => cases hl
theorem rng2_ok {xs : List D} {us : List V} {Q : Sq → HL → Prop} {R : It → Hp → Prop} (S : Sat G H L) (ev : EncL G (dom L) H us xs) (hl : xs.length = 2) (k : Ki G L H Q R) (h : oRange xs L Q) :
    ∃ i j : Int, us = [.int i, .int j] ∧ (-(2 ^ 62) ≤ i ∧ i < 2 ^ 62 ∧ -(2 ^ 62) ≤ j ∧ j < 2 ^ 62) ∧ R (Itr i (j - i).toNat) H := by
  cases h with
  | two h1 h2 h3 h4 q =>
    obtain ⟨v, u, rfl, e1, e2⟩ := ev.inv2
    cases e1
    cases e2
    exact ⟨_, _, rfl, ⟨by omega, by omega, by omega, by omega⟩, k _ _ _ L (Pers.refl _ _) S (ad_rng (by show _ ≤ 16777216; omega)) trivial q⟩
  | one => cases hl
  | three => cases hl
theorem rng3_ok {xs : List D} {us : List V} {Q : Sq → HL → Prop} {R : It → Hp → Prop} (S : Sat G H L) (ev : EncL G (dom L) H us xs) (hl : xs.length = 3) (k : Ki G L H Q R) (h : oRange xs L Q) :
    ∃ (i j c : Int) (n : Nat), us = [.int i, .int j, .int c] ∧ RgC i j c n ∧ R (Itc i c n) H := by
  cases h with
  | one => cases hl
  | two => cases hl
  | @three i j _ _ h1 h2 h3 h4 h5 q =>
    cases ev with
    | cons e1 r =>
      cases r with
      | cons e2 r =>
        cases r with
        | cons e3 r =>
          cases r
          cases e1
          cases e2
          cases e3
          exact ⟨_, _, _, _, rfl, RgC.neg (by omega) (by omega) (by omega) (by omega), k _ _ _ L (Pers.refl _ _) S (ad_rngd (by show _ ≤ 16777216; omega)) trivial q⟩
theorem conc_rng3 {t u v : DTE} (h : PI X tg iter (iRng3 (tCons (conc G W t) (tCons (conc G W u) (tCons (conc G W v) tNil))))) : PI X tg iter (concI G W (dRange (dCons t (dCons u (dCons v dNil))))) :=
  pi_imp h fun vs H R ⟨σ, L, Q, E, S, en, q, k, kx⟩ => conc_bind (R := fun x L1 => u σ L1 (fun y L2 => v σ L2 (fun z L3 => oRange [x, y, z] L3 Q) E) E) S en kx q fun a H1 x L1 p S1 e1 en1 kx1 q1 =>
    conc_bind (R := fun y L2 => v σ L2 (fun z L3 => oRange [x, y, z] L3 Q) E) S1 en1 kx1 q1 fun b H2 y L2 p2 S2 e2 en2 kx2 q2 =>
      conc_bind (R := fun z L3 => oRange [x, y, z] L3 Q) S2 en2 kx2 q2 fun c H3 z L3 p3 S3 e3 en3 kx3 q3 => rng3_ok S3 (.cons (e1.pers (p2.trans p3)) (.cons (e2.pers p3) (.one e3))) rfl (((k.back p).back p2).back p3) q3
theorem conc_rng1 {t : DTE} (h : PI X tg iter (iRng1 (tCons (conc G W t) tNil))) : PI X tg iter (concI G W (dRange (dCons t dNil))) :=
  pi_imp h fun vs H R ⟨σ, L, Q, E, S, en, q, k, kx⟩ => conc_bind (R := fun x L1 => oRange [x] L1 Q) S en kx q fun v H1 x L1 p S1 e1 en1 kx1 q1 => rng1_ok S1 (.one e1) rfl (k.back p) q1
theorem conc_rng2 {t u : DTE} (h : PI X tg iter (iRng2 (tCons (conc G W t) (tCons (conc G W u) tNil)))) : PI X tg iter (concI G W (dRange (dCons t (dCons u dNil)))) :=
  pi_imp h fun vs H R ⟨σ, L, Q, E, S, en, q, k, kx⟩ => conc_bind (R := fun x L1 => u σ L1 (fun y L2 => oRange [x, y] L2 Q) E) S en kx q fun v H1 x L1 p S1 e1 en1 kx1 q1 =>
    conc_bind (R := fun y L2 => oRange [x, y] L2 Q) S1 en1 kx1 q1 fun w H2 y L2 p2 S2 e2 en2 kx2 q2 => rng2_ok S2 (.cons (e1.pers p2) (.one e2)) rfl ((k.back p).back p2) q2
end
end DM
set_option Elab.async false
set_option linter.all false
set_option maxRecDepth 100000
namespace DM
open PySem L2 PyProof.Rows
abbrev DTG := D → Sl → HL → (Sl → HL → Prop) → Xd → Prop
abbrev DTGs := List D → Sl → HL → (Sl → HL → Prop) → Xd → Prop
structure DE where
  nx : Sl → HL → Prop
  rt : Qd
  ex : Xd
abbrev DTS := DE → Sl → HL → Prop
section
variable (G : Gw)
def KS (L : HL) (H : Hp) (Q : Sl → HL → Prop) (R : Sv → Hp → Prop) : Prop := ∀ vs' H' σ' L', Pers (dom L) H (dom L') H' → Sat G H' L' → EncS G (dom L') H' vs' σ' → Q σ' L' → R vs' H'
def concG (W : WX) (t : DTG) : TG := fun v vs H R => ∃ d σ L Q E, Sat G H L ∧ EncS G (dom L) H vs σ ∧ Enc G (dom L) H v d ∧ t d σ L Q E ∧ KS G L H Q R ∧ Kx G L H E W
def concGs (W : WX) (t : DTGs) : TGs := fun us vs H R => ∃ ds σ L Q E, Sat G H L ∧ EncS G (dom L) H vs σ ∧ EncL G (dom L) H us ds ∧ t ds σ L Q E ∧ KS G L H Q R ∧ Kx G L H E W
def concS (W : WX) (t : DTS) : TS := fun Dv vs H => ∃ σ L D, Sat G H L ∧ EncS G (dom L) H vs σ ∧ t D σ L ∧ KS G L H D.nx Dv.nx ∧ Kd G L H D.rt Dv.rt ∧ Kx G L H D.ex W
end
section
variable {G : Gw} {H H' : Hp} {L L' A B : HL} {vs : Sv} {σ : Sl} {X : Cx} {e tg iter : Expr} {W : WX}
theorem KS.back {Q : Sl → HL → Prop} {R : Sv → Hp → Prop} (k : KS G L H Q R) (p : Pers (dom L) H (dom L') H') : KS G L' H' Q R := fun vs' H2 σ' L2 p2 => k vs' H2 σ' L2 (p.trans p2)
theorem KS.here {Q : Sl → HL → Prop} {R : Sv → Hp → Prop} (k : KS G L H Q R) (S : Sat G H L) (en : EncS G (dom L) H vs σ) (q : Q σ L) : R vs H := k vs H σ L (Pers.refl _ _) S en q
theorem pg_imp {t t' : TG} (h : PG X tg t) (f : ∀ v vs H R, t' v vs H R → t v vs H R) : PG X tg t' := ⟨fun pins s σ H v u R I r q => h.run pins s σ H v u R I r (f _ _ _ _ q)⟩
theorem pgs_imp {tgs : List Expr} {t t' : TGs} (h : PGs X tgs t) (f : ∀ v vs H R, t' v vs H R → t v vs H R) : PGs X tgs t' := ⟨fun pins s σ H v u R I r q => h.run pins s σ H v u R I r (f _ _ _ _ q)⟩
def dName (i : Nat) : DTG := fun d σ L Q _ => Q (σ.set i (some d)) L
theorem cg_name {i : Nat} (h : PG X tg (gName i)) : PG X tg (concG G W (dName i)) := pg_imp h fun v vs H R ⟨d, σ, L, Q, E, S, en, ev, q, k, _⟩ => k.here S (en.set ev i) q
def dgNil : DTGs := fun ds σ L Q _ => ds = [] ∧ Q σ L
def dgCons (t : DTG) (u : DTGs) : DTGs := fun ds σ L Q E => ∃ d r, ds = d :: r ∧ t d σ L (fun σ1 L1 => u r σ1 L1 Q E) E
theorem cg_nil {tgs : List Expr} (h : PGs X tgs gNil) : PGs X tgs (concGs G W dgNil) := pgs_imp h fun v vs H R ⟨d, σ, L, Q, E, S, en, ev, ⟨e0, q⟩, k, _⟩ => by
  subst e0
  exact ⟨ev.inv0, k.here S en q⟩
theorem cg_cons {tgs : List Expr} {t : DTG} {u : DTGs} (h : PGs X tgs (gCons (concG G W t) (concGs G W u))) : PGs X tgs (concGs G W (dgCons t u)) := pgs_imp h fun us vs H R ⟨ds, σ, L, Q, E, S, en, ev, ⟨d, r, e0, q⟩, k, kx⟩ => by
  subst e0
  cases ev with
  | cons e1 e2 =>
    exact ⟨_, _, rfl, d, σ, L, _, E, S, en, e1, q, fun vs1 H1 σ1 L1 p S1 en1 q1 => ⟨r, σ1, L1, Q, E, S1, en1, e2.pers p, q1, k.back p, kx.back p⟩, kx⟩
/-- a tuple, or a list, taken apart -/
inductive oUnp (n : Nat) : D → HL → (List D → Prop) → Prop
  | tup {ds : List D} {L : HL} {Q : List D → Prop} : ds.length = n → Q ds → oUnp n (.tup ds) L Q
  | lst {x : D} {ds : List D} {L : HL} {Q : List D → Prop} : IsL L x ds → ds.length = n → Q ds → oUnp n x L Q
def dgTup (n : Nat) (t : DTGs) : DTG := fun d σ L Q E => oUnp n d L fun ds => t ds σ L Q E
def gAny (K : PySem.W.Frag) (n : Nat) (t : TGs) : TG := fun v σ H Q => gTup K n t v σ H Q ∨ gLst K n t v σ H Q
theorem pg_any {es : List Expr} {kk : Nat} {pos : Pos} {n : Nat} {t : TGs} (h1 : PG X (.Tuple es kk pos) (gTup X.K n t)) (h2 : PG X (.Tuple es kk pos) (gLst X.K n t)) : PG X (.Tuple es kk pos) (gAny X.K n t) :=
  ⟨fun pins s σ H v u R I r q => q.elim (h1.run pins s σ H v u R I r) (h2.run pins s σ H v u R I r)⟩
theorem cg_tup {n : Nat} {t : DTGs} (h : PG X tg (gAny G.K n (concGs G W t))) : PG X tg (concG G W (dgTup n t)) := pg_imp h fun v vs H R ⟨d, σ, L, Q, E, S, en, ev, q, k, kx⟩ => by
  cases q with
  | tup hl q =>
    cases ev with
    | tup tt z r => exact .inl ⟨_, _, rfl, tt.sq, by rw [r.len]; exact hl, _, σ, L, Q, E, S, en, r, q, k, kx⟩
  | lst h hl q =>
    obtain ⟨a, xs, rfl, e1, z, r⟩ := h.at_ S ev
    exact .inr ⟨a, xs, rfl, .inl (.inl e1), by rw [r.len]; exact hl, _, σ, L, Q, E, S, en, r, q, k, kx⟩
/-- xs[i] = v of an owned list, d["x"] = v -/
def putD (f : Str) (d : D) : List (Str × D) → List (Str × D)
  | [] => [(f, d)]
  | (g, x) :: r => if g = f then (g, d) :: r else (g, x) :: putD f d r
inductive oSet : D → D → D → HL → (HL → Prop) → Prop
  | lst {p : Addr} {ds : List D} {i : Int} {j : Nat} {d : D} {L A B : HL} {Q : HL → Prop} : Sp L p (.lst ds) A B → ixN ds.length i = some j → Q (A ++ (p, .lst (ds.set j d)) :: B) → oSet (.ref p) (.int i) d L Q
  | dct {p : Addr} {kvs : List (Str × D)} {f : Str} {d : D} {L A B : HL} {Q : HL → Prop} : Sp L p (.dct kvs) A B → kvs.length < 900 → (kvs.map (·.1)).Nodup → Q (A ++ (p, .dct (putD f d kvs)) :: B) → oSet (.ref p) (.str f) d L Q
def dgSub (to ti : DTE) : DTG := fun d σ L Q E => to σ L (fun o L1 => ti σ L1 (fun i L2 => oSet o i d L2 (fun L3 => Q σ L3)) E) E
def vSet : TSet := fun o i v H Q => rSetL o i v H Q ∨ rSetD o i v H Q
theorem pset_v (hu : X.A.units + 1 < cLine) : PSet X vSet := fun pins s σ H o i v ov iv u Q I r1 r2 r3 q => q.elim (set_list pins s σ H o i v ov iv u Q I r1 r2 r3) (set_dict hu pins s σ H o i v ov iv u Q I r1 r2 r3)
theorem key_any {f : Str} : ∀ {vk : List (Key × V)} {kvs : List (Str × D)}, vk.map (·.1) = kvs.map (fun p => Sum.inr p.1) → (vk.any fun kv => decide (kv.1 = Sum.inr f)) = kvs.any fun kv => decide (kv.1 = f)
  | [], [], _ => rfl
  | (a, v) :: vk, (b, x) :: kvs, e => by
    have hab : a = Sum.inr b := (List.cons.inj e).1
    subst hab
    rw [List.any_cons, List.any_cons, key_any (List.cons.inj e).2]
    congr 1
    by_cases h : b = f
    · rw [h, decide_eq_true rfl, decide_eq_true rfl]
    · rw [decide_eq_false h, decide_eq_false fun z => h (Sum.inr.inj z)]
theorem putD_no {f : Str} {d : D} : ∀ {kvs : List (Str × D)}, (kvs.any fun kv => decide (kv.1 = f)) = false → putD f d kvs = kvs ++ [(f, d)]
  | [], _ => rfl
  | (b, x) :: kvs, h => by
    rw [List.any_cons, Bool.or_eq_false_iff] at h
    show (if b = f then (b, d) :: kvs else (b, x) :: putD f d kvs) = _
    rw [if_neg (of_decide_eq_false h.1), putD_no h.2]
    rfl
theorem putD_none {f : Str} {d : D} : ∀ {kvs : List (Str × D)}, (∀ p ∈ kvs, p.1 ≠ f) → kvs.map (fun kv => if kv.1 = f then (kv.1, d) else kv) = kvs
  | [], _ => rfl
  | (b, x) :: kvs, h => by
    rw [List.map_cons, if_neg (h _ (List.mem_cons_self ..)), putD_none fun p m => h p (List.mem_cons_of_mem _ m)]
theorem putD_yes {f : Str} {d : D} : ∀ {kvs : List (Str × D)}, (kvs.map (·.1)).Nodup → (kvs.any fun kv => decide (kv.1 = f)) = true → putD f d kvs = kvs.map fun kv => if kv.1 = f then (kv.1, d) else kv
  | [], _, h => nomatch h
  | (b, x) :: kvs, nd, h => by
    rw [List.map_cons, List.nodup_cons] at nd
    show (if b = f then (b, d) :: kvs else (b, x) :: putD f d kvs) = (if b = f then (b, d) else (b, x)) :: kvs.map _
    by_cases e : b = f
    · rw [if_pos e, if_pos e, putD_none fun p m q => nd.1 (by rw [e, ← q]; exact List.mem_map.mpr ⟨p, m, rfl⟩)]
    · rw [if_neg e, if_neg e]
      rw [List.any_cons, decide_eq_false e, Bool.false_or] at h
      rw [putD_yes nd.2 h]
theorem put_rel {O : Addr → Prop} {f : Str} {v : V} {d : D} (ev : Enc G O H v d) : ∀ {vk : List (Key × V)} {kvs : List (Str × D)}, vk.map (·.1) = kvs.map (fun p => Sum.inr p.1) → EncL G O H (vk.map (·.2)) (kvs.map (·.2)) → (kvs.map (·.1)).Nodup →
    (putK vk (Sum.inr f) v).map (·.1) = (putD f d kvs).map (fun p => Sum.inr p.1) ∧ EncL G O H ((putK vk (Sum.inr f) v).map (·.2)) ((putD f d kvs).map (·.2)) := fun {vk kvs} e r nd => by
  unfold putK
  rw [key_any e]
  cases h : kvs.any fun kv => decide (kv.1 = f) with
  | false =>
    rw [putD_no h, if_neg (by decide)]
    refine ⟨?_, ?_⟩
    · rw [List.map_append, List.map_append, e]
      rfl
    · rw [List.map_append, List.map_append]
      exact r.append (.one ev)
  | true =>
    rw [putD_yes nd h, if_pos rfl]
    clear h nd
    induction vk generalizing kvs with
    | nil =>
      cases kvs with
      | nil => exact ⟨rfl, .nil⟩
      | cons => cases e
    | cons p vk ih =>
      cases kvs with
      | nil => cases e
      | cons q kvs =>
        obtain ⟨a, w⟩ := p
        obtain ⟨b, x⟩ := q
        have hab : a = Sum.inr b := (List.cons.inj e).1
        subst hab
        cases r with
        | cons r1 r2 =>
          obtain ⟨i1, i2⟩ := ih (List.cons.inj e).2 r2
          by_cases hb : b = f
          · simp only [List.map_cons]
            rw [if_pos (by rw [hb]), if_pos hb, i1]
            exact ⟨rfl, .cons ev i2⟩
          · simp only [List.map_cons]
            rw [if_neg (fun z => hb (Sum.inr.inj z)), if_neg hb, i1]
            exact ⟨rfl, .cons r1 i2⟩
theorem putK_len {vk : List (Key × V)} {k : Key} {v : V} : (putK vk k v).length ≤ vk.length + 1 := by
  unfold putK
  split
  · rw [List.length_map]; omega
  · rw [List.length_append]; exact Nat.le_refl _
theorem set_ok {o i d : D} {x y v : V} {Q : HL → Prop} {R : Hp → Prop} (S : Sat G H L) (ex : Enc G (dom L) H x o) (ey : Enc G (dom L) H y i) (ev : Enc G (dom L) H v d) (k : ∀ H' L', Pers (dom L) H (dom L') H' → Sat G H' L' → Q L' → R H') (h : oSet o i d L Q) :
    vSet x y v H R := by
  cases h with
  | @lst p ds i j _ _ _ _ _ sp hi q =>
    cases ex
    cases ey
    obtain ⟨xs, hx, z, r⟩ := own_lst S sp
    have pp : Pers (dom L) H (dom (put L p (.lst (ds.set j d)))) (upd H p (.lst (xs.set j v))) := Pers.write ⟨_, sp.mem⟩
    obtain ⟨S1, p1⟩ := S.at_ sp (c' := .lst (ds.set j d)) (.lst upd_same (by rw [List.length_set]; exact z) ((r.set ev j).pers pp))
    exact .inl ⟨p, xs, i, j, rfl, rfl, hx, by rw [r.len]; exact hi, k _ _ p1 S1 q⟩
  | @dct p kvs f _ _ _ _ _ sp hl nd q =>
    cases ex
    cases ey
    cases S.ok _ _ sp.mem with
    | @dct vk _ hx z n r =>
      obtain ⟨e1, e2⟩ := put_rel ev n r nd
      have pp : Pers (dom L) H (dom (put L p (.dct (putD f d kvs)))) (upd H p (.dK (putK vk (Sum.inr f) v))) := Pers.write ⟨_, sp.mem⟩
      have hlen : vk.length = kvs.length := by
        have := congrArg List.length n
        rw [List.length_map, List.length_map] at this
        exact this
      obtain ⟨S1, p1⟩ := S.at_ sp (c' := .dct (putD f d kvs)) (.dct upd_same (by have := putK_len (vk := vk) (k := Sum.inr f) (v := v); omega) e1 (e2.pers pp))
      exact .inr ⟨p, _, rfl, DPut.k (k := Sum.inr f) hx (by have : (1000 : Nat) < sizeLine := by decide
                                                            omega), k _ _ p1 S1 q⟩
theorem cg_sub {to ti : DTE} (h : PG X tg (gSub (conc G W to) (conc G W ti) vSet)) : PG X tg (concG G W (dgSub to ti)) := pg_imp h fun v vs H R ⟨d, σ, L, Q, E, S, en, ev, q, k, kx⟩ =>
  conc_bind (R := fun o L1 => ti σ L1 (fun i L2 => oSet o i d L2 (fun L3 => Q σ L3)) E) S en kx q fun x H1 o L1 p S1 e1 en1 kx1 q1 =>
  conc_bind (R := fun i L2 => oSet o i d L2 (fun L3 => Q σ L3)) S1 en1 kx1 q1 fun y H2 i L2 p2 S2 e2 en2 kx2 q2 =>
    set_ok S2 (e1.pers p2) e2 ((ev.pers p).pers p2) (fun H3 L3 p3 S3 q3 => ((k.back p).back p2) vs H3 σ L3 p3 S3 (en2.pers p3) q3) q2
def dNext : DTS := fun D σ L => D.nx σ L
theorem cs_next {st : Stmt} (h : PS X st tNext) : PS X st (concS G W dNext) := ps_imp h fun Dv vs H ⟨σ, L, D, S, en, q, k, kr, kx⟩ => k.here S en q
theorem css_nil {sts : List Stmt} (h : PSs X sts tNext) : PSs X sts (concS G W dNext) := pss_imp h fun Dv vs H ⟨σ, L, D, S, en, q, k, kr, kx⟩ => k.here S en q
def dSeq (t u : DTS) : DTS := fun D σ L => t ⟨fun σ1 L1 => u D σ1 L1, D.rt, D.ex⟩ σ L
theorem css_cons {sts : List Stmt} {t u : DTS} (h : PSs X sts (tSeq (concS G W t) (concS G W u))) : PSs X sts (concS G W (dSeq t u)) := pss_imp h fun Dv vs H ⟨σ, L, D, S, en, q, k, kr, kx⟩ =>
  ⟨σ, L, ⟨fun σ1 L1 => u D σ1 L1, D.rt, D.ex⟩, S, en, q, fun vs1 H1 σ1 L1 p S1 en1 q1 => ⟨σ1, L1, D, S1, en1, q1, k.back p, kr.back p, kx.back p⟩, kr, kx⟩
def dAsg (t : DTE) (g : DTG) : DTS := fun D σ L => t σ L (fun d L1 => g d σ L1 D.nx D.ex) D.ex
theorem cs_asg {st : Stmt} {t : DTE} {g : DTG} (h : PS X st (tAsg (conc G W t) (concG G W g))) : PS X st (concS G W (dAsg t g)) := ps_imp h fun Dv vs H ⟨σ, L, D, S, en, q, k, kr, kx⟩ =>
  conc_bind (R := fun d L1 => g d σ L1 D.nx D.ex) S en kx q fun v H1 d L1 p S1 e1 en1 kx1 q1 => ⟨d, σ, L1, D.nx, D.ex, S1, en1, e1, q1, k.back p, kx1⟩
def dDrop (t : DTE) : DTS := fun D σ L => t σ L (fun _ L1 => D.nx σ L1) D.ex
theorem cs_drop {st : Stmt} {t : DTE} (h : PS X st (tDrop (conc G W t))) : PS X st (concS G W (dDrop t)) := ps_imp h fun Dv vs H ⟨σ, L, D, S, en, q, k, kr, kx⟩ =>
  conc_bind (R := fun _ L1 => D.nx σ L1) S en kx q fun v H1 d L1 p S1 e1 en1 kx1 q1 => (k.back p).here S1 en1 q1
def dRet (t : DTE) : DTS := fun D σ L => t σ L D.rt D.ex
theorem cs_ret {st : Stmt} {t : DTE} (h : PS X st (tRet (conc G W t))) : PS X st (concS G W (dRet t)) := ps_imp h fun Dv vs H ⟨σ, L, D, S, en, q, k, kr, kx⟩ => ⟨σ, L, D.rt, D.ex, S, en, q, kr, kx⟩
def dIf (c : DTT) (t u : DTS) : DTS := fun D σ L => c σ L (fun b L1 => if b = true then t D σ L1 else u D σ L1) D.ex
theorem cs_if {st : Stmt} {c : DTT} {t u : DTS} (h : PS X st (tIfS (concT G W c) (concS G W t) (concS G W u))) : PS X st (concS G W (dIf c t u)) := ps_imp h fun Dv vs H ⟨σ, L, D, S, en, q, k, kr, kx⟩ =>
  conc_bindT (R := fun b L1 => if b = true then t D σ L1 else u D σ L1) S en kx q fun b H1 L1 p S1 en1 kx1 q1 => by
    cases b with
    | true => exact iteT (A := concS G W t Dv vs H1) (B := concS G W u Dv vs H1) ⟨σ, L1, D, S1, en1, q1, k.back p, kr.back p, kx1⟩
    | false => exact iteF (A := concS G W t Dv vs H1) (B := concS G W u Dv vs H1) ⟨σ, L1, D, S1, en1, q1, k.back p, kr.back p, kx1⟩
/-- e.f = v of an owned instance -/
def dFldS (fds : Str → List Str) (to tv : DTE) (f : Str) : DTS := fun D σ L => tv σ L (fun d L1 => to σ L1 (fun o L2 => ∃ p c fs A B, o = .ref p ∧ Sp L2 p (.ins c fs) A B ∧ f ∈ fds c ∧ fs.length < 90 ∧ D.nx σ (A ++ (p, .ins c (putD f d fs)) :: B)) D.ex) D.ex
theorem putF_rel {O : Addr → Prop} {f : Str} {v : V} {d : D} (ev : Enc G O H v d) : ∀ {vk : List (Str × V)} {kvs : List (Str × D)}, vk.map (·.1) = kvs.map (·.1) → EncL G O H (vk.map (·.2)) (kvs.map (·.2)) →
    (putF f v vk).map (·.1) = (putD f d kvs).map (·.1) ∧ EncL G O H ((putF f v vk).map (·.2)) ((putD f d kvs).map (·.2))
  | [], [], _, _ => ⟨rfl, .one ev⟩
  | (a, w) :: vk, (b, x) :: kvs, e, r => by
    have hab : a = b := (List.cons.inj e).1
    subst hab
    cases r with
    | cons r1 r2 =>
      obtain ⟨i1, i2⟩ := putF_rel ev (List.cons.inj e).2 r2
      show (List.map _ (if a = f then (a, v) :: vk else (a, w) :: putF f v vk) = List.map _ (if a = f then (a, d) :: kvs else (a, x) :: putD f d kvs)) ∧ EncL G O H (List.map _ (if a = f then (a, v) :: vk else (a, w) :: putF f v vk)) (List.map _ (if a = f then (a, d) :: kvs else (a, x) :: putD f d kvs))
      by_cases h : a = f
      · rw [if_pos h, if_pos h]
        exact ⟨by rw [List.map_cons, List.map_cons, (List.cons.inj e).2], .cons ev r2⟩
      · rw [if_neg h, if_neg h]
        exact ⟨by rw [List.map_cons, List.map_cons, i1], .cons r1 i2⟩
theorem putF_len {f : Str} {v : V} : ∀ {vk : List (Str × V)}, (putF f v vk).length ≤ vk.length + 1
  | [] => Nat.le_refl _
  | (a, w) :: vk => by
    show (if a = f then (a, v) :: vk else (a, w) :: putF f v vk).length ≤ _
    split
    · exact Nat.le_succ _
    · have := putF_len (f := f) (v := v) (vk := vk)
      rw [List.length_cons, List.length_cons]
      omega
theorem cs_fld {st : Stmt} {fds : Str → List Str} {to tv : DTE} {f : Str} (F : Fds G fds) (h : PS X st (sFld G.K (conc G W to) (conc G W tv) f)) : PS X st (concS G W (dFldS fds to tv f)) := ps_imp h fun Dv vs H ⟨σ, L, D, S, en, q, k, kr, kx⟩ =>
  conc_bind (R := fun d L1 => to σ L1 (fun o L2 => ∃ p c fs A B, o = .ref p ∧ Sp L2 p (.ins c fs) A B ∧ f ∈ fds c ∧ fs.length < 90 ∧ D.nx σ (A ++ (p, .ins c (putD f d fs)) :: B)) D.ex) S en kx q fun v H1 d L1 p1 S1 e1 en1 kx1 q1 =>
  conc_bind (R := fun o L2 => ∃ p c fs A B, o = .ref p ∧ Sp L2 p (.ins c fs) A B ∧ f ∈ fds c ∧ fs.length < 90 ∧ D.nx σ (A ++ (p, .ins c (putD f d fs)) :: B)) S1 en1 kx1 q1 fun x H2 o L2 p2 S2 e2 en2 kx2 ⟨p, c, fs, A, B, ho, sp, hf, hl, q2⟩ => by
    subst ho
    cases e2
    cases S2.ok _ _ sp.mem with
    | @ins C dx _ vfs _ g hx z n r =>
      have hlen : vfs.length = fs.length := by
        have := congrArg List.length n
        rw [List.length_map, List.length_map] at this
        exact this
      obtain ⟨n1, r1⟩ := putF_rel (f := f) (e1.pers p2) n r
      have pp : Pers (dom L2) H2 (dom (put L2 p (.ins c (putD f d fs)))) (upd H2 p (.ins C dx (putF f v vfs))) := Pers.write ⟨_, sp.mem⟩
      obtain ⟨S3, p3⟩ := S2.at_ sp (c' := .ins c (putD f d fs)) (.ins g upd_same (by have := putF_len (f := f) (v := v) (vk := vfs); omega) n1 (r1.pers pp))
      exact ⟨p, C, dx, vfs, rfl, hx, F.cls c C f g hf, F.no c C f g hf, by omega, ((k.back p1).back p2).back p3 |>.here S3 (en2.pers p3) q2⟩
end
end DM
set_option Elab.async false
set_option linter.all false
set_option maxRecDepth 100000
namespace DM
open PySem L2 PyProof.Rows
section
variable {G : Gw} {H H' : Hp} {L L' A B : HL} {vs : Sv} {σ : Sl} {X : Cx} {e tg iter : Expr} {W : WX}
/-- the owned heap in another order, or less of it -/
def Ls (L L' : HL) : Prop := ∃ M, L.Perm M ∧ L'.Sublist M
theorem Ls.refl (L : HL) : Ls L L := ⟨L, .refl _, .refl _⟩
theorem Ls.sub {L L' : HL} (h : L'.Sublist L) : Ls L L' := ⟨L, .refl _, h⟩
theorem Ls.perm {L L' : HL} (h : L.Perm L') : Ls L L' := ⟨L', h, .refl _⟩
def Sub_ (W : Sl → HL → Prop) : Sl → HL → Prop := fun σ L => ∃ L', Ls L L' ∧ W σ L'
def FI (q : Sq) (g : DTG) (t : DTS) (D : DE) (W : Nat → Sl → HL → Prop) : Prop := ∀ i σ2 L2, W i σ2 L2 → q.live L2 ∧ (i = q.items.length → D.nx σ2 L2) ∧
  ∀ d, q.items[i]? = some d → g d σ2 L2 (fun σ3 L3 => t ⟨Sub_ (W (i + 1)), D.rt, D.ex⟩ σ3 L3) D.ex
def dFor (ti : DTI) (g : DTG) (t : DTS) : DTS := fun D σ L => ti σ L (fun q L1 => ∃ W : Nat → Sl → HL → Prop, W 0 σ L1 ∧ FI q g t D W) D.ex
theorem Ls.le {L L' : HL} (h : Ls L L') (d : D) : Le d L d L' := let ⟨_, h1, h2⟩ := h; .trans (.perm h1) (.sub h2)
theorem Sat.ls (S : Sat G H L) (h : Ls L L') : Sat G H L' := ((h.le .non).ok S .non).1
theorem Sat.lsl (S : Sat G H L) (h : Ls L L') : Pers (dom L) H (dom L') H := ((h.le .non).ok S .non).2.2
theorem Sat.subl (S : Sat G H L) (s : L'.Sublist L) : Pers (dom L) H (dom L') H := Pers.sub fun a ⟨c, h⟩ => ⟨c, s.subset h⟩
theorem cs_for {st : Stmt} {ti : DTI} {g : DTG} {t : DTS} (h : PS X st (tFor (concI G W ti) (concG G W g) (concS G W t))) : PS X st (concS G W (dFor ti g t)) := ps_imp h fun Dv vs H ⟨σ, L, D, S, en, q, k, kr, kx⟩ =>
  ⟨σ, L, _, D.ex, S, en, q, fun J H1 q L1 p1 S1 ad lv ⟨Wd, w0, turn⟩ => by
    refine ⟨fun i m vs2 H2 => m = q.items.length - i ∧ i ≤ q.items.length ∧ ∃ σ2 L2, Sat G H2 L2 ∧ EncS G (dom L2) H2 vs2 σ2 ∧ Pers (dom L1) H1 (dom L2) H2 ∧ Wd i σ2 L2, ⟨_, rfl, Nat.zero_le _, σ, L1, S1, en.pers p1, Pers.refl _ _, w0⟩, ?_⟩
    rintro i m vs2 H2 ⟨rfl, hi, σ2, L2, S2, en2, p2, w2⟩
    obtain ⟨lv2, hend, hturn⟩ := turn i σ2 L2 w2
    obtain ⟨a1, a2⟩ := ad.2 i H2 L2 p2 S2 lv2
    by_cases hl : i = q.items.length
    · exact .inl ⟨a1 hl, ((k.back p1).back p2).here S2 en2 (hend hl)⟩
    · have hlt : i < q.items.length := by omega
      have hd : q.items[i]? = some q.items[i] := List.getElem?_eq_getElem hlt
      obtain ⟨go, hy⟩ := a2 _ hd
      refine .inr ⟨go, fun vs' H' => i + 1 ≤ q.items.length ∧ ∃ σ2 L2, Sat G H' L2 ∧ EncS G (dom L2) H' vs' σ2 ∧ Pers (dom L1) H1 (dom L2) H' ∧ Wd (i + 1) σ2 L2, fun vs' H' hw => ⟨q.items.length - (i + 1), by omega, rfl, hw⟩, fun x H3 hx => ?_⟩
      obtain ⟨p3, S3, ex⟩ := hy x H3 hx
      refine ⟨_, σ2, L2, _, D.ex, S3, en2.pers p3, ex, hturn _ hd, fun vs4 H4 σ4 L4 p4 S4 en4 q4 => ?_, ((kx.back p1).back p2).back p3⟩
      refine ⟨σ4, L4, _, S4, en4, q4, fun vs5 H5 σ5 L5 p5 S5 en5 ⟨L6, s6, w6⟩ => ?_, (((kr.back p1).back p2).back p3).back p4, (((kx.back p1).back p2).back p3).back p4⟩
      exact ⟨hlt, σ5, L6, S5.ls s6, en5.pers (S5.lsl s6), (((p2.trans p3).trans p4).trans p5).trans (S5.lsl s6), w6⟩, kx⟩
def dWhile (c : DTT) (t : DTS) : DTS := fun D σ L => ∃ W : Nat → Sl → HL → Prop, (∃ m, W m σ L) ∧ ∀ m σ2 L2, W m σ2 L2 → c σ2 L2 (fun b L3 => if b = true then t ⟨fun σ4 L4 => ∃ m', m' < m ∧ Sub_ (W m') σ4 L4, D.rt, D.ex⟩ σ2 L3 else D.nx σ2 L3) D.ex
theorem cs_while {st : Stmt} {c : DTT} {t : DTS} (h : PS X st (tWhile (concT G W c) (concS G W t))) : PS X st (concS G W (dWhile c t)) := ps_imp h fun Dv vs H ⟨σ, L, D, S, en, ⟨Wd, ⟨m0, w0⟩, turn⟩, k, kr, kx⟩ => by
  refine ⟨fun m vs2 H2 => ∃ σ2 L2, Sat G H2 L2 ∧ EncS G (dom L2) H2 vs2 σ2 ∧ Pers (dom L) H (dom L2) H2 ∧ Wd m σ2 L2, ⟨m0, σ, L, S, en, Pers.refl _ _, w0⟩, ?_⟩
  rintro m vs2 H2 ⟨σ2, L2, S2, en2, p2, w2⟩
  refine conc_bindT (R := fun b L3 => if b = true then t ⟨fun σ4 L4 => ∃ m', m' < m ∧ Sub_ (Wd m') σ4 L4, D.rt, D.ex⟩ σ2 L3 else D.nx σ2 L3) S2 en2 (kx.back p2) (turn m σ2 L2 w2) fun b H3 L3 p3 S3 en3 kx3 q3 => ?_
  cases b with
  | false => exact ((k.back p2).back p3).here S3 en3 q3
  | true =>
    refine ⟨fun vs' H' => ∃ m', m' < m ∧ ∃ σ2 L2, Sat G H' L2 ∧ EncS G (dom L2) H' vs' σ2 ∧ Pers (dom L) H (dom L2) H' ∧ Wd m' σ2 L2, fun vs' H' hw => hw, ?_⟩
    refine ⟨σ2, L3, _, S3, en3, q3, fun vs5 H5 σ5 L5 p5 S5 en5 ⟨m', hm, L6, s6, w6⟩ => ?_, (kr.back p2).back p3, kx3⟩
    exact ⟨m', hm, σ5, L6, S5.ls s6, en5.pers (S5.lsl s6), ((p2.trans p3).trans p5).trans (S5.lsl s6), w6⟩
def dTest (t : DTE) : DTT := fun σ L Q E => t σ L (fun d L1 => ∃ b, d = .bl b ∧ Q b L1) E
theorem ct_test {t : DTE} (h : PT X e (tB (conc G W t))) : PT X e (concT G W (dTest t)) := pt_imp h fun vs H Qv ⟨σ, L, Q, E, S, en, q, k, kx⟩ =>
  conc_bind (R := fun d L1 => ∃ b, d = .bl b ∧ Q b L1) S en kx q fun v H1 d L1 p1 S1 e1 en1 kx1 ⟨b, hb, q1⟩ => by
    subst hb
    cases e1
    exact ⟨b, rfl, (k.back p1).here S1 q1⟩
def dAnd (t u : DTT) : DTT := fun σ L Q E => t σ L (fun c L1 => if c = true then u σ L1 Q E else Q false L1) E
def dOr (t u : DTT) : DTT := fun σ L Q E => t σ L (fun c L1 => if c = true then Q true L1 else u σ L1 Q E) E
def dNot (t : DTT) : DTT := fun σ L Q E => t σ L (fun c L1 => Q (!c) L1) E
theorem cw_and {t u : DTT} (h : PW X e (tAnd (concT G W t) (concT G W u))) : PW X e (concT G W (dAnd t u)) := pw_imp h fun vs H Qv ⟨σ, L, Q, E, S, en, q, k, kx⟩ =>
  conc_bindT (R := fun c L1 => if c = true then u σ L1 Q E else Q false L1) S en kx q fun b H1 L1 p1 S1 en1 kx1 q1 => by
    cases b with
    | true => exact iteT (A := concT G W u vs H1 Qv) (B := Qv false H1) ⟨σ, L1, Q, E, S1, en1, q1, k.back p1, kx1⟩
    | false => exact iteF (A := concT G W u vs H1 Qv) (B := Qv false H1) ((k.back p1).here S1 q1)
theorem cw_or {t u : DTT} (h : PW X e (tOr (concT G W t) (concT G W u))) : PW X e (concT G W (dOr t u)) := pw_imp h fun vs H Qv ⟨σ, L, Q, E, S, en, q, k, kx⟩ =>
  conc_bindT (R := fun c L1 => if c = true then Q true L1 else u σ L1 Q E) S en kx q fun b H1 L1 p1 S1 en1 kx1 q1 => by
    cases b with
    | true => exact iteT (A := Qv true H1) (B := concT G W u vs H1 Qv) ((k.back p1).here S1 q1)
    | false => exact iteF (A := Qv true H1) (B := concT G W u vs H1 Qv) ⟨σ, L1, Q, E, S1, en1, q1, k.back p1, kx1⟩
theorem ct_not {t : DTT} (h : PT X e (tNot (concT G W t))) : PT X e (concT G W (dNot t)) := pt_imp h fun vs H Qv ⟨σ, L, Q, E, S, en, q, k, kx⟩ =>
  conc_bindT (R := fun c L1 => Q (!c) L1) S en kx q fun b H1 L1 p1 S1 en1 kx1 q1 => (k.back p1).here S1 q1
/-- as values -/
def dAndV (t u : DTE) : DTE := fun σ L Q E => t σ L (fun d L1 => ∃ c, d = .bl c ∧ if c = true then u σ L1 Q E else Q (.bl false) L1) E
def dOrV (t u : DTE) : DTE := fun σ L Q E => t σ L (fun d L1 => ∃ c, d = .bl c ∧ if c = true then Q (.bl true) L1 else u σ L1 Q E) E
def dNotV (t : DTE) : DTE := fun σ L Q E => t σ L (fun d L1 => ∃ c, d = .bl c ∧ Q (.bl (!c)) L1) E
def dIte (c : DTT) (t u : DTE) : DTE := fun σ L Q E => c σ L (fun b L1 => if b = true then t σ L1 Q E else u σ L1 Q E) E
theorem ce_and {t u : DTE} (h : PE X e (tAndV (conc G W t) (conc G W u))) : PE X e (conc G W (dAndV t u)) := pe_imp h fun vs H Qv ⟨σ, L, Q, E, S, en, q, k, kx⟩ =>
  conc_bind (R := fun d L1 => ∃ c, d = .bl c ∧ if c = true then u σ L1 Q E else Q (.bl false) L1) S en kx q fun v H1 d L1 p1 S1 e1 en1 kx1 ⟨c, hc, q1⟩ => by
    subst hc
    cases e1
    refine ⟨c, rfl, ?_⟩
    cases c with
    | true => exact iteT (A := conc G W u vs H1 Qv) (B := Qv (.bl false) H1) ⟨σ, L1, Q, E, S1, en1, q1, k.back p1, kx1⟩
    | false => exact iteF (A := conc G W u vs H1 Qv) (B := Qv (.bl false) H1) ((k.back p1).here S1 (.bl _) q1)
theorem ce_or {t u : DTE} (h : PE X e (tOrV (conc G W t) (conc G W u))) : PE X e (conc G W (dOrV t u)) := pe_imp h fun vs H Qv ⟨σ, L, Q, E, S, en, q, k, kx⟩ =>
  conc_bind (R := fun d L1 => ∃ c, d = .bl c ∧ if c = true then Q (.bl true) L1 else u σ L1 Q E) S en kx q fun v H1 d L1 p1 S1 e1 en1 kx1 ⟨c, hc, q1⟩ => by
    subst hc
    cases e1
    refine ⟨c, rfl, ?_⟩
    cases c with
    | true => exact iteT (A := Qv (.bl true) H1) (B := conc G W u vs H1 Qv) ((k.back p1).here S1 (.bl _) q1)
    | false => exact iteF (A := Qv (.bl true) H1) (B := conc G W u vs H1 Qv) ⟨σ, L1, Q, E, S1, en1, q1, k.back p1, kx1⟩
theorem ce_not {t : DTE} (h : PE X e (tNotV (conc G W t))) : PE X e (conc G W (dNotV t)) := pe_imp h fun vs H Qv ⟨σ, L, Q, E, S, en, q, k, kx⟩ =>
  conc_bind (R := fun d L1 => ∃ c, d = .bl c ∧ Q (.bl (!c)) L1) S en kx q fun v H1 d L1 p1 S1 e1 en1 kx1 ⟨c, hc, q1⟩ => by
    subst hc
    cases e1
    exact ⟨c, rfl, (k.back p1).here S1 (.bl _) q1⟩
theorem ce_ite {c : DTT} {t u : DTE} (h : PE X e (tIf (concT G W c) (conc G W t) (conc G W u))) : PE X e (conc G W (dIte c t u)) := pe_imp h fun vs H Qv ⟨σ, L, Q, E, S, en, q, k, kx⟩ =>
  conc_bindT (R := fun b L1 => if b = true then t σ L1 Q E else u σ L1 Q E) S en kx q fun b H1 L1 p1 S1 en1 kx1 q1 => by
    cases b with
    | true => exact iteT (A := conc G W t vs H1 Qv) (B := conc G W u vs H1 Qv) ⟨σ, L1, Q, E, S1, en1, q1, k.back p1, kx1⟩
    | false => exact iteF (A := conc G W t vs H1 Qv) (B := conc G W u vs H1 Qv) ⟨σ, L1, Q, E, S1, en1, q1, k.back p1, kx1⟩
def wipeD (σ : Sl) : List Nat → Sl
  | [] => σ
  | v :: vs => (wipeD σ vs).set v none
def W0 : WX := fun _ _ _ _ => False
def X0 : Xd := fun _ _ _ => False
theorem EncS.none {O : Addr → Prop} (h : EncS G O H vs σ) (i : Nat) : EncS G O H (vs.set i none) (σ.set i none) := by
  refine ⟨by rw [List.length_set, List.length_set]; exact h.1, fun j x q => ?_⟩
  rw [List.getElem?_set] at q
  split at q
  · split at q <;> cases q
  · rename_i hij
    obtain ⟨u, h1, h2⟩ := h.2 j x q
    exact ⟨u, by rw [List.getElem?_set, if_neg hij]; exact h1, h2⟩
theorem EncS.wipe {O : Addr → Prop} (h : EncS G O H vs σ) : ∀ ws : List Nat, EncS G O H (L2.wipe vs ws) (wipeD σ ws)
  | [] => h
  | w :: ws => (EncS.wipe h ws).none w
def oYes : DTT := fun _ L Q _ => Q true L
/-- a turn's end: the list so far stands as it stood -/
def TurnTo (p : Addr) (acc : List D) (W : HL → Prop) (L : HL) : Prop := ∃ L', Ls L ((p, Ch.lst acc) :: L') ∧ W L'
def LI (q : Sq) (j : Nat) (tt : DTT) (te : DTE) (ws : List Nat) (σ : Sl) (Q : List D → HL → Prop) (W : Nat → List D → HL → Prop) : Prop := ∀ p i acc L2, W i acc L2 → q.live ((p, .lst acc) :: L2) ∧ (i = q.items.length → Q acc L2) ∧
  ∀ d, q.items[i]? = some d → tt ((wipeD σ ws).set j (some d)) ((p, .lst acc) :: L2) (fun b L4 => if b = true then te ((wipeD σ ws).set j (some d)) L4 (fun y L5 => TurnTo p acc (W (i + 1) (acc ++ [y])) L5) X0 else TurnTo p acc (W (i + 1) acc) L4) X0
def dLc (ti : DTI) (j : Nat) (tt : DTT) (te : DTE) (ws : List Nat) : DTE := fun σ L Q E => ti σ L (fun q L1 => ∃ W : Nat → List D → HL → Prop, W 0 [] L1 ∧ LI q j tt te ws σ (fun acc L2 => RetL acc L2 Q) W) E
end
end DM
set_option Elab.async false
set_option linter.all false
set_option maxRecDepth 100000
namespace DM
open PySem L2 PyProof.Rows
section
variable {G : Gw} {H H' : Hp} {L L' A B : HL} {vs : Sv} {σ : Sl} {X : Cx} {e tg iter : Expr} {W : WX}
theorem wipe_get (σ : Sv) (i : Nat) : ∀ ws : List Nat, (wipe σ ws)[i]? = if i ∈ ws then (if i < σ.length then some none else none) else σ[i]?
  | [] => rfl
  | w :: ws => by
    show ((wipe σ ws).set w none)[i]? = _
    rw [List.getElem?_set, wipe_get σ i ws, wipe_length]
    by_cases h : w = i
    · subst h
      rw [if_pos rfl, if_pos (List.mem_cons_self ..)]
    · rw [if_neg h]
      by_cases hm : i ∈ ws
      · rw [if_pos hm, if_pos (List.mem_cons_of_mem _ hm)]
      · rw [if_neg hm, if_neg fun z => (List.mem_cons.mp z).elim (fun z => h z.symm) hm]
theorem wipe_set {σ : Sv} {ws : List Nat} {j : Nat} {x : Option V} (hj : j ∈ ws) : wipe ((wipe σ ws).set j x) ws = wipe σ ws := by
  refine List.ext_getElem? fun i => ?_
  rw [wipe_get, List.length_set, wipe_length, wipe_get]
  by_cases h : i ∈ ws
  · rw [if_pos h, if_pos h]
  · rw [if_neg h, if_neg h, List.getElem?_set, if_neg (fun z => h (by rw [← z]; exact hj)), wipe_get, if_neg h]
theorem lc_imp {ti : DTI} {j : Nat} {tt : DTT} {te : DTE} {ws : List Nat} (hj : j ∈ ws) : ∀ vs H Qv, conc G W (dLc ti j tt te ws) vs H Qv → tLc (concI G W ti) (gName j) (concT G W0 tt) (conc G W0 te) ws vs H Qv :=
  fun vs H Qv ⟨σ, L, Q, E, S, en, q, k, kx⟩ => ⟨σ, L, _, E, S, en, q, fun J H1 q L1 p1 S1 ad lv ⟨Wd, w0, turn⟩ => by
    intro D hD
    have hn := ad.1
    refine ⟨fun i m H2 => m = q.items.length - i ∧ i ≤ q.items.length ∧ ∃ acc L2, acc.length ≤ i ∧ Sat G H2 ((D, .lst acc) :: L2) ∧ Pers (dom L1) H1 (dom ((D, Ch.lst acc) :: L2)) H2 ∧ Wd i acc L2,
      ⟨_, rfl, Nat.zero_le _, [], L1, Nat.le_refl _, S1.own hD (.lst upd_same (Nat.zero_le _) .nil), Pers.own hD, w0⟩, ?_⟩
    rintro i m H2 ⟨rfl, hi, acc, L2, hacc, S2, p2, w2⟩
    obtain ⟨lv2, hend, hturn⟩ := turn D i acc L2 w2
    obtain ⟨a1, a2⟩ := ad.2 i H2 _ p2 S2 lv2
    by_cases hl : i = q.items.length
    · refine .inl ⟨a1 hl, ?_⟩
      rcases hend hl with hq | hq
      · obtain ⟨S3, e3, p3⟩ := Le.ok (.lst (L := L2)) S2 (.ref D)
        exact k _ _ _ L2 ((p1.trans p2).trans p3) S3 e3 hq
      · exact k _ _ _ _ (p1.trans p2) S2 (.ref D) (hq D)
    · have hlt : i < q.items.length := by omega
      have hd : q.items[i]? = some q.items[i] := List.getElem?_eq_getElem hlt
      obtain ⟨go, hy⟩ := a2 _ hd
      refine .inr ⟨go, fun H' => i + 1 ≤ q.items.length ∧ ∃ acc L2, acc.length ≤ i + 1 ∧ Sat G H' ((D, .lst acc) :: L2) ∧ Pers (dom L1) H1 (dom ((D, Ch.lst acc) :: L2)) H' ∧ Wd (i + 1) acc L2, fun H' hw => ⟨q.items.length - (i + 1), by omega, rfl, hw⟩, fun x H3 hx => ?_⟩
      obtain ⟨p3, S3, ex⟩ := hy x H3 hx
      refine ⟨wipe_set hj, ?_⟩
      have en3 := (((en.pers p1).pers p2).pers p3).wipe ws |>.set ex j
      refine conc_bindT (R := fun b L4 => if b = true then te ((wipeD σ ws).set j (some q.items[i])) L4 (fun y L5 => TurnTo D acc (Wd (i + 1) (acc ++ [y])) L5) X0 else TurnTo D acc (Wd (i + 1) acc) L4) S3 en3 (fun _ _ _ _ _ _ _ _ _ _ _ z => z) (hturn _ hd) fun b H4 L4 p4 S4 en4 kx4 q4 => ?_
      cases b with
      | false =>
        obtain ⟨L5, s5, w5⟩ := q4
        exact iteF ⟨hlt, acc, L5, by omega, S4.ls s5, (((p2.trans p3).trans p4).trans (S4.lsl s5)), w5⟩
      | true =>
        refine iteT ?_
        refine conc_bind (R := fun y L5 => TurnTo D acc (Wd (i + 1) (acc ++ [y])) L5) S4 en4 kx4 q4 fun y H5 d L5 p5 S5 e5 en5 kx5 q5 => ?_
        obtain ⟨L6, s6, w6⟩ := q5
        have S6 := S5.ls s6
        have e6 := e5.pers (S5.lsl s6)
        obtain ⟨xs, hx6, z6, r6⟩ := own_lst S6 (Sp.here)
        have pp : Pers (dom ((D, Ch.lst acc) :: L6)) H5 (dom (put ((D, Ch.lst acc) :: L6) D (.lst (acc ++ [d])))) (upd H5 D (.lst (xs ++ [y]))) := Pers.write ⟨_, List.mem_cons_self ..⟩
        have hlen : xs.length = acc.length := r6.len
        have hlt2 : xs.length < sizeLine := by omega
        obtain ⟨S7, p7⟩ := S6.at_ Sp.here (c' := .lst (acc ++ [d])) (.lst upd_same (by rw [List.length_append]; exact hlt2) ((r6.append (.one e6)).pers pp))
        exact ⟨xs, hx6, hlt2, hlt, acc ++ [d], L6, by rw [List.length_append, List.length_singleton]; omega, S7, ((((p2.trans p3).trans p4).trans p5).trans (S5.lsl s6)).trans p7, w6⟩, kx⟩
theorem ce_lc {ti : DTI} {j : Nat} {tt : DTT} {te : DTE} {ws : List Nat} (hj : j ∈ ws) (h : PE X e (tLc (concI G W ti) (gName j) (concT G W0 tt) (conc G W0 te) ws)) : PE X e (conc G W (dLc ti j tt te ws)) := pe_imp h (lc_imp hj)
/-- name = [..], the swap of the two stores -/
theorem cs_setLc {st : Stmt} {ti : DTI} {i j : Nat} {tt : DTT} {te : DTE} {ws : List Nat} (hj : j ∈ ws) (h : PS X st (tAsg (tLc (concI G W ti) (gName j) (concT G W0 tt) (conc G W0 te) ws) (gName i))) : PS X st (concS G W (dAsg (dLc ti j tt te ws) (dName i))) :=
  ps_imp h fun Dv vs H ⟨σ, L, D, S, en, q, k, kr, kx⟩ => lc_imp hj vs H _ ⟨σ, L, fun d L1 => D.nx (σ.set i (some d)) L1, D.ex, S, en, q, fun v H1 d L1 p S1 e1 q1 => (k.back p).here S1 ((en.pers p).set e1 i) q1, kx⟩
abbrev DSp := List D → HL → Qd → (DX → HL → Prop) → Prop
/-- closed under weakening -/
def Cl (Q : Qd) : Qd := fun d L => ∃ d' L', Le d L d' L' ∧ Q d' L'
def ClX (E : DX → HL → Prop) : DX → HL → Prop := fun x L => ∃ L', L'.Sublist L ∧ E x L'
theorem cl {Q : Qd} {d : D} {L : HL} (h : Q d L) : Cl Q d L := ⟨d, L, .refl _ _, h⟩
theorem Cl.up {Q : Qd} : Up (Cl Q) := fun _ _ _ _ l ⟨d, L, l2, q⟩ => ⟨d, L, l.trans l2, q⟩
def UpX (E : DX → HL → Prop) : Prop := ∀ x L L', L'.Sublist L → E x L' → E x L
theorem ClX.up {E : DX → HL → Prop} : UpX (ClX E) := fun _ _ _ s ⟨L, s2, q⟩ => ⟨L, s2.trans s, q⟩
def KE_ (G : Gw) (L : HL) (H : Hp) (E : DX → HL → Prop) (Ev : XK) : Prop := ∀ cls d H' x L', Pers (dom L) H (dom L') H' → Sat G H' L' → XIs G (dom L') H' cls d x → E x L' → Ev cls d H'
def spOf (G : Gw) (n : Nat) (sp : DSp) : _root_.L2.Sp := fun vs H Qv Ev => ∃ ds L Q E, ds.length = n ∧ Sat G H L ∧ EncL G (dom L) H vs ds ∧ Up Q ∧ UpX E ∧ sp ds L Q E ∧ Kd G L H Q Qv ∧ KE_ G L H E Ev
theorem spOf_len {n : Nat} {sp : DSp} {vs : List V} {Q : VK} {E : XK} (h : spOf G n sp vs H Q E) : vs.length = n := by
  obtain ⟨ds, L, Q', E', hl, S, en, _⟩ := h
  rw [en.len]
  exact hl
theorem Kd.cl {Q : Qd} {Qv : VK} (k : Kd G L H Q Qv) : Kd G L H (Cl Q) Qv := fun v H' d L' p S e ⟨d2, L2, l, q⟩ => by
  obtain ⟨S2, e2, p2⟩ := l.ok S e
  exact k v H' d2 L2 (p.trans p2) S2 e2 q
theorem XIs.pers {O O' : Addr → Prop} {cls : Value} {d : Option Addr} {x : DX} (p : Pers O H O' H') (h : XIs G O H cls d x) : XIs G O' H' cls d x := by
  obtain ⟨C, h1, h2, h3⟩ := h
  refine ⟨C, h1, h2, h3.imp_right ?_⟩
  rintro ⟨e, v, dx, q1, q2, q3, q4, q5⟩
  exact ⟨e, v, dx, q1, q2, (p.keep q4 q3).2, (p.keep q4 q3).1, q5.pers p⟩
/-- the wish of an exception at the slots of a call -/
theorem ke_of {E : Xd} (en : EncS G (dom L) H vs σ) (kx : Kx G L H E W) : KE_ G L H (ClX (E σ)) (WE W vs) := fun cls d H' x L' p S xi ⟨L2, s, q⟩ =>
  have p2 := S.subl s
  kx cls d vs H' σ x L2 (p.trans p2) (S.sub s) ((en.pers p).pers p2) (xi.pers p2) q
/-- a call of a def -/
def dCall (n : Nat) (sp : DSp) (dv : List D) (t : DTA) : DTE := fun σ L Q E => t σ L (fun xs L1 => (xs ++ dv).length = n ∧ sp (xs ++ dv) L1 (Cl Q) (ClX (E σ))) E
theorem ce_call {n : Nat} {sp : DSp} {dv : List D} {dvs : List V} {t : DTA} (hdv : ∀ O H, EncL G O H dvs dv) (h : PE X e (L2.tCallSD (spOf G n sp) dvs (WE W) (concA G W t))) : PE X e (conc G W (dCall n sp dv t)) :=
  pe_imp h fun vs H Qv ⟨σ, L, Q, E, S, en, q, k, kx⟩ => conc_bindA (R := fun xs L1 => (xs ++ dv).length = n ∧ sp (xs ++ dv) L1 (Cl Q) (ClX (E σ))) S en kx q fun us H1 xs L1 p S1 e1 en1 kx1 ⟨hl, q1⟩ =>
    ⟨xs ++ dv, L1, Cl Q, ClX (E σ), hl, S1, e1.append (hdv _ _), Cl.up, ClX.up, q1, (k.back p).cl, ke_of en1 kx1⟩
/-- the body of a def -/
def start (n : Nat) (ds : List D) : Sl := ds.map some ++ List.replicate (n - ds.length) none
def VC (n m : Nat) (sp : DSp) (t : DTS) : Prop := ∀ ds L Q E, ds.length = m → Up Q → UpX E → sp ds L Q E → t ⟨fun _ L' => Q .non L', Q, fun _ x L' => E x L'⟩ (start n ds) L
end
end DM
set_option autoImplicit false
set_option Elab.async false
set_option linter.all false
set_option maxRecDepth 100000
namespace DM
open PySem L2 PyProof.Rows
/-- no object's text is being made around here -/
def Unseen (A : Around) : Prop := A.guards = some []
theorem Unseen.make {A : Around} {C : Addr} {us : List Value} (h : Unseen A) : Unseen (A.under (.builtin "type.__call__" ⟨.ref C :: us, []⟩)) := h
/-- what a def promises where no repr is under way -/
structure FnQ (P : Program) (w : World) (K : PySem.W.Frag) (mg : Str → Option Value) (base : Heap) (CX : CXT) (k : Nat) (f : Addr) (fd : FuncData) (ps : List Str) (sp : _root_.L2.Sp) : Prop where
  arity : ∀ {vs : List V} {H : Hp} {Q : VK} {E : XK}, sp vs H Q E → vs.length = ps.length
  does : ∀ {A : Around} {outer : List Env} {s : Shared} {H : Hp} {args : Args} {us : List Value} {vs : List V} {Q : VK} {E : XK}, Unseen A → Room k A → sp vs H Q E → Vals vs us → BindsTo s fd args (ps.zip us) → Env0 P w K mg base A outer s H →
    codeAny (model P w) A (.call (.ref f) args) (CR CX outer P w H s Q E) s
section
variable {X : Cx} {CX : CXT} {k : Nat} {f : Addr} {fd : FuncData} {ps : List Str} {sp : _root_.L2.Sp} {dvs : List V} {ds us : List Value} {vs : List V} {E : _root_.L2.St → XK} {pins : List (Addr × Obj)} {σ : _root_.L2.St} {H : Hp} {s : Shared} {Q : VK}
/-- .. and is called so, its last arguments by default -/
theorem FnQ.here (F : FnQ X.prog X.w X.K X.mg X.base CX k f fd ps sp) (g : Unseen X.A) (hr : Room k X.A) (hb : Binds X.K fd ps ds) (hd : Vals dvs ds) (hx : PassesAt CX X σ (E σ)) (I : Inv X pins σ H s) (r : Vals vs us) (h : sp (vs ++ dvs) H Q (E σ)) :
    wpAny (model X.prog X.w) X.A (call (.ref f) us) (EP X pins σ Q) X.xe s := by
  have both := r.append hd
  have run := F.does (args := ⟨us, []⟩) g hr h both (hb s us I.kIn (both.length ▸ F.arity h)) I.env0
  refine wpAny_call (codeAny_mono run ?_)
  rintro (err | fl) s2 q
  · exact hx pins H s err s2 I q
  · cases fl <;> first | exact I.after q | exact q.elim
/-- f(e, ..) -/
theorem pe_callQ {x : Str} {p pos : Pos} {e : Expr} {es : List Expr} {t : TA} (F : FnQ X.prog X.w X.K X.mg X.base CX k f fd ps sp) (g : Unseen X.A) (hr : Room k X.A) (named : Gl X x) (is : X.mg x = some (.ref f)) (kept : PySem.W.keepIn X.K (.ref f) = true) (hb : Binds X.K fd ps ds) (hd : Vals dvs ds)
    (hx : ∀ σ, PassesAt CX X σ (E σ)) (ha : PA X (e :: es) t) (nd : (x == ("__debug__" : Str)) = false) (one : starEach (e :: es) X.env = (false, eval e X.env) :: starEach es X.env) (rest : (backTo pos (starEach es X.env)).any (·.1) = false) :
    PE X (.Call (.Name x p) (e :: es) [] pos) fun σ H Q => t σ H fun vs H1 => sp (vs ++ dvs) H1 Q (E σ) :=
  ⟨fun pins s σ H _ I h => wpAny_Call_Name_kw (ld_glob I named is (PySem.W.callWith_K (h₀ := X.base) I.ok.mod.kin kept (thn (ha.run pos pins s σ H _ I h) fun _ _ ⟨_, _, J, r, q⟩ => ⟨J.kIn, F.here g hr hb hd (hx σ) J r q⟩) one rest) nd)⟩
end
end DM
set_option Elab.async false
set_option linter.all false
set_option maxRecDepth 100000
namespace DM
open PySem L2 PyProof.Rows
section
variable {G : Gw} {H H' : Hp} {L L' A B : HL} {vs : Sv} {σ : Sl} {X : Cx} {W : WX}
def isStar : Expr → Bool
  | .Starred .. => true
  | _ => false
theorem star_cons {e : Expr} {es : List Expr} {env : Env} (h : isStar e = false) : starEach (e :: es) env = (false, eval e env) :: starEach es env := by
  cases e <;> first | rfl | exact nomatch h
theorem star_none {env : Env} {pos : Pos} : ∀ {es : List Expr}, (es.all fun e => !isStar e) = true → (backTo pos (starEach es env)).any (·.1) = false
  | [], _ => rfl
  | e :: es, h => by
    rw [List.all_cons, Bool.and_eq_true] at h
    have h1 : isStar e = false := by simpa using h.1
    rw [star_cons h1]
    show (false || (backTo pos (starEach es env)).any (·.1)) = false
    rw [star_none h.2]
    rfl
theorem star_all {env : Env} {pos : Pos} : ∀ {es : List Expr}, (es.all fun e => !isStar e) = true → (backTo pos (starEach es env)).all (fun x => !x.1) = true
  | [], _ => rfl
  | e :: es, h => by
    rw [List.all_cons, Bool.and_eq_true] at h
    have h1 : isStar e = false := by simpa using h.1
    rw [star_cons h1]
    show (true && (backTo pos (starEach es env)).all (fun x => !x.1)) = true
    rw [star_all h.2]
    rfl
def isCall0 : Expr → Bool
  | .Call (.Name _ _) [] [] _ => true
  | _ => false
theorem base_of {o : Expr} {m : Str} {env : Env} {t : Sem Value} (h : isCall0 o = false) : attributeBase o m env t = t := by
  unfold attributeBase
  split
  · exact nomatch h
  · rfl
theorem few_of {es : List Expr} {env : Env} {pos : Pos} (h : (es.all fun e => !isStar e) = true) (hl : es.length < 20) :
    ((backTo pos (starEach es env)).all (fun x => !x.1) && (backToKw pos (keywordEach [] env)).all (fun x => x.1.isSome) && decide (es.length + ([] : List Keyword).length + (if ([] : List Keyword).isEmpty then 0 else 1) < 30)) = true := by
  rw [star_all h]
  show (true && true && decide (es.length + 0 + 0 < 30)) = true
  have : es.length + 0 + 0 < 30 := by omega
  rw [decide_eq_true this]
  rfl
theorem ht_of {o : Expr} {m : Str} {env : Env} {es : List Expr} {apos pos : Pos} (hb : isCall0 o = false) (h : (es.all fun e => !isStar e) = true) (hl : es.length < 20) (hp : (apos.endLine == pos.line) = true) :
    eval (.Call (.Attribute o m apos) es [] pos) env = (do
      let ov ← eval o env
      standAt apos.atName
      let (f, first) ← holding [ov] (getMethod ov m (do return (← importBound o env).getD true))
      callWith pos f first (backTo pos (starEach es env)) (backToKw pos (keywordEach [] env))) := by
  have hf : methodCallForm (es.length + ([] : List Keyword).length) (backTo pos (starEach es env)) (backToKw pos (keywordEach [] env)) = true := few_of h hl
  show (do
    let ov ← attributeBase o m env (eval o env)
    standAt apos.atName
    methodCall o m apos pos env ov (es.length + ([] : List Keyword).length) (backTo pos (starEach es env)) (backToKw pos (keywordEach [] env))) = _
  rw [base_of hb]
  unfold methodCall
  rw [hf]
  unfold calleeOf methodCallPos
  rw [hp]
  rfl
variable {CX : CXT} {k : Nat} {f C : Addr} {fd : FuncData} {ps : List Str} {sp : _root_.L2.Sp} {dvs : List V} {ds : List Value} {E : Sv → XK} {x m : Str} {p pos apos : Pos} {e o : Expr} {es : List Expr} {ta : TE} {t : TA}
def tMethX (C : Addr) (m : Str) (sp : _root_.L2.Sp) (dvs : List V) (E : Sv → XK) (ta : TE) (t : TA) : TE := fun σ H Q => ta σ H fun x H1 => ∃ a dx fs, x = .ref a ∧ H1 a = some (.ins C dx fs) ∧ fs.lookup m = none ∧
  t σ H1 fun vs H2 => sp (x :: (vs ++ dvs)) H2 Q (E σ)
theorem pe_methX (he : PE X o ta) (c : Cls X.K C) (hm : Meth X.K C m f) (F : FnQ X.prog X.w X.K X.mg X.base CX k f fd ps sp) (hgd : Unseen X.A) (hr : Room k X.A) (hb : Binds X.K fd ps ds) (hd : Vals dvs ds) (hx : ∀ σ, PassesAt CX X σ (E σ)) (ha : PA X (e :: es) t)
    (h0 : isCall0 o = false) (hs : ((e :: es).all fun e => !isStar e) = true) (hl : (e :: es).length < 20) (hp : (apos.endLine == pos.line) = true) : PE X (.Call (.Attribute o m apos) (e :: es) [] pos) (tMethX C m sp dvs E ta t) := by
  have hs' := hs
  rw [List.all_cons, Bool.and_eq_true] at hs'
  refine ⟨fun pins s σ H Q I h => PySem.W.methodCall_KW (thn (he.run pins s σ H _ I h) fun u s1 ⟨x, H1, I1, rx, a, dx, fs, ex, ea, l, q⟩ => ?_) (ht_of h0 hs hl hp)⟩
  subst ex
  obtain rfl : u = Value.ref a := rx
  refine getmeth_ok I1 ea c hm l (PySem.W.callWith_K (first := [.ref a]) (h₀ := X.base) I.ok.mod.kin hm.kp (thn (ha.run pos pins s1 σ H1 _ I1 q) fun us s2 ⟨vs, H2, I2, r, q2⟩ => ⟨I2.kIn, ?_⟩) (star_cons (by simpa using hs'.1)) (star_none hs'.2))
  exact FnQ.here (E := E) (us := .ref a :: us) (vs := .ref a :: vs) F hgd hr hb hd (hx σ) I2 (.cons rfl r) q2
theorem pe_methX0 (he : PE X o ta) (c : Cls X.K C) (hm : Meth X.K C m f) (F : FnQ X.prog X.w X.K X.mg X.base CX k f fd ps sp) (hgd : Unseen X.A) (hr : Room k X.A) (hb : Binds X.K fd ps ds) (hd : Vals dvs ds) (hx : ∀ σ, PassesAt CX X σ (E σ))
    (h0 : isCall0 o = false) (hp : (apos.endLine == pos.line) = true) : PE X (.Call (.Attribute o m apos) [] [] pos) (tMethX C m sp dvs E ta tNil) := by
  refine ⟨fun pins s σ H Q I h => PySem.W.methodCall_KW (thn (he.run pins s σ H _ I h) fun u s1 ⟨x, H1, I1, rx, a, dx, fs, ex, ea, l, q⟩ => ?_) (ht_of h0 rfl (by decide) hp)⟩
  subst ex
  obtain rfl : u = Value.ref a := rx
  exact getmeth_ok I1 ea c hm l (PySem.W.callWith_K0 (first := [.ref a]) I1.kIn hm.kp (FnQ.here (E := E) (us := [.ref a]) (vs := [.ref a]) F hgd hr hb hd (hx σ) I1 (.cons rfl .nil) q))
def tMakeX (C : Addr) (sp : _root_.L2.Sp) (dvs : List V) (E : Sv → XK) (t : TA) : TE := fun σ H Q => t σ H fun vs H1 => ∀ x dx, H1 x = none → H1 dx = none → dx ≠ x →
  sp (.ref x :: (vs ++ dvs)) (upd (upd H1 dx (.own x)) x (.ins C dx [])) (fun v H2 => v = .non ∧ Q (.ref x) H2) (E σ)
theorem run_makeX {pins : List (Addr × Obj)} {σ : Sv} {s : Shared} {Q : VK} {us : List Value} {vs : List V} (M : Mk X.K C f) (F : FnQ X.prog X.w X.K X.mg X.base CX k f fd ps sp) (hgd : Unseen X.A) (hr : Room (k + 1) X.A) (hb : Binds X.K fd ps ds) (hd : Vals dvs ds)
    (hx : PassesAt CX X σ (E σ)) (I : Inv X pins σ H s) (r : Vals vs us)
    (h : ∀ x dx, H x = none → H dx = none → dx ≠ x → sp (.ref x :: (vs ++ dvs)) (upd (upd H dx (.own x)) x (.ins C dx [])) (fun v H2 => v = .non ∧ Q (.ref x) H2) (E σ)) :
    wpAny (model X.prog X.w) X.A (call (.ref C) us) (EP X pins σ Q) X.xe s := by
  have q := h (s.heap.objs.size + 1) s.heap.objs.size (I.hok.fresh (Nat.le_succ _)) (I.hok.fresh (Nat.le_refl _)) (Nat.ne_of_lt (Nat.lt_succ_self _))
  have J := Inv.made (C := C) I
  have rr : Vals (V.ref (s.heap.objs.size + 1) :: (vs ++ dvs)) (Value.ref (s.heap.objs.size + 1) :: (us ++ ds)) := .cons rfl (r.append hd)
  have hl : (Value.ref (s.heap.objs.size + 1) :: us ++ ds).length = ps.length := rr.length.symm.trans (F.arity q)
  have run := F.does (args := ⟨Value.ref (s.heap.objs.size + 1) :: us, []⟩) hgd.make (hr.make C us []) q rr (hb _ (Value.ref (s.heap.objs.size + 1) :: us) J.kIn hl) (J.env0.make C us [])
  refine wpAny_call (make_map (f := f) I.kIn M.makes M.init (beq_iff_eq.mp M.fn) (codeAny_mono run fun r s' hq => ?_))
  match r, hq with
  | .error e, hq => exact hx pins _ _ e s' J hq
  | .ok (.ret u), hq =>
    obtain ⟨v, H', I3, rv, ev, q3⟩ := J.after hq
    subst ev
    exact ⟨rv, ⟨V.ref (s.heap.objs.size + 1), H', I3, rfl, q3⟩⟩
  | .ok .next, hq => exact False.elim hq
  | .ok .brk, hq => exact False.elim hq
  | .ok .cont, hq => exact False.elim hq
theorem pe_makeX (M : Mk X.K C f) (F : FnQ X.prog X.w X.K X.mg X.base CX k f fd ps sp) (hgd : Unseen X.A) (hr : Room (k + 1) X.A) (hg : Gl X x) (hm : X.mg x = some (.ref C)) (hb : Binds X.K fd ps ds) (hd : Vals dvs ds) (hx : ∀ σ, PassesAt CX X σ (E σ))
    (ha : PA X (e :: es) t) (hdb : (x == ("__debug__" : Str)) = false) (hs : ((e :: es).all fun e => !isStar e) = true) : PE X (.Call (.Name x p) (e :: es) [] pos) (tMakeX C sp dvs E t) := by
  have hs' := hs
  rw [List.all_cons, Bool.and_eq_true] at hs'
  exact ⟨fun pins s σ H Q I h => wpAny_Call_Name_kw (ld_glob I hg hm (PySem.W.callWith_K (h₀ := X.base) I.ok.mod.kin M.kp (thn (ha.run pos pins s σ H _ I h) fun us s1 ⟨vs, H1, I1, r, q⟩ => ⟨I1.kIn, run_makeX M F hgd hr hb hd (hx σ) I1 r q⟩) (star_cons (by simpa using hs'.1)) (star_none hs'.2)) hdb)⟩
def dMeth (c m : Str) (n : Nat) (sp : DSp) (dv : List D) (to : DTE) (t : DTA) : DTE := fun σ L Q E => to σ L (fun x L1 => ∃ fs, IsI L1 x c fs ∧ fs.lookup m = none ∧ t σ L1 (fun xs L2 => (x :: (xs ++ dv)).length = n ∧ sp (x :: (xs ++ dv)) L2 (Cl Q) (ClX (E σ))) E) E
theorem ce_meth {c : Str} {n : Nat} {sp : DSp} {dv : List D} {to : DTE} {t : DTA} {ee : Expr} (hC : G.ca c = some C) (hdv : ∀ O H, EncL G O H dvs dv) (h : PE X ee (tMethX C m (spOf G n sp) dvs (WE W) (conc G W to) (concA G W t))) : PE X ee (conc G W (dMeth c m n sp dv to t)) :=
  pe_imp h fun vs H Qv ⟨σ, L, Q, E, S, en, q, k, kx⟩ =>
  conc_bind (R := fun x L1 => ∃ fs, IsI L1 x c fs ∧ fs.lookup m = none ∧ t σ L1 (fun xs L2 => (x :: (xs ++ dv)).length = n ∧ sp (x :: (xs ++ dv)) L2 (Cl Q) (ClX (E σ))) E) S en kx q fun v H1 x L1 p S1 e1 en1 kx1 ⟨fs, hi, hn, q1⟩ => by
    obtain ⟨a, C', dx, vfs, rfl, g, ha, hk, r⟩ := hi.at_ S1 e1
    rw [hC] at g
    cases g
    exact ⟨a, dx, vfs, rfl, ha, lookup_none hk hn, conc_bindA (R := fun xs L2 => (x :: (xs ++ dv)).length = n ∧ sp (x :: (xs ++ dv)) L2 (Cl Q) (ClX (E σ))) S1 en1 kx1 q1 fun us H2 xs L2 p2 S2 e2 en2 kx2 ⟨hl, q2⟩ =>
      ⟨x :: (xs ++ dv), L2, Cl Q, ClX (E σ), hl, S2, .cons (e1.pers p2) (e2.append (hdv _ _)), Cl.up, ClX.up, q2, ((k.back p).back p2).cl, ke_of en2 kx2⟩⟩
def dMake (c : Str) (n : Nat) (sp : DSp) (dv : List D) (t : DTA) : DTE := fun σ L Q E => t σ L (fun xs L1 => ∀ p, (D.ref p :: (xs ++ dv)).length = n ∧ sp (.ref p :: (xs ++ dv)) ((p, .ins c []) :: L1) (Cl fun d L2 => d = .non ∧ Cl Q (.ref p) L2) (ClX (E σ))) E
theorem ce_make {c : Str} {n : Nat} {sp : DSp} {dv : List D} {t : DTA} {ee : Expr} (hC : G.ca c = some C) (hdv : ∀ O H, EncL G O H dvs dv) (h : PE X ee (tMakeX C (spOf G n sp) dvs (WE W) (concA G W t))) : PE X ee (conc G W (dMake c n sp dv t)) :=
  pe_imp h fun vs H Qv ⟨σ, L, Q, E, S, en, q, k, kx⟩ => conc_bindA (R := fun xs L1 => ∀ p, (D.ref p :: (xs ++ dv)).length = n ∧ sp (.ref p :: (xs ++ dv)) ((p, .ins c []) :: L1) (Cl fun d L2 => d = .non ∧ Cl Q (.ref p) L2) (ClX (E σ))) S en kx q
    fun us H1 xs L1 p S1 e1 en1 kx1 q1 x dx hx hdx ne => by
      obtain ⟨hl, q2⟩ := q1 x
      have Sa : Sat G (upd H1 dx (.own x)) L1 := S1.new hdx
      have hx2 : upd H1 dx (.own x) x = none := by rw [upd_ne ne.symm]; exact hx
      have Sb := Sa.own (c := .ins c []) hx2 (.ins (C := C) (dx := dx) (vfs := []) hC upd_same (Nat.zero_le _) rfl .nil)
      have pb : Pers (dom L1) H1 (dom ((x, Ch.ins c []) :: L1)) (upd (upd H1 dx (.own x)) x (.ins C dx [])) := (Pers.new (O := dom L1) hdx).trans (Pers.own hx2)
      refine ⟨.ref x :: (xs ++ dv), _, _, _, hl, Sb, .cons (.ref x) ((e1.pers pb).append (hdv _ _)), Cl.up, ClX.up, q2, ?_, ke_of (en1.pers pb) (kx1.back pb)⟩
      refine Kd.cl (Q := fun d L2 => d = .non ∧ Cl Q (.ref x) L2) fun v H2 d L2 p2 S2 e2 ⟨hd, q3⟩ => ?_
      subst hd
      cases e2
      exact ⟨rfl, (((k.back p).back pb).back p2).cl.here S2 (.ref x) q3⟩
/-- raise C('..') -/
def dRaise (x : DX) : DTS := fun D σ L => D.ex σ x L
theorem cs_raise {st : Stmt} {c : Str} (hC : G.ca c = some C) (h : PS X st (fun _ σ H => (fun _ H Q => Q (Value.ref C) none H : Sv → Hp → XK → Prop) σ H fun cls d H' => W cls d σ H')) : PS X st (concS G W (dRaise (c, none))) := ps_imp h fun Dv vs H ⟨σ, L, D, S, en, q, k, kr, kx⟩ =>
  kx _ _ vs H σ (c, none) L (Pers.refl _ _) S en ⟨C, hC, rfl, .inl ⟨rfl, rfl⟩⟩ q
end
def truD : D → Option Bool
  | .non => some false
  | .bl b => some b
  | .int i => some (decide (i ≠ 0))
  | .str x => some (decide (x.length ≠ 0))
  | .tup ds => some (decide (ds.length ≠ 0))
  | _ => none
def dOr2 (t u : DTE) : DTE := fun σ L Q E => t σ L (fun d L1 => ∃ c, truD d = some c ∧ if c = true then Q d L1 else u σ L1 Q E) E
def dgFld (fds : Str → List Str) (to : DTE) (f : Str) : DTG := fun d σ L Q E => to σ L (fun o L2 => ∃ p c fs A B, o = .ref p ∧ Sp L2 p (.ins c fs) A B ∧ f ∈ fds c ∧ fs.length < 90 ∧ Q σ (A ++ (p, .ins c (putD f d fs)) :: B)) E
section
variable {G : Gw} {X : Cx} {W : WX} {e tg : Expr}
theorem tru_enc {O : Addr → Prop} {H : Hp} {v : V} {d : D} {c : Bool} (e : Enc G O H v d) (h : truD d = some c) : TruV G.K v H c := by
  cases e <;> first | (cases h; done) | skip
  · cases h
    rfl
  · cases h
    rfl
  · rename_i i
    cases h
    show decide (i ≠ 0) = (i != 0)
    by_cases q : i = 0 <;> simp [q]
  · rename_i x hx
    cases h
    refine ⟨hx, ?_⟩
    by_cases q : x.length = 0 <;> simp [q]
  · rename_i a xs ds h1 h2 h3
    cases h
    refine .inr (.inl ⟨xs, h1.sq, ?_⟩)
    rw [← h3.len]
    cases xs <;> simp
theorem ce_or2 {t u : DTE} (hK : X.K = G.K) (h : PE X e (tOrT X.K (conc G W t) (conc G W u))) : PE X e (conc G W (dOr2 t u)) := pe_imp h fun vs H Qv ⟨σ, L, Q, E, S, en, q, k, kx⟩ =>
  conc_bind (R := fun d L1 => ∃ c, truD d = some c ∧ if c = true then Q d L1 else u σ L1 Q E) S en kx q fun v H1 d L1 p1 S1 e1 en1 kx1 ⟨c, hc, q1⟩ => by
    refine ⟨c, hK ▸ tru_enc e1 hc, ?_⟩
    cases c with
    | true => exact iteT (A := Qv v H1) (B := conc G W u vs H1 Qv) ((k.back p1).here S1 e1 q1)
    | false => exact iteF (A := Qv v H1) (B := conc G W u vs H1 Qv) ⟨σ, L1, Q, E, S1, en1, q1, k.back p1, kx1⟩
def gFldT (K : PySem.W.Frag) (ta : TE) (f : Str) : TG := fun y σ H Q => ta σ H fun x H2 => ∃ a C dx fs, x = .ref a ∧ H2 a = some (.ins C dx fs) ∧ Cls K C ∧ NoAttr K C f ∧ fs.length < 1000 ∧ Q σ (upd H2 a (.ins C dx (putF f y fs)))
theorem pg_fld {o : Expr} {f : Str} {pos : Pos} {ta : TE} (ha : PE X o ta) : PG X (.Attribute o f pos) (gFldT X.K ta f) := by
  refine ⟨fun pins s σ H v u Q I r h => ?_⟩
  rw [PySem.assign_Attribute]
  refine wpAny_bind (wpAny_holding (thn (ha.run pins s σ H _ I h) fun ov s1 ⟨x, H1, I1, r1, a, C, dx, fs, ex, ea, c, n, l, q⟩ => ?_))
  subst ex
  obtain rfl : ov = Value.ref a := r1
  refine wpAny_bind (wpAny_standAt (wpAny_bind (wpAny_holding (setattr_ok I1 ea c n l r fun s3 I3 => ?_))))
  exact wpAny_release ⟨σ, _, I3, q⟩
theorem cg_fld {fds : Str → List Str} {to : DTE} {f : Str} (F : Fds G fds) (h : PG X tg (gFldT G.K (conc G W to) f)) : PG X tg (concG G W (dgFld fds to f)) := pg_imp h fun v vs H R ⟨d, σ, L, Q, E, S, en, ev, q, k, kx⟩ =>
  conc_bind (R := fun o L2 => ∃ p c fs A B, o = .ref p ∧ Sp L2 p (.ins c fs) A B ∧ f ∈ fds c ∧ fs.length < 90 ∧ Q σ (A ++ (p, .ins c (putD f d fs)) :: B)) S en kx q fun x H2 o L2 p2 S2 e2 en2 kx2 ⟨p, c, fs, A, B, ho, sp, hf, hl, q2⟩ => by
    subst ho
    cases e2
    cases S2.ok _ _ sp.mem with
    | @ins C dx _ vfs _ g hx z n r =>
      have hlen : vfs.length = fs.length := by
        have := congrArg List.length n
        rw [List.length_map, List.length_map] at this
        exact this
      obtain ⟨n1, r1⟩ := putF_rel (f := f) (ev.pers p2) n r
      have pp : Pers (dom L2) H2 (dom (put L2 p (.ins c (putD f d fs)))) (upd H2 p (.ins C dx (putF f v vfs))) := Pers.write ⟨_, sp.mem⟩
      obtain ⟨S3, p3⟩ := S2.at_ sp (c' := .ins c (putD f d fs)) (.ins g upd_same (by have := putF_len (f := f) (v := v) (vk := vfs); omega) n1 (r1.pers pp))
      exact ⟨p, C, dx, vfs, rfl, hx, F.cls c C f g hf, F.no c C f g hf, by omega, k _ _ _ _ (p2.trans p3) S3 (en2.pers p3) q2⟩
end
end DM
set_option Elab.async false
set_option linter.all false
set_option maxRecDepth 100000
namespace DM
open PySem PySem.Spec PyProof.Rows
/-- how many different ones -/
def dcount : List Str → Nat
  | [] => 0
  | x :: r => if x ∈ r then dcount r else dcount r + 1
theorem dcount_snoc (x : Str) : ∀ l : List Str, dcount (l ++ [x]) = if x ∈ l then dcount l else dcount l + 1
  | [] => rfl
  | a :: l => by
    have ih := dcount_snoc x l
    show (if a ∈ l ++ [x] then dcount (l ++ [x]) else dcount (l ++ [x]) + 1) = if x ∈ a :: l then (if a ∈ l then dcount l else dcount l + 1) else (if a ∈ l then dcount l else dcount l + 1) + 1
    rw [ih]
    by_cases h1 : x = a
    · subst h1
      by_cases h2 : x ∈ l <;> simp [h2]
    · have h1' : ¬ a = x := fun e => h1 e.symm
      by_cases h2 : x ∈ l <;> by_cases h3 : a ∈ l <;> simp [h1, h1', h2, h3]
theorem dcount_le : ∀ l : List Str, dcount l ≤ l.length
  | [] => Nat.le_refl _
  | a :: l => by
    have := dcount_le l
    show (if a ∈ l then dcount l else dcount l + 1) ≤ l.length + 1
    split <;> omega
theorem dcount_nodup : ∀ l : List Str, dcount l = l.length ↔ l.Nodup
  | [] => by simp [dcount]
  | a :: l => by
    have h := dcount_le l
    have ih := dcount_nodup l
    rw [List.nodup_cons, ← ih]
    show (if a ∈ l then dcount l else dcount l + 1) = l.length + 1 ↔ _
    by_cases hm : a ∈ l <;> simp [hm]
    omega
theorem take_snoc {l : List Str} {i : Nat} (h : i < l.length) : l.take (i + 1) = l.take i ++ [l.getD i Str.empty] := by
  rw [List.take_succ, List.getElem?_eq_getElem h, List.getD_eq_getElem?_getD, List.getElem?_eq_getElem h]
  rfl
def SetIs (P : Program) (w : World) (h : Heap) (a : Addr) (l : List Str) : Prop := h.SetOf (PySem.strKind P w) a (fun k => decide (k ∈ l)) (dcount l)
theorem SetIs.keep {P : Program} {w : World} {h h' : Heap} {a : Addr} {l : List Str} (S : SetIs P w h a l) (k : ∀ o, h.get? a = some o → h'.get? a = some o) : SetIs P w h' a l := by
  obtain ⟨o, es, ep, tb, ho, z⟩ := S
  exact ⟨o, es, ep, tb, k o ho, z⟩
section
variable {P : Program} {w : World} {A : Around} {R : Result → Shared → Prop} {I S : Addr} {fp wr : List Addr} {G : Array GenState → Array GenState → Prop} {n : Nat} {Pv : Nat → Value → Prop} {St : Nat → Shared → Prop} {E : Value → Shared → Prop} {s : Shared}
theorem set_add {l : List Str} {x : Str} {t : Tok} {Q : Bool → Shared → Prop} (hS : SetIs P w s.heap S l) (hb : l.length + 1 < scanBound)
    (h : ∀ b h' tk, s.toks ≤ tk → Heap.SameBut S s.heap h' → SetIs P w h' S (l ++ [x]) → Q b { s with heap := h', toks := tk }) : wpAny (model P w) A (setAdd S (.str x t)) Q E s := by
  unfold setAdd
  refine wpAny_holding (wpAny_bind ((PySem.strKind P w).pyHash (k := x) (strKind_is _ _ _ _) ?_))
  have hl := dcount_le l
  refine wpAny_setAddHashed_of (knd := PySem.strKind P w) (s := { s with toks := s.toks + 1 }) (strKind_is _ _ _ _) rfl hS (by omega) fun h' sb S2 => h _ h' _ (Nat.le_succ _) sb ?_
  unfold SetIs
  rw [dcount_snoc]
  refine SetOf_congr S2 (fun k => ?_) (by by_cases e : x ∈ l <;> simp [e])
  by_cases e1 : k ∈ l <;> by_cases e2 : k = x <;> simp [e1, e2]
theorem set_loop (W : WalksS P w A.in1 I fp wr G n Pv St) (hSf : S ∉ fp) {xs : List Str} (hn : xs.length = n) (hb : n + 1 < scanBound) (hval : ∀ i v, Pv i v → ∃ t, v = .str (xs.getD i Str.empty) t)
    (k i : Nat) (s : Shared) (hk : n = i + k) (hst : St i s) (hS : SetIs P w s.heap S (xs.take i)) (hR : ∀ s', Moved (S :: wr) G s s' → SetIs P w s'.heap S xs → R (.ok (.ret .none)) s') :
    codeAny (model P w) A (.builtin "set.update.loop" ⟨[.ref S, .ref I], []⟩) R s := by
  have out : S ∉ wr := fun q => hSf (W.sub _ q)
  have enter : ∀ {Z : Around → Prop}, Z A.in1 → Z (A.under (.builtin "set.update.loop" ⟨[.ref S, .ref I], []⟩)) := fun {Z} z => (Around.under_plainId PyProof.Rows.F.plain_set_update_loop _).symm ▸ z
  refine codeAny_builtin PyProof.Rows.F.entry_set_update_loop (enter (Z := fun B => wpAny (model P w) B (Builtin.«set.update.loop» ⟨[.ref S, .ref I], []⟩) _ _ s) (wpAny_bind ?_))
  match k, hk with
  | 0, hk =>
    obtain rfl : i = n := hk.symm
    rw [← hn, List.take_length] at hS
    exact W.done s _ _ hst fun s' m => wpAny_pure (hR s' ⟨fun b o q => m.heap b o fun q' => q (.tail _ q'), m.gens, m.drawn, m.os, m.toks⟩ (hS.keep fun o => m.heap S o out))
  | k + 1, hk =>
    refine W.item i s _ _ (by omega) hst fun v s1 hv hst1 m => ?_
    obtain ⟨t, rfl⟩ := hval i v hv
    refine wpAny_bind (wpAny_holding (set_add (hS.keep fun o => m.heap S o out) (by rw [List.length_take]; omega) fun b h' tk htk sb S2 => ?_))
    refine wpAny_pure ⟨plainId_quiet PyProof.Rows.F.plain_set_update_loop _, ?_⟩
    rw [← take_snoc (by omega)] at S2
    have keep : ∀ b o, b ≠ S → s1.heap.get? b = some o → h'.get? b = some o := fun b o nb q => (sb.2 b nb).trans q
    exact set_loop W hSf hn hb hval k (i + 1) _ (by omega) (W.frame _ s1 _ _ hst1 htk fun b hbf o => keep b o fun q => hSf (q ▸ hbf)) S2 fun s2 m2 S3 =>
      hR s2 ⟨fun b o q u => m2.heap b o q (keep b o (fun z => q (z ▸ .head _)) (m.heap b o (fun z => q (.tail _ z)) u)), W.gtrans _ _ _ m.gens m2.gens, m2.drawn.trans m.drawn, m2.os.trans m.os, Nat.le_trans (Nat.le_trans m.toks htk) m2.toks⟩ S3
/-- a type whose things set() walks, what its iterator is -/
def IsSq (T : String) (h : Heap) (a : Addr) (items : Array Value) : Prop := ∃ o, h.get? a = some o ∧ o.cls = .type T ∧ ∃ n, o.data = .seq items n
structure Walkt (P : Program) (w : World) (T IT : String) : Prop where
  ns : isSubtype (.type T) (.type "set") = pure false
  nf : isSubtype (.type T) (.type "frozenset") = pure false
  nd : (Value.type T == Value.type "dict") = false
  iter : ∀ {A : Around} {E : Value → Shared → Prop} {s : Shared} {l : Addr} {items : Array Value} {Q : Value → Shared → Prop}, IsSq T s.heap l items → Q (.ref s.heap.objs.size) { s with heap := s.heap.push { cls := .type IT, data := .fields #[.ref l, .int 0 0] } } → wpAny (model P w) A (pyIter (.ref l)) Q E s
  walk : ∀ {A : Around}, A.handled = none → ∀ (I l : Addr), l ≠ I → ∀ items : Array Value, Walks P w A I [I, l] [I] items.size (fun i v => items[i]? = some v) (fun i h => (∃ o, h.get? I = some o ∧ o.cls = .type IT ∧ o.data = .fields #[.ref l, .int i 0]) ∧ IsSq T h l items)
theorem wk_list : Walkt P w "list" "list_iterator" := ⟨PySem.F.sub_list_set, PySem.F.sub_list_frozenset, by decide, fun hl q => wpAny_pyIter_list hl q, fun hh I l ne items => Walks.list hh I l ne items⟩
theorem wk_tuple : Walkt P w "tuple" "tuple_iterator" := ⟨PySem.F.sub_tuple_set, PySem.F.sub_tuple_frozenset, by decide, fun hl q => wpAny_pyIter_tuple hl q, fun hh I l ne items => Walks.tuple hh I l ne items⟩
def emptySet (led : Bool) : Obj := { cls := .type "set", dict := none, data := .set #[] 0 (.fresh 0 0 led) }
theorem SetIs.fresh {h : Heap} {a : Addr} {led : Bool} (e : h.get? a = some (emptySet led)) : SetIs P w h a [] :=
  SetOf_congr ((setObjOf_fresh (knd := PySem.strKind P w) led).setOf e (by unfold scanBound; omega)) (fun k => by simp) rfl
theorem IsSq.kept {T : String} {h h' : Heap} {l : Addr} {items : Array Value} (x : IsSq T h l items) (k : ∀ o, h.get? l = some o → h'.get? l = some o) : IsSq T h' l items :=
  let ⟨o, e, r⟩ := x
  ⟨o, k o e, r⟩
/-- what set.__init__ does with what is walked -/
theorem init_fill {T IT : String} (wk : Walkt P w T IT) (hh : A.handled = none) {l : Addr} {items : Array Value} {xs : List Str} {led : Bool} (hS : s.heap.get? S = some (emptySet led)) (hl : IsSq T s.heap l items) (hi : StrsAre items.toList xs) (hb : items.size + 1 < scanBound) (hlS : l ≠ S)
    {Q : Unit → Shared → Prop} (h : ∀ h' tk, SetIs P w h' S xs → (∀ b o, b ≠ S → s.heap.get? b = some o → h'.get? b = some o) → Q () { s with heap := h', toks := tk }) :
    wpAny (model P w) A (Builtin.Frozenset.updateFrom "set.__init__" S (.ref l)) Q E s := by
  have hl2 := hl
  obtain ⟨⟨oc, od, ot, os⟩, ho, hc, nl, hd⟩ := hl
  simp only at hc hd
  subst hc
  subst hd
  have k1 := wk.ns
  have k2 := wk.nf
  have k3 := wk.nd
  unfold Builtin.Frozenset.updateFrom
  generalize hPI : pyIter = PI
  wp_walk
  subst hPI
  refine wk.iter hl2 ?_
  refine wpAny_bind (wpAny_runValue ?_)
  have hSl := Heap.lt_size hS
  have hll := Heap.lt_size ho
  have up : ∀ b o, s.heap.get? b = some o → (s.heap.push { cls := .type IT, data := .fields #[.ref l, .int 0 0] }).get? b = some o := fun b o e => Heap.get?_push_of_some _ e
  have hh3 : A.in1.handled = none := by simp [hh]
  refine set_loop ((wk.walk hh3 s.heap.objs.size l (Nat.ne_of_lt hll) items).toS) (S := S) ?_ (xs := xs) ?_ hb (fun i v hv => SS.strs_at hi i v (by rw [Array.getElem?_toList]; exact hv)) items.size 0 _ (by omega) ⟨⟨_, Heap.get?_push_size _ rfl, rfl, rfl⟩, hl2.kept fun o e => up l o e⟩ (SetIs.fresh (up S _ hS)) ?_
  · intro q
    rcases List.mem_cons.mp q with q | q
    · exact Nat.ne_of_lt hSl q
    · exact hlS (List.mem_singleton.mp q).symm
  · rw [← StrsAre.len_eq hi, Array.length_toList]
  · intro s1 m hS1
    obtain ⟨h', g1, d1, t1, o1⟩ := s1
    have e1 : g1 = s.gens := m.gens
    have e2 : d1 = s.drawn := m.drawn
    have e3 : o1 = s.os := m.os
    subst e1 e2 e3
    exact wpAny_pure (h h' t1 hS1 fun b o nb e => m.heap b o (fun q => by
      rcases List.mem_cons.mp q with q | q
      · exact nb q
      · exact Nat.ne_of_lt (Heap.lt_size e) (List.mem_singleton.mp q)) (up b o e))
set_option maxHeartbeats 4000000 in
theorem set_of {T IT : String} (wk : Walkt P w T IT) (hh : A.handled = none) {l : Addr} {items : Array Value} {xs : List Str} (hl : IsSq T s.heap l items) (hi : StrsAre items.toList xs) (hb : items.size + 1 < scanBound)
    {Q : Value → Shared → Prop} (h : ∀ h' tk, SetIs P w h' s.heap.objs.size xs → (∀ b o, s.heap.get? b = some o → h'.get? b = some o) → Q (.ref s.heap.objs.size) { s with heap := h', toks := tk }) :
    wpAny (model P w) A (call (.type "set") [.ref l]) Q E s := by
  have ⟨_, _, hmro⟩ := PySem.F.called_set.mro
  have f1 := PySem.F.called_set.made
  have f2 := PySem.F.called_set.sub
  have f3 := PySem.F.called_set.notType
  have f4 := PySem.F.called_set.canCreate
  have f5 := PySem.F.typeCall_set_1 (.ref l)
  refine wpAny_call (codeAny_of_tree ?_)
  show wpAny _ _ (callAny (.type "set") _) _ _ _
  refine wpAny_pure ⟨Code.quiet_builtin _ (by decide +kernel), codeAny_builtin PySem.F.entry_type_call ?_⟩
  rw [Around.under_plain (weight_type_call_type "set" [.ref l] []) rfl]
  repeat (any_goals (first | assumption | wp_step))
  refine codeAny_mono (code_set_new_1 (.ref l) (E := E) (Q₁ := fun v s1 => ∃ led, v = .ref s.heap.objs.size ∧ s1 = { s with heap := s.heap.push (emptySet led) }) fun led => ⟨led, rfl, rfl⟩) fun r s1 hr => ?_
  match r, hr with
  | .error _, hr => exact hr
  | .ok .next, hr => exact hr.elim
  | .ok .brk, hr => exact hr.elim
  | .ok .cont, hr => exact hr.elim
  | .ok (.ret _), ⟨led, e1, e2⟩ =>
    subst e1 e2
    have hS : (s.heap.push (emptySet led)).get? s.heap.objs.size = some (emptySet led) := Heap.get?_push_size _ rfl
    have hT : Shared.TypeIs { s with heap := s.heap.push (emptySet led) } (.ref s.heap.objs.size) "set" := ⟨_, hS, rfl⟩
    have g1 := PySem.F.called_set.init.lookup
    have g2 := PySem.F.called_set.init.bind (.ref s.heap.objs.size)
    repeat (any_goals (first | assumption | wp_step))
    have hlS : l < s.heap.objs.size := let ⟨_, e, _⟩ := hl; Heap.lt_size e
    refine codeAny_mono (codeAny_call_builtin (R := wants (fun r s2 => r = .none ∧ ∃ h' tk, s2 = { s with heap := h', toks := tk } ∧ SetIs P w h' s.heap.objs.size xs ∧ ∀ b o, s.heap.get? b = some o → h'.get? b = some o) E) PySem.F.called_set.init.plain PySem.F.entry_set_init (check_set_init_1 hT ?_)) fun r2 s2 hr2 => ?_
    · unfold Builtin.«set.__init__» noKeywords
      generalize hU : Builtin.Frozenset.updateFrom = U
      have hS' := hS
      wp_walk
      subst hU
      refine init_fill wk (by simp [hh]) hS (hl.kept fun o e => Heap.get?_push_of_some _ e) hi hb (Nat.ne_of_lt hlS) fun h' tk S' k => wpAny_pure ⟨rfl, h', tk, rfl, S', fun b o e => k b o (Nat.ne_of_lt (Heap.lt_size e)) (Heap.get?_push_of_some _ e)⟩
    · match r2, hr2 with
      | .error _, hr => exact hr
      | .ok .next, hr => exact hr.elim
      | .ok .brk, hr => exact hr.elim
      | .ok .cont, hr => exact hr.elim
      | .ok (.ret _), ⟨e1, h', tk, e2, hS', hk⟩ =>
        subst e1 e2
        repeat (any_goals (first | assumption | wp_step))
        exact h _ _ hS' hk
end
end DM
set_option Elab.async false
set_option linter.all false
set_option maxRecDepth 100000
namespace DM
open PySem PySem.Spec L2 PyProof.Rows
section
variable {G : Gw} {H H' : Hp} {L L' A B : HL} {vs : Sv} {σ : Sl} {X : Cx} {W : WX}
def tLens (K : PySem.W.Frag) (ta : TE) : TE := fun σ H Q => ta σ H fun x H1 => ∃ l, ∃ xs : List Str, x = .ref l ∧ (SqL K H1 l (xs.map V.str) ∨ SqT K H1 l (xs.map V.str)) ∧ xs.length ≤ 4000 ∧ Q (.int (dcount xs : Nat)) H1
theorem strs_are : ∀ {ys : List Str} {us : List Value}, Vals (ys.map V.str) us → StrsAre us ys
  | [], _, .nil => .nil
  | y :: ys, _, .cons ⟨k, e⟩ t => e ▸ .cons y k (strs_are t)
theorem len_of {sv : Sv} {pins : List (Addr × Obj)} {H : Hp} {s : Shared} {xs : List Str} {h' : Heap} {tk : Nat} {Q : VK} {a : Addr} (I : L2.Inv X pins sv H s) (S : SetIs X.prog X.w h' a xs) (k : ∀ b o, s.heap.get? b = some o → h'.get? b = some o) (hl : xs.length ≤ 4000) (q : Q (.int (dcount xs : Nat)) H) :
    wpAny (model X.prog X.w) X.A (call (.builtin "len") [.ref a]) (EP X pins sv Q) X.xe { s with heap := h', toks := tk } := by
  obtain ⟨o, es, ep, t, ho, hex, hd, _, _, _, hf, hn⟩ := S
  have := dcount_le xs
  have I2 : L2.Inv X pins sv H { s with heap := h', toks := tk } := I.kept k
  exact call_len_set ho hex hd hf (by omega) ⟨.int (dcount xs : Nat), H, I2.tok _, ⟨_, by rw [hn]⟩, q⟩
theorem pe_lens {a : Expr} {ta : TE} {p p2 q pos : Pos} (hc : X.calm = true) (hg : Gl X "len") (hm : X.mg "len" = none) (hg2 : Gl X "set") (hm2 : X.mg "set" = none) (ha : PE X a ta)
    (na : starEach [a] X.env = (false, eval a X.env) :: starEach [] X.env) : PE X (.Call (.Name "len" p) [.Call (.Name "set" p2) [a] [] q] [] pos) (tLens X.K ta) := by
  refine ⟨fun pins s σ H Q I h => Call_ (ld_blt I hg hm boot_len (callWith_builtin1 (args_cons (Call_ (ld_blt I hg2 hm2 boot_set (callWith_type1 (args_cons (thn (ha.run pins s σ H _ I h) fun v s1 ⟨x, H1, I1, r1, l, xs, e, hq, hl, q1⟩ => args_nil ?_) na) na rfl))) rfl) rfl rfl))⟩
  subst e
  obtain rfl : v = .ref l := r1
  have hz : ∀ {its : List Value}, Vals (xs.map V.str) its → its.toArray.size + 1 < scanBound := fun {its} r => by
    have : its.toArray.size = xs.length := by rw [List.size_toArray, ← r.length, List.length_map]
    unfold scanBound
    omega
  rcases hq with hq | hq
  · obtain ⟨its, r, pl, _⟩ := I1.list hq
    exact set_of wk_list (I1.ok.hd hc) pl.isList (by simpa using strs_are r) (hz r) fun h' tk S k => args_nil (len_of (tk := tk) (Q := Q) I1 S k hl q1)
  · obtain ⟨its, r, pl, _⟩ := I1.tuple hq
    exact set_of wk_tuple (I1.ok.hd hc) pl (by simpa using strs_are r) (hz r) fun h' tk S k => args_nil (len_of (tk := tk) (Q := Q) I1 S k hl q1)
def dLenSet (t : DTE) : DTE := fun σ L Q E => t σ L (fun x L1 => ∃ ns : List Str, IsS L1 x (ns.map D.str) ∧ ns.length ≤ 4000 ∧ Q (.int (dcount ns : Nat)) L1) E
theorem ce_lenset {t : DTE} {e : Expr} (h : PE X e (tLens G.K (conc G W t))) : PE X e (conc G W (dLenSet t)) := pe_imp h fun vs H Qv ⟨σ, L, Q, E, S, en, q, k, kx⟩ =>
  conc_bind (R := fun x L1 => ∃ ns : List Str, IsS L1 x (ns.map D.str) ∧ ns.length ≤ 4000 ∧ Q (.int (dcount ns : Nat)) L1) S en kx q fun v H1 x L1 p S1 e1 en1 kx1 ⟨ns, hs, hl, q1⟩ => by
    obtain ⟨a, xs, rfl, h1, _, r⟩ := hs.at_ S1 e1
    have := r.strs
    subst this
    exact ⟨a, ns, rfl, h1, hl, (k.back p).here S1 (.int _) q1⟩
end
end DM
set_option Elab.async false
set_option linter.all false
set_option maxRecDepth 100000
set_option maxHeartbeats 1000000
namespace DM
open PySem PySem.Spec PyProof.Rows L2 RT
section
variable {G : Gw} {H H' : Hp} {L L' A B : HL} {vs : Sv} {σ : Sl} {X : Cx} {W : WX}
theorem EncL.rev {O : Addr → Prop} {xs : List V} {ds : List D} (r : EncL G O H xs ds) : EncL G O H xs.reverse ds.reverse := by
  exact r.reverse
/-- xs[::-1] -/
def dRevS (t : DTE) : DTE := fun σ L Q E => t σ L (fun x L1 => ∃ ds : List D, IsL L1 x ds ∧ RetL ds.reverse L1 Q) E
theorem ce_revS {t : DTE} {e : Expr} (h : PE X e (tRevL G.K (conc G W t))) : PE X e (conc G W (dRevS t)) := pe_imp h fun vs H Qv ⟨σ, L, Q, E, S, en, q, k, kx⟩ =>
  conc_bind (R := fun x L1 => ∃ ds : List D, IsL L1 x ds ∧ RetL ds.reverse L1 Q) S en kx q fun v H1 x L1 p S1 e1 en1 kx1 ⟨ds, hs, q1⟩ => by
    obtain ⟨a, xs, rfl, h1, z, r⟩ := hs.at_ S1 e1
    exact ⟨a, xs, rfl, .inl (.inl h1), retL_ok S1 (by rw [List.length_reverse]; exact z) r.rev (k.back p) q1⟩
theorem EncL.maps {O : Addr → Prop} {α : Type} {f : α → V} {g : α → D} (h : ∀ a, Enc G O H (f a) (g a)) : ∀ xs : List α, EncL G O H (xs.map f) (xs.map g)
  | [] => .nil
  | a :: r => .cons (h a) (EncL.maps h r)
/-- list(range(n)) -/
def dLrng (t : DTE) : DTE := fun σ L Q E => t σ L (fun x L1 => ∃ j : Int, x = .int j ∧ 0 ≤ j ∧ j ≤ 100000 ∧ RetL (rgD 0 j.toNat) L1 Q) E
theorem ce_lrng {t : DTE} {e : Expr} (h : PE X e (tLstRg (tRg1 (conc G W t)))) : PE X e (conc G W (dLrng t)) := pe_imp h fun vs H Qv ⟨σ, L, Q, E, S, en, q, k, kx⟩ =>
  conc_bind (R := fun x L1 => ∃ j : Int, x = .int j ∧ 0 ≤ j ∧ j ≤ 100000 ∧ RetL (rgD 0 j.toNat) L1 Q) S en kx q fun v H1 x L1 p S1 e1 en1 kx1 ⟨j, hx, h0, h1, q1⟩ => by
    subst hx
    cases e1
    refine ⟨j, rfl, RgOk.of_le (by omega) (by omega) (by omega) h0, ?_⟩
    have e : rgV 0 j = (List.range j.toNat).map fun i : Nat => V.int (0 + (i : Nat)) := by
      unfold rgV
      rw [Int.sub_zero]
    rw [e]
    refine retL_ok S1 ?_ (EncL.maps (fun i => .int _) _) (k.back p) q1
    rw [List.length_map, List.length_range]
    have : (100000 : Nat) ≤ sizeLine := by decide
    omega
/-- enumerate: each item with its place -/
def enD (ds : List D) : List D := ds.zipIdx.map fun p => .tup [.int (p.2 : Int), p.1]
theorem enD_len {ds : List D} : (enD ds).length = ds.length := by
  unfold enD
  rw [List.length_map, List.length_zipIdx]
theorem enD_at {ds : List D} {i : Nat} : (enD ds)[i]? = (ds[i]?).map fun d => D.tup [.int (i : Int), d] := by
  unfold enD
  rw [List.getElem?_map, List.getElem?_zipIdx]
  cases ds[i]? <;> simp
theorem ad_enum {a : Addr} {q : Sq} (hx : ∀ H' L', Pers (dom L) H (dom L') H' → Sat G H' L' → q.live L' → ∃ xs, H' a = some (.lst xs) ∧ EncL G (dom L') H' xs q.items) (hz : q.items.length ≤ sizeLine) : Adeq G L H (Ite G.K a) ⟨enD q.items, q.live⟩ :=
  ⟨by rw [enD_len]; exact hz, fun i H L p S lv => by
  obtain ⟨xs, h, r⟩ := hx H L p S lv
  refine ⟨fun e => ⟨xs, .inl (.inl h), by rw [r.len, e, enD_len]; exact Nat.le_refl _⟩, fun d hd => ?_⟩
  have hd : (enD q.items)[i]? = some d := hd
  rw [enD_at] at hd
  cases hq : q.items[i]? with
  | none => rw [hq] at hd; cases hd
  | some d0 =>
    rw [hq] at hd
    cases hd
    obtain ⟨v, hv, ev⟩ := r.getD hq
    refine ⟨⟨xs, v, .inl (.inl h), hv⟩, fun y H' hy => ?_⟩
    obtain ⟨T, x, rfl, hT, rfl, hy⟩ := hy
    have := hy xs (.inl (.inl h))
    rw [hv] at this
    cases this
    exact ⟨Pers.new hT, S.new hT, .tup (.inl ⟨S.none_of hT, upd_same⟩) (by show 2 ≤ sizeLine; decide) ((show EncL G (dom L) H [.int (i : Int), _] [.int (i : Int), d0] from .cons (.int _) (.one ev)).pers (Pers.new hT))⟩⟩
inductive oEnum : D → HL → (Sq → HL → Prop) → Prop
  | frz_lst {ds : List D} {L : HL} {Q : Sq → HL → Prop} : Q ⟨enD ds, fun _ => True⟩ L → oEnum (.lst ds) L Q
  | own {p : Addr} {ds : List D} {L : HL} {Q : Sq → HL → Prop} : (p, Ch.lst ds) ∈ L → Q ⟨enD ds, fun L' => (p, Ch.lst ds) ∈ L'⟩ L → oEnum (.ref p) L Q
theorem en_ok {x : D} {v : V} {Q : Sq → HL → Prop} {R : It → Hp → Prop} (S : Sat G H L) (ev : Enc G (dom L) H v x) (k : Ki G L H Q R) (h : oEnum x L Q) : ∃ a xs, [v] = [.ref a] ∧ SqL G.K H a xs ∧ R (Ite G.K a) H := by
  cases h with
  | @frz_lst ds _ _ q =>
    cases ev with
    | lst n e z r =>
      exact ⟨_, _, rfl, .inl (.inl e), k _ _ _ L (Pers.refl _ _) S (ad_enum (q := ⟨ds, fun _ => True⟩) (fun H' L' p S' _ => ⟨_, (p.keep e n).1, r.pers p⟩) (by rw [← r.len]; exact z)) trivial q⟩
  | @own p ds _ _ m q =>
    cases ev
    cases S.ok _ _ m with
    | lst e z r =>
      refine ⟨_, _, rfl, .inl (.inl e), k _ _ _ L (Pers.refl _ _) S (ad_enum (q := ⟨ds, fun L' => (p, Ch.lst ds) ∈ L'⟩) (fun H' L' p S' lv => ?_) (by rw [← r.len]; exact z)) m q⟩
      cases S'.ok _ _ lv with
      | lst e z r => exact ⟨_, e, r⟩
end
end DM
set_option Elab.async false
set_option linter.all false
set_option maxRecDepth 100000
set_option maxHeartbeats 2000000
namespace DM
open PySem PySem.Spec L2 PyProof.Rows
abbrev Sui := Addr → Value → Option Addr → TS
abbrev Cls3 := Value × Option Nat × Sui
def endsAt (oi : Option Nat) (D : Ends) : Ends := match oi with
  | none => D
  | some i => { nx := fun q G => D.nx (q.set i none) G, rt := D.rt, bk := fun q G => D.bk (q.set i none) G, ct := fun q G => D.ct (q.set i none) G }
def slotAt (oi : Option Nat) (a : Addr) (q : L2.St) : L2.St := match oi with
  | none => q
  | some i => q.set i (some (.ref a))
def wMix (K : PySem.W.Frag) (Wo : WX) (D : Ends) : List Cls3 → WX
  | [] => Wo
  | t :: r => fun c' d q G => ∃ y, PySem.W.exmOne K c' t.1 = some y ∧ (y = true → ∀ a, G a = none → t.2.2 a c' d (endsAt t.2.1 D) (slotAt t.2.1 a q) G) ∧ (y = false → wMix K Wo D r c' d q G)
def SuOk (X : Cx) (sts : List Stmt) (ts : Sui) : Prop := ∀ (a : Addr) (ob : Obj) (c' : Value) (d : Option Addr) (more : List (Addr × Obj)), L2N.Zn c' d ob → (∃ fs, ob.data = .fields fs) → PSs (X.suite a ((a, ob) :: more)) sts (ts a c' d)
/-- a clause's name is a local name -/
def NmOk (X : Cx) : Option Nat → Option Str → Prop
  | none, none => True
  | some i, some n => X.N[i]? = some n ∧ X.env.kindOf n = some .local
  | _, _ => False
inductive MixOk (X : Cx) : List ExceptHandler → List Cls3 → Prop
  | nil : MixOk X [] []
  | cons {x : Str} {on : Option Str} {t : Cls3} {st : Stmt} {sts : List Stmt} {p1 p2 : Pos} {es : List ExceptHandler} {l : List Cls3} : Names X x t.1 → NmOk X t.2.1 on → SuOk X (st :: sts) t.2.2 → MixOk X es l → MixOk X (.ExceptHandler (some (.Name x p1)) on (st :: sts) p2 :: es) (t :: l)
section
variable {X : Cx} {pins : List (Addr × Obj)} {q : L2.St} {G : Hp} {a : Addr} {c' : Value} {d : Option Addr} {B : Heap} {s0 s : Shared} {Wo : WX}
/-- an exception that has landed in X's frame, and the state that stood ahead of it -/
structure Air (X : Cx) (pins : List (Addr × Obj)) (q : L2.St) (G : Hp) (a : Addr) (c' : Value) (d : Option Addr) (B : Heap) (s0 s : Shared) : Prop where
  inv : Inv X pins q G s0
  keep : ∀ b o, s0.heap.get? b = some o → b ∉ frs X.stack → B.get? b = some o
  upto : s0.heap.UpToSlots s.heap
  fly : HandSPX.FlyingZ B (X.env :: X.outer) a (L2N.Zn c' d) s.heap
  free : G a = none
  os : s.os = s0.os
  bare : AllBare s.gens
theorem Air.now (A : Air X pins q G a c' d B s0 s) : Inv X pins q G s := A.inv.landed A.keep A.fly.1 A.upto A.os A.bare
theorem Air.held (A : Air X pins q G a c' d B s0 s) (hf : X.env.frame = some X.env.locals) : ∃ ob, s.heap.get? a = some ob ∧ L2N.Zn c' d ob ∧ (∃ fs, ob.data = .fields fs) ∧ Inv (X.suite a ((a, ob) :: (X.pn ++ pins))) [] q G s := by
  obtain ⟨ob, fs, h1, h2, h3⟩ := A.fly.there
  have out : ∀ e ∈ X.env :: X.outer, ∀ f, e.frame = some f → a ≠ f := fun e he f hef z => by
    subst z
    obtain ⟨_, o2, g1, g2⟩ := A.fly.2.2.1.mem (List.mem_filterMap.mpr ⟨e, he, hef⟩)
    rw [h1] at g1
    injection g1 with g1
    subst g1
    exact g2 _ h3
  refine ⟨ob, h1, h2, ⟨fs, h3⟩, A.now.suite h1 h3 A.free (out _ List.mem_cons_self _ hf) fun m => ?_⟩
  obtain ⟨e, he, hef⟩ := List.mem_filterMap.mp m
  exact out e (List.mem_cons_of_mem _ he) _ hef rfl
theorem Air.goes (A : Air X pins q G a c' d B s0 s) {h' : Heap} (f : HandSPX.FlyingZ B (X.env :: X.outer) a (L2N.Zn c' d) h') (u : s.heap.UpToSlots h') : Air X pins q G a c' d B s0 { s with heap := h' } :=
  ⟨A.inv, A.keep, A.upto.trans u, f, A.free, A.os, A.bare⟩
/-- no clause serves -/
theorem Air.on (A : Air X pins q G a c' d B s0 s) (hs : X.stack = X.env :: X.outer) (hf : X.env.frame = some X.env.locals) (tk : L2N.Takes X Wo) (w : Wo c' d q G) {R : Flow → Shared → Prop} : wpAny (model X.prog X.w) X.A (handleBy (.ref a) X.env []) R X.xe s := by
  refine wpAny_handleBy_nil ?_
  obtain ⟨_, _, _, ob, fs, T, _, _, g1, _, g2, g3, _⟩ := id A.fly
  unfold PySem.passOn
  refine wpAny_bind (wpAny_field g1 g2 g3 ?_)
  have ne : ¬ ((Value.ref T == Value.none) = true) := by simp
  rw [if_neg ne, hf]
  have out : wpAny (model X.prog X.w) X.A (setFlight (.ref a) (some X.env.locals)) (fun _ z => wpAny (model X.prog X.w) X.A (throw (.ref a) : Sem Flow) R X.xe z) X.xe s :=
    HandSPX.setFlight_upZ A.fly fun h' held u => wpAny_throw (tk _ _ ⟨a, B, s0, pins, q, G, c', d, rfl, A.inv, A.keep, A.upto.trans u, .inr (.inr (by rw [hs]; exact held)), A.free, A.os, A.bare, w⟩)
  first | exact wpAny_bind out | exact wpAny_bind (wpAny_pure (wpAny_bind out))
theorem mix_go (hs : X.stack = X.env :: X.outer) (hf : X.env.frame = some X.env.locals) (hN : X.N.Nodup) (tk : L2N.Takes X Wo) (A : Air X pins q G a c' d B s0 s) {D : Ends} {es : List ExceptHandler} {l : List Cls3} (m : MixOk X es l) :
    wMix X.K Wo D l c' d q G → wpAny (model X.prog X.w) X.A (handleBy (.ref a) X.env es) (SP X pins D) X.xe s := by
  have ok := A.inv.ok
  induction m with
  | nil => exact fun w => A.on hs hf tk w
  | @cons x on t st sts p1 p2 es2 l2 hc hn hsu r ih =>
    intro ⟨y, y1, yes, no⟩
    obtain ⟨ob, h1, h2, ⟨fs, h3⟩, J⟩ := A.held hf
    refine wpAny_handleBy_cons (codeAny_handlers_test ?_) (by intro z; cases z)
    have lk : PySem.W.Looks (model X.prog X.w) s.heap (typeOf (.ref a)) c' := fun _ _ _ _ k z => wpAny_typeOf_ref (k _ _ h1) (by rw [h2.1]; exact z)
    have ask := PySem.W.exm_one (M := model X.prog X.w) A.now.kIn lk y1
    obtain ⟨n1, n2, n3⟩ := hc
    have name : ∀ {R E : Value → Shared → Prop}, R t.1 s → wpAny (model X.prog X.w) (X.A.mark (some (.ref a))) (eval (.Name x p1) X.env) R E s := fun {R E} z => by
      rcases n3 with n3 | ⟨n3, n4, n5⟩
      · exact ld_glob J n1 n3 z n2
      · exact ld_blt J n1 n3 n4 z n5 n2
    refine name (ask.here ?_)
    cases y with
    | false => exact ih (no rfl)
    | true =>
      cases hj : t.2.1 with
      | none =>
        rw [hj] at hn
        cases on with
        | some n => cases hn
        | none =>
          refine codeAny_handlers_suite (HandSPX.lands_againZ A.fly fun h' f u => ?_)
          obtain ⟨ob2, _, k2, k3, J2⟩ := (A.goes f u).held hf
          have go := yes rfl a A.free
          rw [hj] at go
          refine wpAny_mono ((hsu a ob2 c' d (X.pn ++ pins) k2 k3).run [] _ q G _ J2 go) (fun fl s6 z => ?_) (fun _ _ z => False.elim z)
          cases fl with
          | ret u6 => obtain ⟨v6, q6, G6, I6, r6, z6⟩ := z; exact ⟨v6, q6, G6, I6.unsuite ok, r6, z6⟩
          | next => obtain ⟨q6, G6, I6, z6⟩ := z; exact ⟨q6, G6, I6.unsuite ok, z6⟩
          | brk => obtain ⟨q6, G6, I6, z6⟩ := z; exact ⟨q6, G6, I6.unsuite ok, z6⟩
          | cont => obtain ⟨q6, G6, I6, z6⟩ := z; exact ⟨q6, G6, I6.unsuite ok, z6⟩
      | some i =>
        rw [hj] at hn
        cases on with
        | none => cases hn
        | some n =>
          obtain ⟨hi, hl⟩ := hn
          refine codeAny_handlers_suite_as (HandSPX.lands_againZ A.fly fun h' f u => ?_)
          obtain ⟨ob2, _, k2, k3, J2⟩ := (A.goes f u).held hf
          have go := yes rfl a A.free
          rw [hj] at go
          refine store_ok (X := X.suite a ((a, ob2) :: (X.pn ++ pins))) (v := .ref a) J2 hN hi (.inl hl) rfl (fun s5 J5 => ?_) (.inr hl)
          refine wpAny_mono ((hsu a ob2 c' d (X.pn ++ pins) k2 k3).run [] s5 _ G _ J5 go) (fun fl s6 z => ?_) (fun _ _ z => False.elim z)
          cases fl with
          | ret u6 => obtain ⟨v6, q6, G6, I6, r6, z6⟩ := z; exact gone_ok (I6.unsuite ok) hN hi hl fun s7 I7 => ⟨v6, _, G6, I7, r6, z6⟩
          | next => obtain ⟨q6, G6, I6, z6⟩ := z; exact gone_ok (I6.unsuite ok) hN hi hl fun s7 I7 => ⟨_, G6, I7, z6⟩
          | brk => obtain ⟨q6, G6, I6, z6⟩ := z; exact gone_ok (I6.unsuite ok) hN hi hl fun s7 I7 => ⟨_, G6, I7, z6⟩
          | cont => obtain ⟨q6, G6, I6, z6⟩ := z; exact gone_ok (I6.unsuite ok) hN hi hl fun s7 I7 => ⟨_, G6, I7, z6⟩
end
section
variable {X : Cx} {z : List Stmt} {e0 : ExceptHandler} {es : List ExceptHandler} {l : List Cls3} {p : Pos} {tb : WX → TS} {Wo : WX}
theorem ps_try_mix (hs : X.stack = X.env :: X.outer) (hf : X.env.frame = some X.env.locals) (hN : X.N.Nodup) (tk : L2N.Takes X Wo)
    (body : ∀ (W : WX) (more : List (Addr × Obj)) (xe : Value → Shared → Prop), L2N.Takes (X.tr more xe) W → PassesOwn (model X.prog X.w) X.A X.env xe → PSs (X.tr more xe) z (tb W)) (m : MixOk X (e0 :: es) l) :
    PS X (.Try z (e0 :: es) [] [] p) (fun D q G => tb (wMix X.K Wo D l) D q G) := by
  refine ⟨fun pins s q G D I h => wpAny_Try_except ?_⟩
  have ok := I.ok
  refine wpAny_mono ((body (wMix X.K Wo D l) (X.pn ++ pins) _ (fun u s' air => ?_) PassesOwn.looking).run [] s q G D (I.toTry _) h) (fun fl s6 r => ?_) (fun _ _ r => r)
  · obtain ⟨a, B, s0, pins', q', G', c', d, rfl, J, nb, up, sky, na, os, ag, w⟩ := air
    rw [show (X.tr (X.pn ++ pins) _).stack = X.env :: X.outer from hs] at sky
    exact L2N.Sky.land L2N.Zn.steady (by rw [ok.frames, hs]) hf sky fun h3 fl3 up3 => mix_go (s := { s' with heap := h3 }) hs hf hN tk ⟨J.ofTry ok, nb, up.trans up3, fl3, na, os, ag⟩ m w
  · cases fl with
    | next => obtain ⟨q6, G6, I6, z6⟩ := r; exact wpAny_execs_nil ⟨q6, G6, I6.ofTry ok, z6⟩
    | ret u6 => obtain ⟨v6, q6, G6, I6, r6, z6⟩ := r; exact ⟨v6, q6, G6, I6.ofTry ok, r6, z6⟩
    | brk => obtain ⟨q6, G6, I6, z6⟩ := r; exact ⟨q6, G6, I6.ofTry ok, z6⟩
    | cont => obtain ⟨q6, G6, I6, z6⟩ := r; exact ⟨q6, G6, I6.ofTry ok, z6⟩
end
end DM
set_option Elab.async false
set_option linter.all false
set_option maxRecDepth 100000
namespace DM
open PySem L2 PySem.Spec PyProof.Rows
def rRemD (K : PySem.W.Frag) : V → List V → Hp → VK → Prop := fun x xs H Q => ∃ (a : Addr) (ys : List V) (y : V) (ds : List PyData) (d : PyData) (j : Nat), x = .ref a ∧ xs = [y] ∧ H a = some (.lst ys) ∧ DpAll K H ys ds ∧ Dp K H y d ∧ PyData.plainAll ds = true ∧ d.plain = true ∧ d.depth ≤ 60 ∧
  SeqAt.dataPlace ds d = some j ∧ Q .non (upd H a (.lst (ys.eraseIdx j)))
section
variable {X : Cx} {G : Gw} {H H' : Hp} {L L' A B : HL}
theorem mt_removeD (hu : X.A.units + 65 < cLine) : MtR X "list.remove" (rRemD X.K) := by
  rintro pins s σ H x xs v us Q I rx rxs ⟨a, ys, y, ds, d, j, rfl, rfl, hs, ha, hy, pl, pd, dp, hj, q⟩
  cases rx
  obtain ⟨uy, rfl, ry⟩ := rxs.one
  obtain ⟨fits, its, n, rv, len, obj⟩ := I.lstM hs
  obtain ⟨as, reads⟩ := Dp.readsAll I ds ys its ha rv
  obtain ⟨bs, read⟩ := Dp.reads I d y uy hy ry
  have less : (ys.eraseIdx j).length ≤ sizeLine := Nat.le_trans (List.length_eraseIdx_le ys j) fits
  exact SeqAt.remove_list_data (vs := its.toArray) ⟨_, obj, rfl, n, rfl⟩ reads read pl pd (by have := Nat.min_le_right (PyData.depthAll ds) d.depth; omega) hj (by rw [List.size_toArray, ← len]; exact fits)
    ⟨.non, _, I.lset (its' := its.eraseIdx j) hs obj (by simp) (rv.eraseIdx j) less, rfl, q⟩
inductive oRemove : D → List D → HL → Qd → Prop
  | mk {p : Addr} {ds : List D} {y : D} {d : PyData} {ys : List PyData} {j : Nat} {L A B : HL} {Q : Qd} : Sp L p (.lst ds) A B → PyL L ds ys → Py L y d → PyData.plainAll ys = true → d.plain = true → d.depth ≤ 60 → SeqAt.dataPlace ys d = some j →
    Q .non (A ++ (p, .lst (ds.eraseIdx j)) :: B) → oRemove (.ref p) [y] L Q
theorem md_remove : MtD G oRemove (rRemD G.K) := fun S ev eu k h => by
  cases h with
  | @mk p ds y d ys j _ _ _ _ sp hp hy pl pd dp hj q =>
    cases ev
    obtain ⟨v, rfl, ey⟩ := eu.inv1
    obtain ⟨xs, hx, zx, r⟩ := own_lst S sp
    exact ⟨_, xs, v, ys, d, j, rfl, rfl, hx, hp.dp S r, hy.dp S ey, pl, pd, dp, hj, wr_lst S sp k (by rw [List.length_eraseIdx]; split <;> omega) (r.eraseIdx j) .non q⟩
end
end DM
set_option Elab.async false
set_option linter.all false
set_option maxRecDepth 100000
namespace DM
open PySem L2
open PySem.Spec PyProof.Rows
def rCntD (K : PySem.W.Frag) : V → List V → Hp → VK → Prop := fun x xs H Q => ∃ (p : Addr) (ys : List V) (y : V) (d : PyData) (ds : List PyData), x = V.ref p ∧ xs = [y] ∧ SqL K H p ys ∧ DpAll K H ys ds ∧ Dp K H y d ∧ PyData.plainAll ds = true ∧ d.plain = true ∧ d.depth ≤ 60 ∧
  Q (.int (ds.countP fun z => PyData.eqv z d : Nat)) H
inductive oCount : D → List D → HL → Qd → Prop
  | mk {x y : D} {ds : List D} {d : PyData} {ys : List PyData} {L : HL} {Q : Qd} : IsL L x ds → PyL L ds ys → Py L y d → PyData.plainAll ys = true → d.plain = true → d.depth ≤ 60 → Q (.int (ys.countP fun z => PyData.eqv z d : Nat)) L → oCount x [y] L Q
section
variable {X : Cx} {G : Gw} {H H' : Hp} {L L' A B : HL}
theorem mt_cntD (hu : X.A.units + 65 < cLine) : MtR X "list.count" (rCntD X.K) := by
  intro pins s σ H x xs v us Q I rx rxs h
  obtain ⟨p, ys, y, d, ds, rfl, rfl, hs, ha, hy, pl, pd, dd, q⟩ := h
  cases rx
  obtain ⟨u, rfl, ru⟩ := rxs.one
  obtain ⟨its, rv, hl, hlen⟩ := I.list hs
  obtain ⟨bs, r1⟩ := Dp.reads I d y u hy ru
  obtain ⟨as, r2⟩ := Dp.readsAll I ds _ its ha rv
  refine PySem.SeqAt.count_list_data hl.isList (show ReadsAll s.heap its.toArray.toList ds as from r2) r1 pl pd ?_ ⟨.int (ds.countP fun z => PyData.eqv z d : Nat), H, I.tok _, ⟨s.toks, rfl⟩, q⟩
  have := Nat.min_le_right (PyData.depthAll ds) d.depth
  omega
theorem md_count : MtD G oCount (rCntD G.K) := fun S ev eu k h => by
  cases h with
  | @mk y ds d ys _ _ hl hp hy pl pd dd q =>
    obtain ⟨v, rfl, ey⟩ := eu.inv1
    obtain ⟨a, xs, rfl, e1, z1, r⟩ := hl.at_ S ev
    exact ⟨a, xs, v, d, ys, rfl, rfl, .inl (.inl e1), hp.dp S r, hy.dp S ey, pl, pd, dd, k.here S (.int _) q⟩
end
end DM
set_option Elab.async false
set_option linter.all false
set_option maxRecDepth 100000
set_option maxHeartbeats 1000000
namespace DM
open PySem L2 PyProof.Rows
def Itse (x : Str) : It := ⟨fun i _ => i < x.cps.size, fun i H v H' => ∃ T c, v = .ref T ∧ H T = none ∧ H' = upd H T (.tup [.int (i : Nat), .str ⟨#[c]⟩]) ∧ x.cps[i]? = some c, fun i _ => x.cps.size ≤ i⟩
/-- where the walk stands -/
def EnSt (e it : Addr) (ty : String) (x : Str) (t : Tok) (i : Nat) (h : Heap) : Prop := (∃ old, IsEnum h e it i old) ∧ h.IsStrIter it ty x t i
abbrev EnMid (e it : Addr) (ty : String) (x : Str) (t : Tok) (i : Nat) (T : Addr) (h : Heap) : Prop := (∃ y, IsEnumOut h e it ((i : Int) + 1) y T) ∧ h.IsStrIter it ty x t (i + 1) ∧ T ≠ e ∧ T ≠ it
theorem enum_walk {P : Program} {w : World} {A : Around} {e it : Addr} {x : Str} {t : Tok} {ty : String} (hA : A.handled = none) (hty : ty = "str_ascii_iterator" ∨ ty = "str_iterator") (ne : e ≠ it) :
    WalksT P w A e [e, it] [e, it] x.cps.size (fun i vals => ∃ u y, (∃ c v, x.cps[i]? = some c ∧ y = .str ⟨#[c]⟩ v) ∧ vals = #[.int i u, y]) (EnSt e it ty x t) (EnMid e it ty x t) := by
  have out : e ∉ [it] := fun m => ne (List.mem_singleton.mp m)
  rcases hty with rfl | rfl
  · exact WalksT.enumerateD (Draws.strAscii (A := A.in1) hA it x t) e ne out List.mem_cons_self
  · exact WalksT.enumerateD (Draws.strWide (A := A.in1) hA it x t) e ne out List.mem_cons_self
theorem turn_enumS {P : Program} {w : World} {K : PySem.W.Frag} {elts : List Expr} {kk : Nat} {tpos : Pos} (e it : Addr) (x : Str) (t : Tok) (ty : String) (hty : ty = "str_ascii_iterator" ∨ ty = "str_iterator") (ne : e ≠ it) :
    Turn P w K (.Tuple elts kk tpos) (Itse x) [e, it] e (fun i h => EnSt e it ty x t i h ∧ i ≤ x.cps.size) where
  mem := List.mem_cons_self
  obj := fun i h ⟨⟨⟨_, a⟩, o, b, _, d⟩, _⟩ z hz => by
    rcases hz with _ | ⟨_, _ | ⟨_, hz⟩⟩
    · exact ⟨_, a, fun _ q => nomatch q⟩
    · exact ⟨o, b, fun _ q => by rw [d] at q; cases q⟩
    · cases hz
  keep := fun i h h' ⟨st, le⟩ k => ⟨(enum_walk (P := P) (w := w) (A := callerA) rfl hty ne).frame i h h' st k, le⟩
  item := by
    rintro X rfl rfl rfl hc i pins s σ H E I free ⟨st, _⟩ lt
    have W := enum_walk (P := X.prog) (w := X.w) (x := x) (t := t) (I.ok.hd hc) hty ne
    refine W.item i s _ _ lt st ?_
    rintro T _ h' tk ⟨u, _, ⟨c, v, at', rfl⟩, rfl⟩ high tup mid keep
    refine ⟨_, rfl, W.go elts kk tpos i T _ _ _ mid fun h2 st2 keep2 => ?_⟩
    have apart := W.apart i T h' mid
    have kept : ∀ b o, b ∉ [e, it] → s.heap.get? b = some o → h2.get? b = some o := fun b o nb q => keep2 b o nb (keep b o nb q)
    have pair : ObjOk X.prog X.w (upd H T (.tup [.int (i : Nat), .str ⟨#[c]⟩])) h2 T (.tup [.int (i : Nat), .str ⟨#[c]⟩]) := by
      obtain ⟨o, q, r⟩ := tup
      exact ⟨by show 2 ≤ sizeLine; decide, [.int i u, .str ⟨#[c]⟩ v], .cons ⟨_, rfl⟩ (.cons ⟨_, rfl⟩ .nil), ⟨o, keep2 T o apart q, r⟩⟩
    refine ⟨.ref T, _, I.turnedNew (t' := tk) (ch := [e, it]) kept free high pair, rfl, ⟨T, c, rfl, I.hok.fresh high, rfl, at'⟩, ⟨st2, lt⟩, fun b hb => ?_⟩
    rw [upd_ne (show b ≠ T from fun z => apart (by rw [← z]; exact hb))]
    exact (free b hb).1
  done := by
    rintro X rfl rfl rfl hc i pins s σ H E I free ⟨st, le⟩ stop
    have W := enum_walk (P := X.prog) (w := X.w) (x := x) (t := t) (I.ok.hd hc) hty ne
    obtain rfl : i = x.cps.size := Nat.le_antisymm le stop
    exact W.done s _ _ st fun h' tk keep => ⟨rfl, I.turnedL (t' := tk) keep free⟩
  self := fun A i s Q E ⟨st, _⟩ h => let ⟨_, he⟩ := st.1; wpAny_pyIter_enum he h
def iEnumA (K : PySem.W.Frag) (ta : TA) : TI := fun σ H R => ta σ H fun vs H1 => (∃ a xs, vs = [.ref a] ∧ SqL K H1 a xs ∧ R (Ite K a) H1) ∨ ∃ z, vs = [.str z] ∧ R (Itse z) H1
theorem pi_enumA {X : Cx} {e : Expr} {ta : TA} {p pos tpos : Pos} {elts : List Expr} {kk : Nat} (hg : Gl X "enumerate") (hm : X.mg "enumerate" = none) (ha : PA X [e] ta) (hs : starEach [e] X.env = [(false, eval e X.env)] := by rfl) :
    PI X (.Tuple elts kk tpos) (.Call (.Name "enumerate" p) [e] [] pos) (iEnumA X.K ta) := by
  constructor
  intro pins s σ H R I h
  have args := ha.run pos pins s σ H _ I h
  refine Call_ (ld_blt I hg hm boot_enumerate (PyProof.Rows.callWith_type1 (thn args ?_) hs rfl))
  rintro us s1 ⟨vs, H1, I1, r1, q1⟩
  have fresh : ∀ b, s1.heap.objs.size ≤ b → FpOk X pins H1 b := fun b le => I1.fpOk le (I1.hok.fresh le)
  have fp : ∀ b ∈ [s1.heap.objs.size + 1, s1.heap.objs.size], FpOk X pins H1 b := by
    simp only [List.forall_mem_cons]
    exact ⟨fresh _ (Nat.le_succ _), fresh _ (Nat.le_refl _), fun _ m => nomatch m⟩
  have ne := Nat.succ_ne_self s1.heap.objs.size
  rcases q1 with ⟨a, xs, rfl, hq, q⟩ | ⟨z, rfl, q⟩
  · obtain rfl := r1.ref1
    obtain ⟨its, -, list, -⟩ := I1.list hq
    exact call_enumerate_list list.isList fun h' he hit _ more => wpAny_pyIter_enum he ⟨_, _, _, _, H1, rfl, I1.kept (t' := s1.toks) more, turn_enum a (s1.heap.objs.size + 1) s1.heap.objs.size, ⟨⟨.none, he⟩, hit, ne⟩, fp, q⟩
  · obtain ⟨_, rfl, t, rfl⟩ := vals1 r1
    have ty : strIterType z = "str_ascii_iterator" ∨ strIterType z = "str_iterator" := by
      unfold strIterType
      split <;> simp
    exact call_enumerate_str fun h' he hit _ more => wpAny_pyIter_enum he ⟨_, _, _, _, H1, rfl, I1.kept (t' := s1.toks) more, turn_enumS (s1.heap.objs.size + 1) s1.heap.objs.size z t _ ty ne, ⟨⟨⟨.none, he⟩, hit⟩, Nat.zero_le _⟩, fp, q⟩
section
variable {G : Gw} {H : Hp} {L : HL} {X : Cx} {W : WX}
theorem ad_enumS {z : Str} (hz : z.length ≤ sizeLine) : Adeq G L H (Itse z) ⟨enD (signs z), fun _ => True⟩ := ⟨by rw [enD_len, signs_len]; exact hz, fun i H L p S _ => by
  have hl : (signs z).length = z.cps.size := signs_len
  refine ⟨fun e => ?_, fun d hd => ?_⟩
  · show z.cps.size ≤ i
    rw [e, enD_len, hl]
    exact Nat.le_refl _
  · have hd : (enD (signs z))[i]? = some d := hd
    rw [enD_at] at hd
    unfold signs at hd
    rw [List.getElem?_map, Array.getElem?_toList] at hd
    cases q : z.cps[i]? with
    | none => rw [q] at hd; cases hd
    | some c =>
      rw [q] at hd
      cases hd
      refine ⟨?_, fun y H' hy => ?_⟩
      · obtain ⟨h, _⟩ := Array.getElem?_eq_some_iff.mp q
        exact h
      · obtain ⟨T, c', rfl, hT, rfl, hc'⟩ := hy
        rw [q] at hc'
        cases hc'
        exact ⟨Pers.new hT, S.new hT, .tup (.inl ⟨S.none_of hT, upd_same⟩) (by show 2 ≤ sizeLine; decide) ((show EncL G (dom L) H [.int (i : Int), .str ⟨#[c]⟩] [.int (i : Int), .str ⟨#[c]⟩] from .cons (.int _) (.one (.str one_le))).pers (Pers.new hT))⟩⟩
inductive oEnumA : D → HL → (Sq → HL → Prop) → Prop
  | frz_lst {ds : List D} {L : HL} {Q : Sq → HL → Prop} : Q ⟨enD ds, fun _ => True⟩ L → oEnumA (.lst ds) L Q
  | own {p : Addr} {ds : List D} {L : HL} {Q : Sq → HL → Prop} : (p, Ch.lst ds) ∈ L → Q ⟨enD ds, fun L' => (p, Ch.lst ds) ∈ L'⟩ L → oEnumA (.ref p) L Q
  | str {z : Str} {L : HL} {Q : Sq → HL → Prop} : Q ⟨enD (signs z), fun _ => True⟩ L → oEnumA (.str z) L Q
def dEnumA (t : DTE) : DTI := fun σ L Q E => t σ L (fun x L1 => oEnumA x L1 Q) E
theorem conc_enumA {tg iter : Expr} {t : DTE} (h : PI X tg iter (iEnumA G.K (tCons (conc G W t) tNil))) : PI X tg iter (concI G W (dEnumA t)) :=
  pi_imp h fun vs H R ⟨σ, L, Q, E, S, en, q, k, kx⟩ => conc_bind (R := fun x L1 => oEnumA x L1 Q) S en kx q fun v H1 x L1 p S1 e1 en1 kx1 q1 => by
    cases q1 with
    | frz_lst q => exact .inl (en_ok S1 e1 (k.back p) (.frz_lst q))
    | own m q => exact .inl (en_ok S1 e1 (k.back p) (.own m q))
    | str q =>
      cases e1 with
      | str z => exact .inr ⟨_, rfl, (k.back p) _ _ _ L1 (Pers.refl _ _) S1 (ad_enumS z) trivial q⟩
end
end DM
set_option Elab.async false
set_option linter.all false
set_option maxRecDepth 100000
namespace DM
open PySem PySem.Spec L2 PyProof.Rows
section
variable {G : Gw} {W : WX} {X : Cx} {e : Expr}
def dDct (ks : List Str) (t : DTA) : DTE := fun σ L Q E => ∀ p, t σ ((p, .dct []) :: L) (fun xs L2 => xs.length = ks.length ∧ ∃ A B, Sp L2 p (.dct []) A B ∧ Q (.ref p) (A ++ (p, .dct (ks.zip xs)) :: B)) E
theorem mergeK_new : ∀ (more acc : List (Key × V)), ((acc ++ more).map (·.1)).Nodup → mergeK acc more = acc ++ more
  | [], acc, _ => (List.append_nil acc).symm
  | (k, v) :: r, acc, h => by
    have e : putK acc k v = acc ++ [(k, v)] := by
      unfold putK
      rw [if_neg]
      intro q
      obtain ⟨⟨a, b⟩, m, d⟩ := List.any_eq_true.mp q
      have d := of_decide_eq_true d
      dsimp only at d
      subst d
      rw [List.map_append, List.nodup_append] at h
      exact h.2.2 a (List.mem_map.mpr ⟨_, m, rfl⟩) a (List.mem_map.mpr ⟨(a, v), List.mem_cons_self, rfl⟩) rfl
    show mergeK (putK acc k v) r = _
    rw [e, mergeK_new r (acc ++ [(k, v)]) (by rw [List.append_assoc]; exact h), List.append_assoc]
    rfl
theorem zip_fst {α β : Type} : ∀ {a : List α} {b : List β}, b.length = a.length → (a.zip b).map (·.1) = a
  | [], _, _ => rfl
  | x :: a, [], h => by cases h
  | x :: a, y :: b, h => by rw [List.zip_cons_cons, List.map_cons, zip_fst (by simpa using h)]
theorem zip_snd {α β : Type} : ∀ {a : List α} {b : List β}, b.length = a.length → (a.zip b).map (·.2) = b
  | [], [], _ => rfl
  | [], _ :: _, h => by cases h
  | x :: a, [], h => by cases h
  | x :: a, y :: b, h => by rw [List.zip_cons_cons, List.map_cons, zip_snd (by simpa using h)]
theorem zip_kV : ∀ {ks : List Str} {us : List V}, us.length = ks.length → (ks.map V.str).zip us = ((ks.map (Sum.inr : Str → Key)).zip us).map (fun kv => (kV kv.1, kv.2))
  | [], [], _ => rfl
  | [], _ :: _, h => by cases h
  | _ :: _, [], h => by cases h
  | k :: ks, u :: us, h => by
    rw [List.map_cons, List.map_cons, List.zip_cons_cons, List.zip_cons_cons, List.map_cons, zip_kV (by simpa using h)]
    rfl
theorem conc_dct {ks : List Str} {t : DTA} {trs : List (TE × TE)} (nd : ks.Nodup) (h15 : ks.length ≤ 15) (hp : ∀ vs H R, concA G W t vs H (fun us H2 => R ((ks.map V.str).zip us) H2) → tPairs trs vs H R)
    (h : PE X e (tDisp trs)) : PE X e (conc G W (dDct ks t)) := pe_imp h fun vs H Qv ⟨σ, L, Q, E, S, en, q, k, kx⟩ => fun p hp0 => by
  have Sb : Sat G (upd H p (.dK [])) ((p, .dct []) :: L) := S.own (c := .dct []) hp0 (.dct upd_same (Nat.zero_le _) rfl .nil)
  have pb : Pers (dom L) H (dom ((p, Ch.dct []) :: L)) (upd H p (.dK [])) := Pers.own hp0
  refine hp _ _ _ ⟨σ, _, _, E, Sb, en.pers pb, q p, ?_, kx.back pb⟩
  intro us H' xs L2 p2 S2 e2 ⟨hl, A, B, sp, q2⟩
  have hus : us.length = ks.length := by rw [e2.len, hl]
  cases S2.ok _ _ sp.mem with
  | @dct vk _ hx z n r =>
    have hvk : vk = [] := by
      cases vk with
      | nil => rfl
      | cons => cases n
    subst hvk
    have ndk : (((ks.map (Sum.inr : Str → Key)).zip us).map (·.1)).Nodup := by
      rw [zip_fst (by rw [List.length_map, hus])]
      exact nd.map (f := (Sum.inr : Str → Key)) fun _ _ h he => h (Sum.inr.inj he)
    refine ⟨hx, _, zip_kV hus, by rw [List.length_zip, List.length_map]; omega, ?_⟩
    rw [show mergeK [] ((ks.map (Sum.inr : Str → Key)).zip us) = (ks.map (Sum.inr : Str → Key)).zip us from mergeK_new _ [] ndk]
    have pp : Pers (dom L2) H' (dom (put L2 p (.dct (ks.zip xs)))) (upd H' p (.dK ((ks.map (Sum.inr : Str → Key)).zip us))) := Pers.write ⟨_, sp.mem⟩
    obtain ⟨S3, p3⟩ := S2.at_ sp (c' := .dct (ks.zip xs)) (.dct (vkvs := (ks.map (Sum.inr : Str → Key)).zip us) upd_same (by rw [List.length_zip, List.length_map]; omega)
      (by
        rw [zip_fst (by rw [List.length_map, hus])]
        show ks.map (Sum.inr : Str → Key) = (ks.zip xs).map ((Sum.inr : Str → Key) ∘ Prod.fst)
        rw [← List.map_map, zip_fst hl])
      (by rw [zip_snd (by rw [List.length_map, hus]), zip_snd hl]; exact e2.pers pp))
    exact k _ _ _ _ ((pb.trans p2).trans p3) S3 (.ref p) q2
def tLR (x y z : Str) (r : R2) (to : TE) : TE := fun σ H Q => to σ H fun v H1 => ∃ s, v = .str s ∧ s.length + (s.length + 1) * z.length ≤ 16777216 ∧ r (.str x) (.str (Txt.replace s y z)) H1 Q
theorem pe_lrep {x y z : Str} {o : Expr} {to : TE} {r : R2} {j0 j k : Nat} {c0 c1 c2 apos pos pos2 : Pos} (ho : PE X o to) (hr : OpR X (binaryOp .Add) r) (hyz : (y == z) = false)
    (hbase : attributeBase o "replace" X.env (eval o X.env) = eval o X.env) (hline : (apos.endLine == pos.line) = true) :
    PE X (.BinOp (.Constant (.str x) j0 c0) .Add (.Call (.Attribute o "replace" apos) [.Constant (.str y) j c1, .Constant (.str z) k c2] [] pos) pos2) (tLR x y z r to) := by
  refine ⟨fun pins s σ H Q I h => wpAny_BinOp (Calls.Constant_str ?_)⟩
  have := CwR.pet_replC (j := j) (k := k) (c0 := c1) (c1 := c2) ho hyz rfl hbase hline pins { s with toks := s.toks + 1 } σ H (fun v' H' => r (.str x) v' H' Q) (by show 1 ≤ s.toks + 1; omega) (I.tok _) h
  exact thn this fun u s2 ⟨y', H2, I2, r2, q2⟩ => hr pins s2 σ H2 (.str x) y' _ u Q I2 ⟨_, rfl⟩ r2 q2
def dRepl (R : D → D → HL → Qd → Prop) (x y z : Str) (t : DTE) : DTE := fun σ L Q E => t σ L (fun d L1 => ∃ s, d = .str s ∧ s.length + (s.length + 1) * z.length ≤ 16777216 ∧ (Txt.replace s y z).length ≤ sizeLine ∧ R (.str x) (.str (Txt.replace s y z)) L1 Q) E
theorem conc_repl {R : D → D → HL → Qd → Prop} {r : R2} {x y z : Str} {t : DTE} (hr : OpD G R r) (hx : x.length ≤ sizeLine) (h : PE X e (tLR x y z r (conc G W t))) : PE X e (conc G W (dRepl R x y z t)) :=
  pe_imp h fun vs H Qv ⟨σ, L, Q, E, S, en, q, k, kx⟩ => conc_bind (R := fun d L1 => ∃ s, d = .str s ∧ s.length + (s.length + 1) * z.length ≤ 16777216 ∧ (Txt.replace s y z).length ≤ sizeLine ∧ R (.str x) (.str (Txt.replace s y z)) L1 Q) S en kx q
    fun v H1 d L1 p S1 e1 en1 kx1 ⟨s, hs, hb, hl, q1⟩ => by
      subst hs
      cases e1
      exact ⟨s, rfl, hb, hr S1 (.str hx) (.str hl) (k.back p) q1⟩
/-- {k: v}, {} -/
def dDct1 (tk tv : DTE) : DTE := fun σ L Q E => ∀ p, tk σ ((p, .dct []) :: L) (fun x L1 => ∃ z : Str, x = .str z ∧ tv σ L1 (fun y L2 => ∃ A B, Sp L2 p (.dct []) A B ∧ Q (.ref p) (A ++ (p, .dct [(z, y)]) :: B)) E) E
theorem conc_dct1 {tk tv : DTE} (h : PE X e (tDisp [(conc G W tk, conc G W tv)])) : PE X e (conc G W (dDct1 tk tv)) := pe_imp h fun vs H Qv ⟨σ, L, Q, E, S, en, q, k, kx⟩ => fun p hp0 => by
  have Sb : Sat G (upd H p (.dK [])) ((p, .dct []) :: L) := S.own (c := .dct []) hp0 (.dct upd_same (Nat.zero_le _) rfl .nil)
  have pb : Pers (dom L) H (dom ((p, Ch.dct []) :: L)) (upd H p (.dK [])) := Pers.own hp0
  refine conc_bind Sb (en.pers pb) (kx.back pb) (q p) fun v H1 x L1 p1 S1 e1 en1 kx1 q1 => ?_
  obtain ⟨z, hx, q1⟩ := q1
  subst hx
  cases e1
  refine conc_bind S1 en1 kx1 q1 fun u H2 y L2 p2 S2 e2 en2 kx2 q2 => ?_
  obtain ⟨A, B, sp, q2⟩ := q2
  cases S2.ok _ _ sp.mem with
  | @dct vk _ hx z' n r =>
    have hvk : vk = [] := by
      cases vk with
      | nil => rfl
      | cons => cases n
    subst hvk
    refine ⟨hx, [((.inr z : Key), u)], rfl, by show 1 ≤ 15; decide, ?_⟩
    have pp : Pers (dom L2) H2 (dom (put L2 p (.dct [(z, y)]))) (upd H2 p (.dK [((.inr z : Key), u)])) := Pers.write ⟨_, sp.mem⟩
    obtain ⟨S3, p3⟩ := S2.at_ sp (c' := .dct [(z, y)]) (.dct (vkvs := [((.inr z : Key), u)]) upd_same (by show 1 ≤ _; decide) rfl ((EncL.one e2).pers pp))
    exact k _ _ _ _ (((pb.trans p1).trans p2).trans p3) S3 (.ref p) q2
def dDct0 : DTE := fun _ L Q _ => ∀ p, Q (.ref p) ((p, .dct []) :: L)
theorem conc_dct0 (h : PE X e tDNewK) : PE X e (conc G W dDct0) := pe_imp h fun vs H Qv ⟨σ, L, Q, E, S, en, q, k, kx⟩ => fun p hp0 =>
  k _ _ _ _ (Pers.own hp0) (S.own (c := .dct []) hp0 (.dct upd_same (Nat.zero_le _) rfl .nil)) (.ref p) (q p)
end
end DM
set_option Elab.async false
set_option linter.all false
set_option maxRecDepth 100000
namespace DM
open PySem L2 PyProof.Rows
inductive Lt where
  | int (i : Int) | str (x : Str) | bl (b : Bool) | non
def Lt.d : Lt → D
  | .int i => .int i
  | .str x => .str x
  | .bl b => .bl b
  | .non => .non
/-- what stands in the suite of a clause -/
inductive Ib where
  | isa (c : Str) | not_ (b : Ib) | and_ (a b : Ib)
inductive Iv where
  | int (b : Ib) | lit (n : Int) | add (a b : Iv) | mul (a b : Iv)
inductive Hx where
  | lit (l : Lt) | nil | pick (ls : List Lt) (v : Iv) | fat | cmpi (i : Nat) (n : Int) | dead | hot (f : Str) | hotd (k f : Str) | hota (f : Str) | joins (i ja jb : Nat) (ls : List (Str × Str))
/-- a clause: its class, its name's slot, what is assigned in its suite -/
structure Cla where
  c : Str
  nm : Option Nat
  i : Nat
  h : Hx
inductive Bo where
  | add | sub | mul | div | mod | pow
  deriving DecidableEq
inductive Co where
  | eq | ne | lt | le | gt | ge | isa | isnt | inn | nin
  deriving DecidableEq
inductive Bf where
  | len | list | tuple | all | any | sum | max | min | abs | int | divmod | str | isi | rev | enum | repr | sorted | zip
  deriving DecidableEq
inductive Mf where
  | append | extend | pop | insert | reverse | clear | index | join | split | part | upper | starts | remove | count
  deriving DecidableEq
mutual
inductive Ex where
  | var (i : Nat) | lit (l : Lt) | glb (x : Str) | ty (n : String)
  | bin (o : Bo) (a b : Ex) | neg (a : Ex) | cmp (o : Co) (a b : Ex)
  | bool (isAnd : Bool) (es : Exs) | not_ (a : Ex) | ite (c : Tx) (a b : Ex)
  | idx (a b : Ex) | get (a : Ex) (f : Str) | slc (a : Ex) (lo hi : Eo) | fld (a : Ex) (f : Str)
  | tup (es : Exs) | lst (es : Exs)
  | blt (b : Bf) (es : Exs) | mth (m : Mf) (o : Ex) (es : Exs)
  | call (x : Str) (id : Nat) (es : Exs) | make (x : Str) (id : Nat) (es : Exs) | meth (c m : Str) (id : Nat) (o : Ex) (es : Exs)
  | lc (it : Ix) (j : Nat) (tt : Tx) (te : Ex)
  | lenset (a : Ex)
  | or2 (a b : Ex)
  | lrev (a : Ex)
  | lrng (a : Ex) | rvs (a : Ex) | dct1 (k v : Ex) | dct0
  | dct (ks : List Str) (es : Exs) | repl (x : Str) (o : Ex) (y z : Str)
  | sortm (c m : Str) (id : Nat) (a : Ex) (i : Nat)
  | lcp (it : Ix) (j1 j2 : Nat) (te : Ex)
  | callv (i : Nat) (es : Exs)
  | exc0 (x : Str) | exc1 (x : Str) (a : Ex) | exca (x : Str) (a : Ex) | isx (a : Ex) (c : Str) | xat (a : Ex)
inductive Exs where
  | nil | cons (e : Ex) (es : Exs)
inductive Eo where
  | none | some (e : Ex)
inductive Tx where
  | yes | val (e : Ex) | cmp (o : Co) (a b : Ex) | bool (isAnd : Bool) (ts : Txs) | not_ (t : Tx) | chain (o o2 : Co) (a b c : Ex)
inductive Txs where
  | nil | cons (t : Tx) (ts : Txs)
inductive Ix where
  | of (e : Ex) | rng (es : Exs)
end
mutual
inductive Tg where
  | name (i : Nat) | sub (o i : Ex) | tup (gs : Tgs) | fld (o : Ex) (f : Str)
inductive Tgs where
  | nil | cons (g : Tg) (gs : Tgs)
end
/-- f(lambda .., e, ..): a call whose first argument is a lambda that captures nothing -/
inductive Cv where
  | cv (f : Str) (id : Nat) (q : Str) (i : Nat) (ns : List Str) (ir : Ex) (es : Exs)
mutual
inductive Stm where
  | asg (g : Tg) (e : Ex) | fld (o : Ex) (f : Str) (e : Ex) | drop (e : Ex) | ret (e : Ex) | ite (c : Tx) (a b : Stms)
  | for_ (g : Tg) (it : Ix) (b : Stms) | while_ (c : Tx) (b : Stms) | raise (x : Str) | pass | raiseX (x : Str) (a : Ex)
  | forE (g : Tg) (a : Ex) (b : Stms) | tryM (b : Stms) (cs : List Cla)
  | sortL (oi : Option Nat) (q : Str) (a : Ex) (j : Nat) (te : Ex)
  | retX (it : Ix) (j : Nat) (te : Ex)
  | iteV (c : Cv) (o : Co) (b : Ex) (x y : Stms) | retV (c : Cv) (o : Co) (b : Ex)
inductive Stms where
  | nil | cons (s : Stm) (ss : Stms)
end
def Exs.len : Exs → Nat
  | .nil => 0
  | .cons _ es => es.len + 1
def Tgs.len : Tgs → Nat
  | .nil => 0
  | .cons _ es => es.len + 1
def isSet : Expr → Bool
  | .Set .. => true
  | _ => false
def isSlice : Expr → Bool
  | .Slice .. => true
  | _ => false
def isComp : Expr → Bool
  | .ListComp .. | .SetComp .. | .DictComp .. => true
  | _ => false
def isTup : Expr → Bool
  | .Tuple .. => true
  | _ => false
def isTest : Expr → Bool
  | .UnaryOp .. | .BoolOp .. | .IfExp .. | .Compare .. => true
  | _ => false
def okB : Bo → Operator → Bool
  | .add, .Add | .sub, .Sub | .mul, .Mult | .div, .FloorDiv | .mod, .Mod | .pow, .Pow => true
  | _, _ => false
def okC : Co → CmpOp → Bool
  | .eq, .Eq | .ne, .NotEq | .lt, .Lt | .le, .LtE | .gt, .Gt | .ge, .GtE | .isa, .Is | .isnt, .IsNot | .inn, .In | .nin, .NotIn => true
  | _, _ => false
def okL : Lt → Const → Bool
  | .int i, .int j => decide (i = j)
  | .str x, .str y => decide (x = y) && decide (x.length ≤ 1000)
  | .bl a, .bool b => decide (a = b)
  | .non, .none => true
  | _, _ => false
def bfName : Bf → Str
  | .len => "len" | .list => "list" | .tuple => "tuple" | .all => "all" | .any => "any" | .sum => "sum" | .max => "max" | .min => "min" | .abs => "abs" | .int => "int" | .divmod => "divmod" | .str => "str" | .isi => "isinstance" | .rev => "reversed" | .enum => "enumerate" | .repr => "repr" | .sorted => "sorted" | .zip => "zip"
def mfName : Mf → Str
  | .append => "append" | .extend => "extend" | .pop => "pop" | .insert => "insert" | .reverse => "reverse" | .clear => "clear" | .index => "index" | .join => "join" | .split => "split" | .part => "partition" | .upper => "upper" | .starts => "startswith" | .remove => "remove" | .count => "count"
def chKs : List Str → List (Option Expr) → Bool
  | [], [] => true
  | k :: ks, some (.Constant (.str g) _ _) :: r => decide (k = g) && chKs ks r
  | _, _ => false
def glOk (sc : Scope) (x : Str) : Bool := decide (sc.names.lookup x = some .globalImplicit) && !(x == ("__debug__" : Str)) && !(x == ("__name__" : Str))
def locOk (N : List Str) (sc : Scope) (i : Nat) (x : Str) : Bool := decide (N[i]? = some x) && !(x == ("__debug__" : Str)) && !(x == ("__classdict__" : Str)) &&
  (decide (sc.names.lookup x = some .local) || decide (sc.names.lookup x = some .cell) || decide (sc.names.lookup x = some .free))
def tyOk (n : String) : Bool := ["int", "bool", "str", "list", "tuple"].contains n
def isYes : Tx → Bool
  | .yes => true
  | _ => false
mutual
def chE (N : List Str) (nm : Nat → Str × Str) (sc : Scope) : Ex → Expr → Bool
  | .var i, .Name x _ => locOk N sc i x
  | .lit l, .Constant c _ _ => okL l c
  | .glb x, .Name y _ => decide (x = y) && glOk sc x
  | .ty n, .Name y _ => decide ((n : Str) = y) && glOk sc y && tyOk n
  | .bin o a b, .BinOp x p y _ => okB o p && chE N nm sc a x && chE N nm sc b y
  | .neg a, .UnaryOp .USub x _ => chE N nm sc a x
  | .cmp o a b, .Compare x [p] [y] _ => okC o p && !isSet y && chE N nm sc a x && chE N nm sc b y
  | .bool true es, .BoolOp .And xs _ => chEs N nm sc es xs && !xs.isEmpty
  | .bool false es, .BoolOp .Or xs _ => chEs N nm sc es xs && !xs.isEmpty
  | .not_ a, .UnaryOp .Not x _ => chE N nm sc a x
  | .ite c a b, .IfExp z x y _ => chT N nm sc c z && chE N nm sc a x && chE N nm sc b y
  | .idx a b, .Subscript x y _ => !isSlice y && chE N nm sc a x && chE N nm sc b y
  | .get a f, .Subscript x (.Constant (.str g) _ _) _ => decide (f = g) && chE N nm sc a x
  | .slc a lo hi, .Subscript x (.Slice l h none _) _ => chE N nm sc a x && chO N nm sc lo l && chO N nm sc hi h
  | .fld a f, .Attribute x g _ => decide (f = g) && !isCall0 x && chE N nm sc a x
  | .tup es, .Tuple xs _ _ => chEs N nm sc es xs
  | .lst es, .List xs _ => chEs N nm sc es xs
  | .blt b es, .Call (.Name x _) xs [] _ => decide (x = bfName b) && glOk sc x && !xs.isEmpty && chEs N nm sc es xs
  | .mth m o es, .Call (.Attribute x g ap) xs [] p => decide (g = mfName m) && !isCall0 x && (ap.endLine == p.line) && decide (xs.length < 19) && chE N nm sc o x && chEs N nm sc es xs
  | .call f id es, .Call (.Name x _) xs [] _ => decide (f = x) && decide (nm id = (("" : Str), f)) && glOk sc x && chEs N nm sc es xs
  | .make f id es, .Call (.Name x _) xs [] _ => decide (f = x) && decide (nm id = (f, ("__init__" : Str))) && glOk sc x && !xs.isEmpty && chEs N nm sc es xs
  | .meth c m id o es, .Call (.Attribute x g ap) xs [] p => decide (m = g) && decide (nm id = (c, m)) && !isCall0 x && (ap.endLine == p.line) && decide (xs.length < 19) && chE N nm sc o x && chEs N nm sc es xs
  | .or2 a b, .BoolOp .Or [x, y] _ => chE N nm sc a x && chE N nm sc b y
  | .lenset a, .Call (.Name l _) [.Call (.Name t _) [x] [] _] [] _ => decide (l = ("len" : Str)) && decide (t = ("set" : Str)) && glOk sc l && glOk sc t && !isStar x && chE N nm sc a x
  | .lrev a, .Call (.Name l _) [.Call (.Name t _) [x] [] _] [] _ => decide (l = ("list" : Str)) && decide (t = ("reversed" : Str)) && glOk sc l && glOk sc t && !isStar x && chE N nm sc a x
  | .lrng a, .Call (.Name l _) [.Call (.Name t _) [x] [] _] [] _ => decide (l = ("list" : Str)) && decide (t = ("range" : Str)) && glOk sc l && glOk sc t && !isStar x && chE N nm sc a x
  | .rvs a, .Subscript x (.Slice none none (some (.UnaryOp .USub (.Constant (.int i) _ _) _)) _) _ => decide (i = 1) && chE N nm sc a x
  | .dct1 k v, .Dict [some x] [y] _ => chE N nm sc k x && chE N nm sc v y
  | .dct0, .Dict [] [] _ => true
  | .dct ks es, .Dict keys vals _ => chKs ks keys && decide ks.Nodup && decide (keys.length = vals.length) && decide (0 < keys.length) && decide (keys.length ≤ 15) && chEs N nm sc es vals
  | .repl x o y z, .BinOp (.Constant (.str x1) _ _) .Add (.Call (.Attribute e g ap) [.Constant (.str y1) _ _, .Constant (.str z1) _ _] [] p) _ => decide (x = x1) && decide (g = ("replace" : Str)) && decide (y = y1) && decide (z = z1) && !(y == z) && decide (x.length ≤ 1000) && !isCall0 e && (ap.endLine == p.line) && chE N nm sc o e
  | .sortm c m id a i, .Call (.Name f _) [x] [⟨some k, .Attribute (.Name y _) g _, _⟩] _ => decide (f = ("sorted" : Str)) && decide (k = ("key" : Str)) && decide (g = m) && decide (nm id = (c, m)) && !(c == ("" : Str)) && !(PySem.W.copiedNames.contains m) && glOk sc f && !isStar x && chE N nm sc a x && locOk N sc i y
  | .lc it j tt te, .ListComp elt [⟨.Name x _, iter, ifs, 0⟩] scope _ => !isSet iter && chI N nm sc it iter && blkC N sc scope [(x, j)] && decide (N[j]? = some x) &&
      (decide ((relS scope sc).names.lookup x = some .local) || (decide ((relS scope sc).names.lookup x = some .cell) && (scope.names.lookup x == some .cell))) && (match ifs with | [] => isYes tt | [c] => chT N nm (relS scope sc) tt c | _ => false) && chE N nm (relS scope sc) te elt
  | .lcp it j1 j2 te, .ListComp elt [⟨.Tuple [.Name x _, .Name y _] _ _, iter, [], 0⟩] scope _ => !isSet iter && chI N nm sc it iter && blkC N sc scope [(x, j1), (y, j2)] && decide (N[j1]? = some x) && decide (N[j2]? = some y) &&
      decide ((relS scope sc).names.lookup x = some .local) && decide ((relS scope sc).names.lookup y = some .local) && chE N nm (relS scope sc) te elt
  | .callv i es, .Call (.Name x _) xs [] _ => locOk N sc i x && !xs.isEmpty && chEs N nm sc es xs
  | .exc0 f, .Call (.Name x _) [] [] _ => decide (f = x) && glOk sc x
  | .exc1 f a, .Call (.Name x _) [y] [] _ => decide (f = x) && glOk sc x && !isStar y && chE N nm sc a y
  | .exca f a, .Call (.Name x _) [y] [] _ => decide (f = x) && glOk sc x && !isStar y && chE N nm sc a y
  | .isx a c, .Call (.Name f _) [y, .Name x _] [] _ => decide (f = ("isinstance" : Str)) && glOk sc f && decide (c = x) && glOk sc x && !isStar y && chE N nm sc a y
  | .xat a, .Attribute x g _ => decide (g = ("at" : Str)) && !isCall0 x && chE N nm sc a x
  | _, _ => false
def chEs (N : List Str) (nm : Nat → Str × Str) (sc : Scope) : Exs → List Expr → Bool
  | .nil, [] => true
  | .cons e es, x :: xs => !isStar x && chE N nm sc e x && chEs N nm sc es xs
  | _, _ => false
def chO (N : List Str) (nm : Nat → Str × Str) (sc : Scope) : Eo → Option Expr → Bool
  | .none, none => true
  | .some e, some x => chE N nm sc e x
  | _, _ => false
def chT (N : List Str) (nm : Nat → Str × Str) (sc : Scope) : Tx → Expr → Bool
  | .val a, x => !isTest x && chE N nm sc a x
  | .cmp o a b, .Compare x [p] [y] _ => okC o p && !isSet y && chE N nm sc a x && chE N nm sc b y
  | .bool true ts, .BoolOp .And xs _ => chTs N nm sc ts xs && !xs.isEmpty
  | .bool false ts, .BoolOp .Or xs _ => chTs N nm sc ts xs && !xs.isEmpty
  | .not_ t, .UnaryOp .Not x _ => chT N nm sc t x
  | .chain o o2 a b c, .Compare x [p, p2] [y, z] _ => okC o p && okC o2 p2 && !isSet y && !isSet z && chE N nm sc a x && chE N nm sc b y && chE N nm sc c z
  | _, _ => false
def chTs (N : List Str) (nm : Nat → Str × Str) (sc : Scope) : Txs → List Expr → Bool
  | .nil, [] => true
  | .cons t ts, x :: xs => chT N nm sc t x && chTs N nm sc ts xs
  | _, _ => false
def chI (N : List Str) (nm : Nat → Str × Str) (sc : Scope) : Ix → Expr → Bool
  | .of e, x => chE N nm sc e x
  | .rng es, .Call (.Name x _) xs [] _ => decide (x = ("range" : Str)) && glOk sc x && decide (0 < es.len ∧ es.len ≤ 3) && chEs N nm sc es xs
  | _, _ => false
end
end DM
set_option autoImplicit false
set_option Elab.async false
set_option linter.all false
set_option maxRecDepth 100000
namespace DM
open PySem PySem.Spec PyProof.Rows L2 LamX
mutual
theorem Enc.less {G : Gw} {O O' : Addr → Prop} {H : Hp} (q : ∀ a, O' a → O a) : ∀ {v : V} {d : D}, Enc G O H v d → Enc G O' H v d
  | _, _, .non => .non
  | _, _, .bl b => .bl b
  | _, _, .int i => .int i
  | _, _, .str h => .str h
  | _, _, .ty n => .ty n
  | _, _, .ref a => .ref a
  | _, _, .tup (.inl ⟨n, h⟩) z r => .tup (.inl ⟨fun x => n (q _ x), h⟩) z (EncL.less q r)
  | _, _, .tup (.inr h) z r => .tup (.inr h) z (EncL.less q r)
  | _, _, .lst n h z r => .lst (fun x => n (q _ x)) h z (EncL.less q r)
  | _, _, .frz (.inl ⟨n, h⟩) z => .frz (.inl ⟨fun x => n (q _ x), h⟩) z
  | _, _, .frz (.inr h) z => .frz (.inr h) z
  | _, _, .ins g n h e r => .ins g (fun x => n (q _ x)) h e (EncL.less q r)
  | _, _, .exc g n h => .exc g (fun x => n (q _ x)) h
  | _, _, .lam g n m h k => .lam g (fun x => n (q _ x)) (fun x => m (q _ x)) h k
  | _, _, .exa g n m h k => .exa g (fun x => n (q _ x)) (fun x => m (q _ x)) h k
theorem EncL.less {G : Gw} {O O' : Addr → Prop} {H : Hp} (q : ∀ a, O' a → O a) : ∀ {vs : List V} {ds : List D}, EncL G O H vs ds → EncL G O' H vs ds
  | _, _, .nil => .nil
  | _, _, .cons h r => .cons (Enc.less q h) (EncL.less q r)
end
theorem dom_nil (a : Addr) : ¬ dom [] a := fun ⟨_, h⟩ => nomatch h
section
variable {G : Gw} {H H' : Hp} {L : HL} {W : WX} {X : Cx}
/-- all that is tracked stays -/
theorem Sat.all (S : Sat G H L) (p : Pers (dom []) H (dom []) H') (t : LamX.Tabs G.T H') : Sat G H' L := by
  have pL : Pers (dom L) H (dom L) H' := ⟨fun a o e _ => p.1 a o e (dom_nil a), fun _ h => .inl h⟩
  refine ⟨S.nd, fun a c m => (S.ok a c m).pers pL ?_, t⟩
  obtain ⟨o, e, nt, _⟩ := (S.ok a c m).plain
  rw [(p.keep e (dom_nil a) nt).1, e]
end
/-- what was told of the heap is told still; a table may be longer -/
def Grown (H H' : Hp) : Prop := ∀ a o, H a = some o → H' a = some o ∨ ((∃ ps, o = .tbl ps) ∧ ∃ ps', H' a = some (.tbl ps'))
theorem Grown.pers {H H' : Hp} (g : Grown H H') (O : Addr → Prop) : Pers O H O H' := ⟨fun a o e _ => g a o e, fun _ h => .inl h⟩
theorem Grown.keep {H H' : Hp} (g : Grown H H') {a : Addr} {o : HO} (e : H a = some o) (n : ∀ ps, o ≠ .tbl ps) : H' a = some o := (g a o e).elim id fun q => (q.1.elim fun ps z => (n ps z).elim)
theorem Grown.then {H H1 H2 : Hp} (a : Grown H H1) (b : Grown H1 H2) : Grown H H2 := fun x o e => match a x o e with
  | .inl h => b x o h
  | .inr ⟨t, ps, h⟩ => .inr ⟨t, match b x _ h with
    | .inl h2 => ⟨ps, h2⟩
    | .inr ⟨_, h2⟩ => h2⟩
theorem Grown.one {H : Hp} {p : Addr} {o : HO} (h : H p = none ∨ ((∃ ps, H p = some (.tbl ps)) ∧ ∃ ps', o = .tbl ps')) : Grown H (upd H p o) := fun a u e => by
  by_cases hp : a = p
  · subst hp
    rcases h with h | ⟨⟨ps, h⟩, ps', rfl⟩
    · rw [h] at e; cases e
    · rw [h] at e
      cases e
      exact .inr ⟨⟨ps, rfl⟩, ps', upd_same⟩
  · exact .inl ((upd_ne hp).trans e)
/-- the tables of code objects, when one of them got a place more for a new code object -/
theorem tabs_more {T : List (Addr × Str)} {H : Hp} {P k : Addr} {q : Str} {ps : Array Value} {pos : Pos} (t : Tabs T H) (hP : H P = some (.tbl ps)) (nk : H k = none) (all : ∀ p ∈ T, p.1 = P → p.2 = q)
    (tr : TriplesOk ps.toList) (own : ∀ (at' : Pos) (v : Value), codeAmong at' ps.toList = some v → ∃ d, v = .ref d ∧ H d = some (CodeO d q)) :
    Tabs T (upd (upd H P (.tbl (ps ++ #[rawInt pos.line, rawInt pos.col, .ref k]))) k (CodeO k q)) := by
  have g : Grown H (upd (upd H P (.tbl (ps ++ #[rawInt pos.line, rawInt pos.col, .ref k]))) k (CodeO k q)) :=
    (Grown.one (.inr ⟨⟨ps, hP⟩, _, rfl⟩)).then (Grown.one (.inl ((upd_ne (fun z => by rw [z, hP] at nk; cases nk)).trans nk)))
  have code : ∀ {d : Addr} {x : Str}, H d = some (CodeO d x) → upd (upd H P (.tbl (ps ++ #[rawInt pos.line, rawInt pos.col, .ref k]))) k (CodeO k q) d = some (CodeO d x) := fun e => g.keep e codeO_ne
  rintro ⟨R, x⟩ mem
  by_cases here : R = P
  · subst here
    obtain rfl : x = q := all _ mem rfl
    refine ⟨ps ++ #[rawInt pos.line, rawInt pos.col, .ref k], ?_, ?_, fun at' v hv => ?_⟩
    · show upd (upd H R _) k _ R = _
      rw [upd_ne (fun z => by rw [← z, hP] at nk; cases nk)]
      exact upd_same
    · rw [Array.toList_append]
      exact PySem.TriplesOk_snoc _ _ _ _ tr
    · rw [Array.toList_append] at hv
      exact (among_app (pos := pos) _ tr hv).elim (fun z => (own at' v z).imp fun d ⟨e1, e2⟩ => ⟨e1, code e2⟩) fun z => ⟨k, z, upd_same⟩
  · obtain ⟨ps', a1, a2, a3⟩ := t _ mem
    refine ⟨ps', ?_, a2, fun at' v hv => (a3 at' v hv).imp fun d ⟨e1, e2⟩ => ⟨e1, code e2⟩⟩
    show upd (upd H P _) k _ R = _
    rw [upd_ne (fun z => by rw [← z, show H R = _ from a1] at nk; cases nk), upd_ne here]
    exact a1
section
variable {X : Cx} {pins : List (Addr × Obj)} {σ : _root_.L2.St} {H : Hp} {s : Shared}
/-- the def's object is laid behind all else: it is known from now on -/
theorem lam_laid {F : LamD} {h' : Heap} {tk : Nat} {k : Addr} {pm cv : Value} {T : List (Addr × Str)} (J : Inv X pins σ H { s with heap := h', toks := tk }) (t : Tabs T H) (hk : H k = some (CodeO k F.qual)) :
    Inv X pins σ (upd H h'.objs.size (F.O h'.objs.size k)) { s with heap := h'.push (PySem.W.kla_obj "<lambda>" F.qual F.params F.body F.scope [] pm k cv), toks := tk } ∧ Grown H (upd H h'.objs.size (F.O h'.objs.size k)) ∧
      Tabs T (upd H h'.objs.size (F.O h'.objs.size k)) ∧ upd H h'.objs.size (F.O h'.objs.size k) k = some (CodeO k F.qual) := by
  have new : H h'.objs.size = none := J.hok.fresh (a := h'.objs.size) (Nat.le_refl h'.objs.size)
  have g := Grown.one (o := F.O h'.objs.size k) (.inl new)
  have le : ∀ {b : Addr} {o : HO}, H b = some o → upd H h'.objs.size (F.O h'.objs.size k) b = some o := fun {b o} e => (upd_ne (fun z => by rw [z, new] at e; cases e)).trans e
  have got : (h'.push (PySem.W.kla_obj "<lambda>" F.qual F.params F.body F.scope [] pm k cv)).get? h'.objs.size = some (PySem.W.kla_obj "<lambda>" F.qual F.params F.body F.scope [] pm k cv) := Heap.get?_push_size h' rfl
  refine ⟨J.laid (t' := tk) (fun b u => Heap.get?_push_of_some _) (Nat.le_refl h'.objs.size) ⟨⟨pm, cv, got⟩, ⟨_, got⟩, fun h1 h2 ⟨p, c, z⟩ keep => ⟨p, c, keep _ z⟩⟩, g, Tabs.ext t fun b o e => le e, le hk⟩
/-- a lambda that captures nothing is made, from the code object that its maker's table has for the place, or a new one -/
theorem lam_make3 {T : List (Addr × Str)} {c P : Addr} {F : LamD} {pos : Pos} {E Q : Value → Shared → Prop} (I : Inv X pins σ H s) (TB : TabB X.base X.mg c P) (here : X.env.code = .ref c) (hq : F.qual = X.env.qual ++ "<lambda>") (mem : (P, F.qual) ∈ T) (all : ∀ p ∈ T, p.1 = P → p.2 = F.qual)
    (t : Tabs T H) (dfl : defaultsOf F.params X.env = ([], [])) (clo : ∀ y ∈ F.scope.names, y.2 ≠ .free) (none0 : cloFrom X.env.cells F.scope.names [] = [])
    (h : ∀ (f k : Addr) (H1 : Hp) (s' : Shared), Inv X pins σ H1 s' → Grown H H1 → Tabs T H1 → H1 f = some (F.O f k) → H1 k = some (CodeO k F.qual) → Q (.ref f) s') :
    wpAny (model X.prog X.w) X.A (eval (.Lambda F.params F.body F.scope pos) X.env) Q E s := by
  obtain ⟨ps, tP, tr, own⟩ := t _ mem
  have tab : s.heap.get? P = some { cls := .none, data := .fields ps } := I.hok P _ tP
  have clos : closureFor F.scope X.env = pure [] := by
    have := closure_ok (env := X.env) (scope := F.scope) fun y hy e => absurd e (clo y hy)
    rwa [none0] at this
  have gl := I.mod.glob.keeps I.bk
  have code := TB.code.keeps I.bk
  have blt := TB.bm.keeps I.bk
  have fin : ∀ {h' : Heap} {tk : Nat} {k : Addr} {pm cv : Value} {H1 : Hp}, Inv X pins σ H1 { s with heap := h', toks := tk } → Grown H H1 → Tabs T H1 → H1 k = some (CodeO k F.qual) →
      Q (.ref h'.objs.size) { s with heap := h'.push (PySem.W.kla_obj "<lambda>" F.qual F.params F.body F.scope [] pm k cv), toks := tk } := fun J g t1 hk =>
    let ⟨J2, g2, t2, k2⟩ := lam_laid (F := F) J t1 hk
    h _ _ _ _ J2 (g.then g2) t2 upd_same k2
  refine PySem.W.kla_eval dfl ?_
  rw [← hq]
  match found : codeAmong pos ps.toList with
  | some v =>
    obtain ⟨k, rfl, hk⟩ := own pos v found
    exact PySem.W.kla_makeFunctionHit (mg := X.mg) clos I.ok.glob gl here code tab tr found blt fun ctv h' tk more le => fin (I.kept (t' := tk) more) (fun a o e => .inl e) t hk
  | none =>
    refine PySem.W.kla_makeFunction (mg := X.mg) clos I.ok.glob gl here code tab tr found TB.gP blt fun k ctv h' tk more ge lt rec' tab' => ?_
    obtain ⟨k', oc, vs, tk', e, r1, r2, r3⟩ := rec'
    cases e
    have nk : H k = none := I.hok.fresh ge
    refine fin (inv_table (t' := tk) I tP more tab' ge ⟨oc, vs, tk', r1, r2, r3⟩) ?_ (tabs_more t tP nk all tr own) upd_same
    exact (Grown.one (.inr ⟨⟨ps, tP⟩, _, rfl⟩)).then (Grown.one (.inl ((upd_ne (fun z => by rw [z, tP] at nk; cases nk)).trans nk)))
end
section
variable {G : Gw} {H H' : Hp} {L : HL}
theorem Sat.grown (S : Sat G H L) (g : Grown H H') (t : Tabs G.T H') : Sat G H' L := S.all (g.pers _) t
theorem sat_noext (S : Sat G H L) {a : Addr} {φ : Heap → Prop} (e : H a = some (.ext φ)) : ¬ dom L a := fun ⟨c, m⟩ => by
  obtain ⟨o, e2, _, n⟩ := (S.ok a c m).plain
  rw [e] at e2
  cases e2
  exact n φ rfl
end
section
variable {G : Gw} {W : WX} {X : Cx}
def dChain (R R' : D → D → HL → Qd → Prop) (ta tb tc : DTE) : DTT := fun σ L Q E => ta σ L (fun x L1 => tb σ L1 (fun y L2 => R x y L2 (fun d L3 => ∃ k, d = .bl k ∧ (if k = true then tc σ L3 (fun z L4 => R' y z L4 (fun d2 L5 => ∃ k2, d2 = .bl k2 ∧ Q k2 L5)) E else Q false L3))) E) E
theorem ct_chain {e : Expr} {ta tb tc : DTE} {R R' : D → D → HL → Qd → Prop} {r r' : R2} (hr : OpD G R r) (hr' : OpD G R' r') (h : PT X e (tTest (tChain r r' (conc G W ta) (conc G W tb) (conc G W tc)))) : PT X e (concT G W (dChain R R' ta tb tc)) :=
  pt_imp h fun vs H Qv ⟨σ, L, Q, E, S, en, q, k, kx⟩ => by
    unfold dChain at q
    refine conc_bind S en kx q fun v H1 x L1 p1 S1 e1 en1 kx1 q1 => conc_bind S1 en1 kx1 q1 fun u H2 y L2 p2 S2 e2 en2 kx2 q2 => ?_
    refine hr S2 (e1.pers p2) e2 (fun w H3 d L3 p3 S3 e3 ⟨b, hb, q3⟩ => ?_) q2
    subst hb
    cases e3
    refine ⟨b, rfl, ?_⟩
    cases b with
    | false => exact ⟨false, rfl, (((k.back p1).back p2).back p3).here S3 q3⟩
    | true =>
      refine conc_bind S3 (en2.pers p3) (kx2.back p3) q3 fun w4 H4 z L4 p4 S4 e4 en4 kx4 q4 => ?_
      refine hr' S4 ((e2.pers p3).pers p4) e4 (fun w5 H5 d5 L5 p5 S5 e5 ⟨b5, hb5, q5⟩ => ?_) q4
      subst hb5
      cases e5
      exact ⟨b5, rfl, (((((k.back p1).back p2).back p3).back p4).back p5).here S5 q5⟩
end
end DM
set_option Elab.async false
set_option linter.all false
set_option maxRecDepth 100000
namespace DM
open PySem L2 PyProof.Rows
section
variable {G : Gw} {H H' : Hp} {L L' A B : HL} {vs : Sv} {σ : Sl} {X : Cx} {W : WX} {e : Expr}
def LIp (q : Sq) (j1 j2 : Nat) (te : DTE) (σ : Sl) (Q : List D → HL → Prop) (W : Nat → List D → HL → Prop) : Prop := ∀ p i acc L2, W i acc L2 → q.live ((p, .lst acc) :: L2) ∧ (i = q.items.length → Q acc L2) ∧
  ∀ d, q.items[i]? = some d → ∃ x y, d = .tup [x, y] ∧ te (((wipeD σ [j1, j2]).set j1 (some x)).set j2 (some y)) ((p, .lst acc) :: L2) (fun y L5 => TurnTo p acc (W (i + 1) (acc ++ [y])) L5) X0
def dLcp (ti : DTI) (j1 j2 : Nat) (te : DTE) : DTE := fun σ L Q E => ti σ L (fun q L1 => ∃ W : Nat → List D → HL → Prop, W 0 [] L1 ∧ LIp q j1 j2 te σ (fun acc L2 => RetL acc L2 Q) W) E
theorem wipe_sameP {s1 s2 : Sv} {ws : List Nat} (hl : s1.length = s2.length) (h : ∀ i, i ∉ ws → s1[i]? = s2[i]?) : wipe s1 ws = wipe s2 ws := by
  refine List.ext_getElem? fun i => ?_
  rw [wipe_get, wipe_get, hl]
  by_cases m : i ∈ ws
  · rw [if_pos m, if_pos m]
  · rw [if_neg m, if_neg m, h i m]
theorem lcp_imp {ti : DTI} {j1 j2 : Nat} {te : DTE} : ∀ vs H Qv, conc G W (dLcp ti j1 j2 te) vs H Qv → tLc (concI G W ti) (gTup G.K 2 (gCons (gName j1) (gCons (gName j2) gNil))) (concT G W0 oYes) (conc G W0 te) [j1, j2] vs H Qv :=
  fun vs H Qv ⟨σ, L, Q, E, S, en, q, k, kx⟩ => ⟨σ, L, _, E, S, en, q, fun J H1 q L1 p1 S1 ad lv ⟨Wd, w0, turn⟩ => by
    intro D hD
    have hn := ad.1
    refine ⟨fun i m H2 => m = q.items.length - i ∧ i ≤ q.items.length ∧ ∃ acc L2, acc.length ≤ i ∧ Sat G H2 ((D, .lst acc) :: L2) ∧ Pers (dom L1) H1 (dom ((D, Ch.lst acc) :: L2)) H2 ∧ Wd i acc L2,
      ⟨_, rfl, Nat.zero_le _, [], L1, Nat.le_refl _, S1.own hD (.lst upd_same (Nat.zero_le _) .nil), Pers.own hD, w0⟩, ?_⟩
    rintro i m H2 ⟨rfl, hi, acc, L2, hacc, S2, p2, w2⟩
    obtain ⟨lv2, hend, hturn⟩ := turn D i acc L2 w2
    obtain ⟨a1, a2⟩ := ad.2 i H2 _ p2 S2 lv2
    by_cases hl : i = q.items.length
    · refine .inl ⟨a1 hl, ?_⟩
      rcases hend hl with hq | hq
      · obtain ⟨S3, e3, p3⟩ := Le.ok (.lst (L := L2)) S2 (.ref D)
        exact k _ _ _ L2 ((p1.trans p2).trans p3) S3 e3 hq
      · exact k _ _ _ _ (p1.trans p2) S2 (.ref D) (hq D)
    · have hlt : i < q.items.length := by omega
      have hd : q.items[i]? = some q.items[i] := List.getElem?_eq_getElem hlt
      obtain ⟨go, hy⟩ := a2 _ hd
      refine .inr ⟨go, fun H' => i + 1 ≤ q.items.length ∧ ∃ acc L2, acc.length ≤ i + 1 ∧ Sat G H' ((D, .lst acc) :: L2) ∧ Pers (dom L1) H1 (dom ((D, Ch.lst acc) :: L2)) H' ∧ Wd (i + 1) acc L2, fun H' hw => ⟨q.items.length - (i + 1), by omega, rfl, hw⟩, fun x H3 hx => ?_⟩
      obtain ⟨p3, S3, ex⟩ := hy x H3 hx
      obtain ⟨xd, yd, hpair, hte⟩ := hturn _ hd
      rw [hpair] at ex
      cases ex with
      | @tup t ys _ ta tz er =>
        cases er with
        | @cons v1 vr _ _ e1 er2 =>
          cases er2 with
          | @cons v2 vr2 _ _ e2 er3 =>
            cases er3
            refine ⟨t, _, rfl, ta.sq, rfl, _, _, rfl, _, _, rfl, rfl, ?_, ?_⟩
            · exact wipe_sameP (by rw [List.length_set, List.length_set, wipe_length]) fun q hq => by
                rw [List.getElem?_set_ne (fun z => hq (by rw [← z]; simp)), List.getElem?_set_ne (fun z => hq (by rw [← z]; simp)), wipe_get, if_neg hq]
            · have en3 := ((((en.pers p1).pers p2).pers p3).wipe [j1, j2] |>.set e1 j1).set e2 j2
              refine conc_bindT (R := fun b L4 => b = true ∧ te (((wipeD σ [j1, j2]).set j1 (some xd)).set j2 (some yd)) L4 (fun y L5 => TurnTo D acc (Wd (i + 1) (acc ++ [y])) L5) X0) S3 en3 (fun _ _ _ _ _ _ _ _ _ _ _ z => z) (show oYes _ _ _ X0 from ⟨rfl, hte⟩) fun b H4 L4 p4 S4 en4 kx4 q4 => ?_
              obtain ⟨hb, q4⟩ := q4
              subst hb
              refine iteT ?_
              refine conc_bind (R := fun y L5 => TurnTo D acc (Wd (i + 1) (acc ++ [y])) L5) S4 en4 kx4 q4 fun y H5 d L5 p5 S5 e5 en5 kx5 q5 => ?_
              obtain ⟨L6, s6, w6⟩ := q5
              have S6 := S5.ls s6
              have e6 := e5.pers (S5.lsl s6)
              obtain ⟨xs, hx6, z6, r6⟩ := own_lst S6 (Sp.here)
              have pp : Pers (dom ((D, Ch.lst acc) :: L6)) H5 (dom (put ((D, Ch.lst acc) :: L6) D (.lst (acc ++ [d])))) (upd H5 D (.lst (xs ++ [y]))) := Pers.write ⟨_, List.mem_cons_self ..⟩
              have hlen : xs.length = acc.length := r6.len
              have hlt2 : xs.length < sizeLine := by omega
              obtain ⟨S7, p7⟩ := S6.at_ Sp.here (c' := .lst (acc ++ [d])) (.lst upd_same (by rw [List.length_append]; exact hlt2) ((r6.append (.one e6)).pers pp))
              exact ⟨xs, hx6, hlt2, hlt, acc ++ [d], L6, by rw [List.length_append, List.length_singleton]; omega, S7, ((((p2.trans p3).trans p4).trans p5).trans (S5.lsl s6)).trans p7, w6⟩, kx⟩
theorem ce_lcp {ti : DTI} {j1 j2 : Nat} {te : DTE} (h : PE X e (tLc (concI G W ti) (gTup G.K 2 (gCons (gName j1) (gCons (gName j2) gNil))) (concT G W0 oYes) (conc G W0 te) [j1, j2])) : PE X e (conc G W (dLcp ti j1 j2 te)) := pe_imp h lcp_imp
end
end DM
set_option Elab.async false
set_option linter.all false
set_option maxRecDepth 100000
namespace DM
open PySem L2 PyProof.Rows PyProof.V
def plainV : V → Option PyData
  | .non => some .none
  | .bl b => some (.bool b)
  | .int i => some (.int i)
  | .str x => some (.str x)
  | _ => none
def plainD : D → Option PyData
  | .non => some .none
  | .bl b => some (.bool b)
  | .int i => some (.int i)
  | .str x => some (.str x)
  | _ => none
def encK : Key → PyData
  | .inl i => .int i
  | .inr x => .str x
inductive PvL : List (Key × V) → List (PyData × PyData) → Prop
  | nil : PvL [] []
  | cons {k : Key} {v : V} {y : PyData} {r : List (Key × V)} {ys : List (PyData × PyData)} : plainV v = some y → PvL r ys → PvL ((k, v) :: r) ((encK k, y) :: ys)
inductive PdL : List (Str × D) → List (PyData × PyData) → Prop
  | nil : PdL [] []
  | cons {k : Str} {d : D} {y : PyData} {r : List (Str × D)} {ys : List (PyData × PyData)} : plainD d = some y → PdL r ys → PdL ((k, d) :: r) ((.str k, y) :: ys)
inductive Dx (K : PySem.W.Frag) (H : Hp) : V → PyData → Prop
  | data {v : V} {y : PyData} : Dp K H v y → y.hasDict = false → Dx K H v y
  | dct {a : Addr} {kvs : List (Key × V)} {ys : List (PyData × PyData)} : H a = some (.dK kvs) → PvL kvs ys → Dx K H (.ref a) (.dict ys)
inductive DxL (K : PySem.W.Frag) (H : Hp) : List V → List PyData → Prop
  | nil : DxL K H [] []
  | cons {v : V} {y : PyData} {vs : List V} {ys : List PyData} : Dx K H v y → DxL K H vs ys → DxL K H (v :: vs) (y :: ys)
inductive DxT (K : PySem.W.Frag) (H : Hp) : V → PyData → Prop
  | one {v : V} {y : PyData} : Dx K H v y → DxT K H v y
  | lst {a : Addr} {vs : List V} {ys : List PyData} : SqL K H a vs → DxL K H vs ys → DxT K H (.ref a) (.list ys)
  | tup {a : Addr} {vs : List V} {ys : List PyData} : SqT K H a vs → DxL K H vs ys → DxT K H (.ref a) (.tuple ys)
inductive RdL (h : Heap) : List Value → List PyData → Prop
  | nil : RdL h [] []
  | cons {u : Value} {y : PyData} {as : List Addr} {us : List Value} {ys : List PyData} : Reads h u y as → (y.hasDict = true → sysModules ∉ as) → RdL h us ys → RdL h (u :: us) (y :: ys)
section
variable {X : Cx} {pins : List (Addr × Obj)} {σ : _root_.L2.St} {H : Hp} {s : Shared} {h : Heap}
theorem reads_plain {v : V} {u : Value} {y : PyData} (e : plainV v = some y) (r : RelV v u) : Reads h u y [] := by
  cases v <;> cases e
  · cases r; exact .none
  · cases r; exact .bool _
  · obtain ⟨t, rfl⟩ := r; exact .int _ t
  · obtain ⟨t, rfl⟩ := r; exact .str _ t
theorem pairs_plain : ∀ {kvs : List (Key × V)} {vs : List (Key × Value)} {ys : List (PyData × PyData)}, PvL kvs ys → KV kvs vs → PairsRead h encK vs ys []
  | [], _, _, .nil, .nil => .nil
  | (k, v) :: r, _, _, .cons e t, .cons (b := (k2, u)) ⟨hk, hr⟩ c => by
    have hk : k = k2 := hk
    subst hk
    exact .cons (as := []) (bs := []) (reads_plain e hr) (pairs_plain t c)
theorem key_reads {P : Program} {w : World} : ∀ (k : Key) (key : Value), (mixKind P w).is k key = true → Reads h key (encK k) [] := fun k key e => by
  rcases keyIs_shape e with ⟨i, t, rfl, rfl⟩ | ⟨x, t, rfl, rfl⟩
  · exact .int i t
  · exact .str x t
theorem Dx.reads (I : Inv X pins σ H s) {v : V} {u : Value} {y : PyData} (d : Dx X.K H v y) (r : RelV v u) : ∃ as, Reads s.heap u y as ∧ (y.hasDict = true → sysModules ∉ as) := by
  cases d with
  | data d h =>
    obtain ⟨as, ra⟩ := Dp.reads I y v u d r
    exact ⟨as, ra, fun z => by rw [h] at z; cases z⟩
  | @dct a kvs ys e p =>
    cases r
    obtain ⟨_, hS, vs, r, m⟩ : kvs.length ≤ sizeLine ∧ (a == sysModules) = false ∧ ∃ vs, KV kvs vs ∧ s.heap.DictOf (mixKind X.prog X.w) a vs := I.hok a _ e
    refine ⟨_, reads_dictOf key_reads m (pairs_plain p r), fun _ z => ?_⟩
    rw [List.mem_singleton.mp z] at hS
    exact absurd hS (by simp)
theorem DxL.reads (I : Inv X pins σ H s) : ∀ {vs : List V} {us : List Value} {ys : List PyData}, DxL X.K H vs ys → Vals vs us → RdL s.heap us ys
  | _, _, _, .nil, .nil => .nil
  | _, _, _, .cons d t, .cons r c => by
    obtain ⟨as, ra, hs⟩ := d.reads I r
    exact .cons ra hs (t.reads I c)
theorem RdL.all : ∀ {us : List Value} {ys : List PyData}, RdL h us ys → ∃ as, ReadsAll h us ys as
  | _, _, .nil => ⟨_, .nil⟩
  | _, _, .cons r _ t => by
    obtain ⟨as, ra⟩ := t.all
    exact ⟨_, .cons r ra⟩
theorem RdL.texts {P : Program} {w : World} : ∀ {us : List Value} {ys : List PyData}, RdL h us ys → PyData.showableAll ys = true → (∀ t ∈ PyData.shownAll ys, t.length ≤ sizeLine) →
    ∃ bs, ReadAtMost h (PyData.depthAll ys) bs ∧ ReprAllK P w bs h (PyData.depthAll ys) us (PyData.shownAll ys)
  | _, _, .nil, _, _ => ⟨[], (fun _ m => nomatch m), by unfold PyData.shownAll; exact .nil⟩
  | _, _, .cons (y := y) (ys := ys) r hsm t, hs, hz => by
    have hs2 : y.showable = true ∧ PyData.showableAll ys = true := by simpa [PyData.showableAll] using hs
    have e1 : PyData.depthAll (y :: ys) = max y.depth (PyData.depthAll ys) := by simp only [PyData.depthAll]
    have e2 : PyData.shownAll (y :: ys) = y.shown :: PyData.shownAll ys := by simp only [PyData.shownAll]
    rw [e2] at hz
    obtain ⟨c1, d1, k1⟩ := ReprK.of_reads (prog := P) (w := w) r hs2.1 hsm (hz _ (.head _))
    obtain ⟨c2, d2, k2⟩ := t.texts (P := P) (w := w) hs2.2 fun x m => hz x (.tail _ m)
    rw [e1, e2]
    refine ⟨c1 ++ c2, (d1.mono (Nat.le_max_left _ _)).append (d2.mono (Nat.le_max_right _ _)), .cons ?_ ?_⟩
    · exact (k1.more fun b m => List.mem_append.mpr (.inl m)).level_le (Nat.le_max_left _ _)
    · exact k2.more_le (fun b m => List.mem_append.mpr (.inr m)) (Nat.le_max_right _ _)
theorem shows_lst {P : Program} {w : World} {a : Addr} {o : Obj} {n : Nat} {us : Array Value} {ys : List PyData} (e1 : h.get? a = some o) (e2 : o.cls = .type "list") (e3 : o.data = .seq us n) (t : RdL h us.toList ys) (hs : PyData.showableAll ys = true) (hz : (listText (PyData.shownAll ys)).length ≤ sizeLine) :
    ShowsBy P w h a (.list ys) "list" "list.__repr__" := by
  obtain ⟨bs, hb, hk⟩ := t.texts (P := P) (w := w) hs fun x m => Nat.le_trans (listText_mem_le m) hz
  obtain ⟨as, ra⟩ := t.all
  have hd : (PyData.list ys).depth = PyData.depthAll ys + 1 := by simp only [PyData.depth]
  have hna : a ∉ bs := not_mem_of_deeper (.list e1 e2 e3 ra) (by omega) hb
  refine ⟨PySem.F.slot_list_repr.toG, PySem.F.slot_list_str, PySem.F.slot_list_format, fun s hk0 => ⟨o, hk0 _ _ e1, e2⟩, fun A E s Q hg hu hk0 hQ => ?_⟩
  have es : (PyData.list ys).shown = listText (PyData.shownAll ys) := by simp only [PyData.shown]
  rw [es] at hQ
  rw [hd] at hu
  obtain ⟨l⟩ := us
  cases l with
  | nil =>
    cases t
    rw [show PyData.shownAll [] = [] by simp only [PyData.shownAll], listText_nil] at hQ
    exact call_list_repr_empty ⟨o, hk0 _ _ e1, e2⟩ (hk0 _ _ e1) e3 (hQ s.heap _ _ fun _ _ z => z)
  | cons x l => exact call_list_reprK e1 e2 e3 hna (by simpa using hk.length_eq) (fun i y z => hk.item i y (by simpa using z)) hg (fun b _ => Clear.nil b) hu hk0 hQ hz
theorem shows_tup {P : Program} {w : World} {a : Addr} {o : Obj} {n : Nat} {us : Array Value} {ys : List PyData} (e1 : h.get? a = some o) (e2 : o.cls = .type "tuple") (e3 : o.data = .seq us n) (t : RdL h us.toList ys) (hs : PyData.showableAll ys = true) (hz : (tupleText (PyData.shownAll ys)).length ≤ sizeLine) :
    ShowsBy P w h a (.tuple ys) "tuple" "tuple.__repr__" := by
  obtain ⟨bs, hb, hk⟩ := t.texts (P := P) (w := w) hs fun x m => Nat.le_trans (tupleText_mem_le m) hz
  obtain ⟨as, ra⟩ := t.all
  have hd : (PyData.tuple ys).depth = PyData.depthAll ys + 1 := by simp only [PyData.depth]
  have hna : a ∉ bs := not_mem_of_deeper (.tuple e1 e2 e3 ra) (by omega) hb
  refine ⟨PySem.F.slot_tuple_repr, PySem.F.slot_tuple_str, PySem.F.slot_tuple_format, fun s hk0 => ⟨o, hk0 _ _ e1, e2⟩, fun A E s Q hg hu hk0 hQ => ?_⟩
  have es : (PyData.tuple ys).shown = tupleText (PyData.shownAll ys) := by simp only [PyData.shown]
  rw [es] at hQ
  rw [hd] at hu
  exact call_tuple_reprK e1 e2 e3 hna hk hg (fun b _ => Clear.nil b) hu hk0 hQ hz
end
section
variable {G : Gw} {H H' : Hp} {L L' A B : HL} {X : Cx}
def vRepr (K : PySem.W.Frag) : List V → Hp → VK → Prop := fun xs H Q => ∃ v d, xs = [v] ∧ DxT K H v d ∧ d.showable = true ∧ d.depth ≤ 60 ∧ d.shown.length ≤ sizeLine ∧ Q (.str d.shown) H
theorem repr_plain {pins : List (Addr × Obj)} {s : Shared} {σ : _root_.L2.St} {u : Value} {d : PyData} {as : List Addr} {Q : VK} (I : Inv X pins σ H s) (r : Reads s.heap u d as) (hn : ∀ a, u ≠ .ref a) (h1 : d.showable = true) (h4 : d.shown.length ≤ sizeLine) (q : Q (.str d.shown) H) :
    wpAny (model X.prog X.w) X.A (call (.builtin "repr") [u]) (EP X pins σ Q) X.xe s := by
  cases r with
  | none => exact PySem.P.repr_of_none ⟨.str _, H, I.kept (t' := _) fun _ _ z => z, ⟨_, rfl⟩, q⟩
  | bool b => exact PySem.P.repr_of_bool ⟨.str _, H, I.kept (t' := _) fun _ _ z => z, ⟨_, rfl⟩, q⟩
  | int i t => exact PySem.P.repr_of_int (by simpa [PyData.showable] using h1) ⟨.str _, H, I.kept (t' := _) fun _ _ z => z, ⟨_, rfl⟩, q⟩
  | str x t => exact PySem.P.repr_of_str ⟨.str _, H, I.kept (t' := _) fun _ _ z => z, ⟨_, rfl⟩, q⟩ (by simpa only [PyData.shown] using h4)
  | list _ _ _ _ => exact absurd rfl (hn _)
  | tuple _ _ _ _ => exact absurd rfl (hn _)
  | dict _ _ _ _ _ => exact absurd rfl (hn _)
theorem call_vRepr (hgd : X.A.guards = some []) (hu : X.A.units + 65 < cLine) : CallR X (.builtin "repr") (vRepr X.K) := by
  intro pins s σ H xs us Q I r h
  obtain ⟨v, d, rfl, hd, h1, h3, h4, q⟩ := h
  obtain ⟨u, rfl, rx⟩ := vals1 r
  have fin : ∀ {a : Addr} {T idr : String}, u = .ref a → ShowsBy X.prog X.w s.heap a d T idr → wpAny (model X.prog X.w) X.A (call (.builtin "repr") [u]) (EP X pins σ Q) X.xe s := by
    rintro a T idr rfl S
    exact call_repr_slot (by omega) (S.typeIs s fun _ _ z => z) S.slotRepr (S.call X.A.in1 _ s _ hgd (by show X.A.units + 1 + d.depth < cLine; omega) (fun _ _ z => z) fun h' u tk k => ⟨_, _, rfl, .str d.shown, H, I.kept k, ⟨_, rfl⟩, q⟩)
  cases hd with
  | one hx =>
    obtain ⟨as, r1, hs⟩ := hx.reads I rx
    by_cases hr : ∃ a, u = .ref a
    · obtain ⟨a, rfl⟩ := hr
      obtain ⟨T, idr, S⟩ := showsBy_of_reads (prog := X.prog) (w := X.w) r1 h1 hs h4
      exact fin rfl S
    · exact repr_plain I r1 (fun a e => hr ⟨a, e⟩) h1 h4 q
  | lst hs ha =>
    cases rx
    obtain ⟨its, rv, ⟨o, n, ho, hc, _, hd⟩, _⟩ := I.list hs
    exact fin rfl (shows_lst ho hc hd (ha.reads I rv) (by simpa [PyData.showable] using h1) (by simpa only [PyData.shown] using h4))
  | tup hs ha =>
    cases rx
    obtain ⟨its, rv, ⟨o, ho, hc, n, hd⟩, _⟩ := I.tuple hs
    exact fin rfl (shows_tup ho hc hd (ha.reads I rv) (by simpa [PyData.showable] using h1) (by simpa only [PyData.shown] using h4))
inductive PyX (L : HL) : D → PyData → Prop
  | data {x : D} {y : PyData} : Py L x y → y.hasDict = false → PyX L x y
  | dct {p : Addr} {kvs : List (Str × D)} {ys : List (PyData × PyData)} : (p, Ch.dct kvs) ∈ L → PdL kvs ys → PyX L (.ref p) (.dict ys)
inductive PyXL (L : HL) : List D → List PyData → Prop
  | nil : PyXL L [] []
  | cons {x : D} {y : PyData} {xs : List D} {ys : List PyData} : PyX L x y → PyXL L xs ys → PyXL L (x :: xs) (y :: ys)
inductive PyT (L : HL) : D → PyData → Prop
  | one {x : D} {y : PyData} : PyX L x y → PyT L x y
  | lst {x : D} {ds : List D} {ys : List PyData} : IsL L x ds → PyXL L ds ys → PyT L x (.list ys)
  | tup {ds : List D} {ys : List PyData} : PyXL L ds ys → PyT L (.tup ds) (.tuple ys)
theorem plain_enc {O : Addr → Prop} {v : V} {d : D} {y : PyData} (e : Enc G O H v d) (h : plainD d = some y) : plainV v = some y := by
  cases e <;> first | exact h | cases h
theorem pd_pv {O : Addr → Prop} : ∀ {vk : List (Key × V)} {kvs : List (Str × D)} {ys : List (PyData × PyData)}, vk.map (·.1) = kvs.map (fun p => Sum.inr p.1) → EncL G O H (vk.map (·.2)) (kvs.map (·.2)) → PdL kvs ys → PvL vk ys
  | [], [], _, _, _, .nil => .nil
  | (k, v) :: r, (f, d) :: t, _, n, e, .cons h p => by
    injection n with n1 n2
    have n1 : k = Sum.inr f := n1
    subst n1
    cases e with
    | cons e0 et => exact .cons (plain_enc e0 h) (pd_pv n2 et p)
  | [], _ :: _, _, n, _, _ => by cases n
  | _ :: _, [], _, n, _, _ => by cases n
theorem PyX.dx (S : Sat G H L) {x : D} {y : PyData} {v : V} (h : PyX L x y) (e : Enc G (dom L) H v x) : Dx G.K H v y := by
  cases h with
  | data h hd => exact .data (Py.dp S h e) hd
  | dct m p =>
    cases e
    cases S.ok _ _ m with
    | dct e0 z n r => exact .dct e0 (pd_pv n r p)
theorem PyXL.dx (S : Sat G H L) : ∀ {xs : List D} {ys : List PyData} {vs : List V}, PyXL L xs ys → EncL G (dom L) H vs xs → DxL G.K H vs ys
  | _, _, _, .nil, .nil => .nil
  | _, _, _, .cons h t, .cons e r => .cons (h.dx S e) (t.dx S r)
inductive oRepr : List D → HL → Qd → Prop
  | mk {x : D} {y : PyData} {L : HL} {Q : Qd} : Py L x y → (∃ ys, y = .list ys ∨ y = .tuple ys) → y.showable = true → y.hasDict = false → y.depth ≤ 60 → y.shown.length ≤ sizeLine → Q (.str y.shown) L → oRepr [x] L Q
  | mkT {x : D} {y : PyData} {L : HL} {Q : Qd} : PyT L x y → y.showable = true → y.depth ≤ 60 → y.shown.length ≤ sizeLine → Q (.str y.shown) L → oRepr [x] L Q
theorem cd_repr : CallD G oRepr (vRepr G.K) := fun S r k h => by
  cases h with
  | @mk x y _ _ h1 h2 h3 h4 h5 h6 q =>
    obtain ⟨v, rfl, e⟩ := r.inv1
    exact ⟨v, y, rfl, .one (.data (h1.dp S e) h4), h3, h5, h6, k.here S (.str h6) q⟩
  | @mkT x y _ _ h1 h3 h5 h6 q =>
    obtain ⟨v, rfl, e⟩ := r.inv1
    refine ⟨v, y, rfl, ?_, h3, h5, h6, k.here S (.str h6) q⟩
    cases h1 with
    | one h => exact .one (h.dx S e)
    | lst hl h =>
      obtain ⟨a, vs, rfl, e1, z1, r1⟩ := hl.at_ S e
      exact .lst (SqL.of e1) (h.dx S r1)
    | tup h =>
      cases e with
      | tup h2 z2 r2 => exact .tup h2.sq (h.dx S r2)
end
end DM
set_option autoImplicit false
set_option Elab.async false
set_option linter.all false
set_option maxRecDepth 100000
namespace DM
open PySem PySem.Calls PyProof.Rows PySem.W
/-- all but two objects stay -/
def Still (a k : Addr) (h h' : Heap) : Prop := ∀ b o, b ≠ a → b ≠ k → h.get? b = some o → h'.get? b = some o
def There (h : Heap) (a : Addr) : Prop := ∃ o, h.get? a = some o
/-- the calls f(x), one behind the other. T t ks: the keys ks are told in the state t. a: the list that is sorted, k: where its keys are kept -/
structure Teller (P : Program) (w : World) (A : Around) (f : Value) (vs : List Value) (kz : List PyData) (a k : Addr) (T : Shared → List Value → Prop) : Prop where
  stay : ∀ {t : Shared} {ks : List Value} {h : Heap} {n : Nat}, T t ks → Still a k t.heap h → There h a → There h k → T { t with heap := h, toks := n } ks
  tell : ∀ {t : Shared} {ks : List Value} {v : Value}, T t ks → vs[ks.length]? = some v → wpAny (model P w) A (call f [v]) (fun u t2 => T t2 (ks ++ [u]) ∧ ∀ b o, b = a ∨ b = k → t.heap.get? b = some o → t2.heap.get? b = some o) (fun _ _ => False) t
  read : ∀ {t : Shared} {ks : List Value}, T t ks → ks.length = vs.length → EachIs (fun v d => ∃ as, Reads t.heap v d as) ks kz
/-- i keys are told -/
def Midst (a k : Addr) (e0 : Nat) (T : Shared → List Value → Prop) (i : Nat) (t : Shared) : Prop := ∃ (ks : Array Value) (e : Nat), T t ks.toList ∧ ks.size = i ∧ t.heap.get? k = some (seqObj "list" ks e) ∧ t.heap.get? a = some (seqObj "list" #[] e0)
section
variable {P : Program} {w : World} {A : Around} {E : Value → Shared → Prop} {f : Value} {vs : List Value} {kz : List PyData} {a k : Addr} {e0 : Nat} {T : Shared → List Value → Prop} {t : Shared}
/-- what a sort ends in: the items by their keys, and the last state of the telling -/
def Ends1 (a k : Addr) (vs : List Value) (kz : List PyData) (T : Shared → List Value → Prop) (Z : Shared → Prop) : Prop := ∀ {t : Shared} {ks out : List Value} {h : Heap} {n c : Nat}, T t ks → ks.length = vs.length → Still a k t.heap h → h.get? a = some (seqObj "list" out.toArray c) → KeyedOut false kz vs out → Z { t with heap := h, toks := n }
/-- one key more -/
theorem Teller.more (K : Teller P w A f vs kz a k T) (ne : k ≠ a) (short : vs.length ≤ sizeLine) {i : Nat} {x : Value} (m : Midst a k e0 T i t) (hx : vs[i]? = some x) {Q : Value → Shared → Prop} (q : ∀ u (t2 : Shared) (h : Heap), Midst a k e0 T (i + 1) { t2 with heap := h } → wpAny (model P w) A (Builtin.List.listUpdate (.ref k) (·.push u)) (fun _ t3 => t3 = { t2 with heap := h }) E t2 → Q u t2) :
    wpAny (model P w) A (call f [x]) Q (fun _ _ => False) t := by
  obtain ⟨ks, e, hT, rfl, hk, ha⟩ := m
  refine wpAny_mono (K.tell hT (by rw [Array.length_toList]; exact hx)) (fun u t2 ⟨hT2, kept⟩ => ?_) fun _ _ z => z
  have k2 := kept k _ (.inr rfl) hk
  have a2 := kept a _ (.inl rfl) ha
  have sb := Heap.SameBut.update t2.heap k (Obj.mapSeq (·.push u))
  have at' := get?_update_seq k2 (·.push u)
  have lt : ks.size < vs.length := (List.getElem?_eq_some_iff.mp hx).1
  have a3 := (sb.2 a ne.symm).trans a2
  refine q u t2 _ ⟨ks.push u, _, ?_, Array.size_push .., at', a3⟩ (listUpdate_at k2 rfl rfl (by omega) (by rw [Array.size_push]; omega))
  rw [Array.toList_push]
  exact K.stay (n := t2.toks) hT2 (fun b _ _ n e => (sb.2 b n).trans e) ⟨_, a3⟩ ⟨_, at'⟩
/-- all keys are told, one by one, and the items stand by them -/
theorem Teller.rest (K : Teller P w A f vs kz a k T) (ne : k ≠ a) (short : vs.length ≤ sizeLine) (alike' : AllAlike kz) (ord : Sortable kz) (room : ∀ d, d ∈ kz → A.units + d.depth < cLine) (m : Midst a k e0 T 0 t) {Z : Shared → Prop} (fin : Ends1 a k vs kz T Z) :
    wpAny (model P w) A (ksk_rest a f false vs.toArray e0 (.ref k)) (fun r t2 => r = .done (.ret .none) ∧ Z t2) E t := by
  unfold ksk_rest
  refine wpAny_bind (wpAny_rule ?_)
  rw [List.forIn_toArray]
  apply wpAny_bind
  apply ksk_fold (Midst a k e0 T) vs 0 t m
  · intro j x t1 hx m1
    rw [Nat.zero_add] at m1 ⊢
    exact wpAny_bind (wpAny_attempt (wpAny_mono (K.more (E := E) ne short m1 hx fun u t2 h m2 up => wpAny_bind (wpAny_mono up (fun _ t3 e => wpAny_pure ⟨rfl, e ▸ m2⟩) fun _ _ z => z)) (fun _ _ z => z) fun _ _ z => z.elim))
  · rintro t1 ⟨ks, e, hT, size, hk, ha⟩
    rw [Nat.zero_add] at size
    have len : ks.toList.length = vs.length := (Array.length_toList).trans size
    -- the store of the keys is new: it is hidden from what is known ahead
    let one : L2.Hp := fun b => if b = k then some (.tbl #[]) else none
    have gone : (L2.hidT t1.heap one).get? k = none := by
      rcases h : (L2.hidT t1.heap one).get? k with _ | o
      · rfl
      · exact nomatch (if_pos (c := k = k) rfl).symm.trans (L2.of_hidT h).2
    refine wpAny_bind (listItems_at hk rfl (keyH_end (κ := dataKind t1.heap kz) (h₁ := L2.hidT t1.heap one) (fun b o _ q => (L2.of_hidT q).1) gone hk ha ne (SortsAt.data (K.read hT len) alike' ord room) size short fun h2 n2 c still at' => ⟨rfl, ?_⟩))
    have out : KeyedOut false kz vs (sortVals (dataKind t1.heap kz) false ks.toList vs) := ⟨t1.heap, ks.toList, alike', rfl, K.read hT len⟩
    exact fin hT len (fun b o n1 n2 q => still b o n1 (L2.hidT_get q (if_neg n2))) at' out
/-- sorted(xs, key=f) -/
theorem sorted_told {l : Addr} {kw : List (Str × Value)} {Q : Value → Shared → Prop} {T : Addr → Addr → Shared → List Value → Prop} (src : t.heap.IsList l vs.toArray) (short : vs.length ≤ sizeLine) (alike' : AllAlike kz) (ord : Sortable kz) (room : ∀ d, d ∈ kz → A.units + 2 + d.depth < cLine)
    (ok1 : argsOk "sorted" ⟨[.ref l], kw⟩) (ok2 : ∀ x, argsOk "list.sort" ⟨[.ref x], kw⟩) (by' : ∀ x, Builtin.«list.sort» ⟨[.ref x], kw⟩ = ksk_tree x f false)
    (start : ∀ {a k : Addr} {h : Heap} {n : Nat}, t.heap.objs.size ≤ a → t.heap.objs.size ≤ k → (∀ b o, t.heap.get? b = some o → h.get? b = some o) → There h a → There h k → T a k { t with heap := h, toks := n } [])
    (K : ∀ a k, Teller P w A.in1.in1 f vs kz a k (T a k)) (fin : ∀ a k, Ends1 a k vs kz (T a k) fun t2 => Q (.ref a) t2) : wpAny (model P w) A (call (.builtin "sorted") [.ref l] kw) Q E t := by
  refine sorted_of_sort src short ok1 ok2 fun E2 => ?_
  rw [by' (t.heap.objs.size + 1)]
  -- the copy that is sorted, what holds its items, and the store of the keys
  have size2 : (copyHeap t.heap vs).objs.size = t.heap.objs.size + 2 := by
    unfold copyHeap
    rw [size_push', Heap.size_update, size_push']
  have at1 := copyHeap_at t.heap vs
  have at2 := get?_update_seq at1 fun _ => #[]
  have lt := Heap.lt_size at1
  have size3 : (((copyHeap t.heap vs).update (t.heap.objs.size + 1) (Obj.mapSeq fun _ => (#[] : Array Value))).push (seqObj "tuple" vs.toArray 0)).objs.size = t.heap.objs.size + 3 := by rw [size_push', Heap.size_update, size2]
  have at3 := Heap.get?_push_of_some (seqObj "list" #[] 0) (Heap.get?_push_of_some (seqObj "tuple" vs.toArray 0) at2)
  unfold ksk_tree
  refine wpAny_bind (listItems_at at1 rfl (wpAny_bind (listUpdate_at at1 rfl ?_ (by rw [List.size_toArray]; exact short) (Nat.zero_le _))))
  refine wpAny_bind (seqEpoch_at at2 rfl (wpAny_bind (wpAny_newTuple (wpAny_bind (wpAny_newList (wpAny_holding ?_) (Nat.zero_le _))) short)))
  generalize hk : (((copyHeap t.heap vs).update (t.heap.objs.size + 1) (Obj.mapSeq fun _ => (#[] : Array Value))).push (seqObj "tuple" vs.toArray 0)).objs.size = k at size3 ⊢
  subst size3
  have atk := Heap.get?_push_size (h := ((copyHeap t.heap vs).update (t.heap.objs.size + 1) (Obj.mapSeq fun _ => (#[] : Array Value))).push (seqObj "tuple" vs.toArray 0)) (o := seqObj "list" #[] 0) rfl
  rw [hk] at atk
  have first := start (a := t.heap.objs.size + 1) (k := t.heap.objs.size + 3) (n := t.toks) (Nat.le_succ _) (by omega) (fun b o e => sortingHeap_old (Nat.ne_of_lt (Nat.lt_succ_of_lt (Heap.lt_size e))) (copyHeap_old e)) ⟨_, at3⟩ ⟨_, atk⟩
  exact (K (t.heap.objs.size + 1) (t.heap.objs.size + 3)).rest (fun z => absurd (Nat.add_left_cancel z) (by decide)) short alike' ord room ⟨#[], 0, first, rfl, atk, at3⟩ (fin _ _)
end
end DM
set_option autoImplicit false
set_option Elab.async false
set_option linter.all false
set_option maxRecDepth 100000
namespace DM
open PySem PySem.Spec PyProof.Rows L2
/-- no error gets out -/
def NoX : XK := fun _ _ _ => False
theorem fi_get (K : PySem.W.Frag) : PySem.W.findIn K (.type "function") "__get__" = some (some (.builtin "function.__get__")) := by kernel_rfl
theorem fi_set (K : PySem.W.Frag) : PySem.W.findIn K (.type "function") "__set__" = some none := by kernel_rfl
theorem fi_del (K : PySem.W.Frag) : PySem.W.findIn K (.type "function") "__delete__" = some none := by kernel_rfl
theorem meth_gf {K : PySem.W.Frag} {g : Addr} (h : PySem.W.isFn K (.ref g) = true) : PySem.W.specialIn K (.ref g) "__get__" = some (some (.builtin "function.__get__")) := by
  unfold PySem.W.isFn at h
  have h := beq_iff_eq.mp h
  unfold PySem.W.specialIn
  rw [h]
  exact fi_get K
theorem meth_tk {K : PySem.W.Frag} {g : Addr} (h : PySem.W.isFn K (.ref g) = true) : PySem.W.takesIn K (.ref g) = some false := by
  unfold PySem.W.isFn at h
  have h := beq_iff_eq.mp h
  have e1 : PySem.W.specialIn K (.ref g) "__set__" = some none := by
    unfold PySem.W.specialIn
    rw [h]
    exact fi_set K
  have e2 : PySem.W.specialIn K (.ref g) "__delete__" = some none := by
    unfold PySem.W.specialIn
    rw [h]
    exact fi_del K
  unfold PySem.W.takesIn
  rw [e1, e2]
  rfl
/-- o.m as a value -/
def tBnd (C g : Addr) (m : Str) (to : TE) : TE := fun σ H Q => to σ H fun x H1 => ∃ a dx fs, x = .ref a ∧ H1 a = some (.ins C dx fs) ∧ fs.lookup m = none ∧ ∀ q, H1 q = none → Q (.ref q) (upd H1 q (.met g a))
section
variable {X : Cx} {C g : Addr} {m : Str} {o : Expr} {to : TE} {apos : Pos}
theorem op_bnd {pins : List (Addr × Obj)} {σ : _root_.L2.St} {H : Hp} {s : Shared} {A : Around} {E : Value → Shared → Prop} {Q : VK} {a dx : Addr} {fs : List (Str × V)} (I : Inv X pins σ H s) (e : H a = some (.ins C dx fs)) (c : Cls X.K C) (k : Meth X.K C m g) (cp : PySem.W.copiedNames.contains m = false)
    (l : fs.lookup m = none) (h : ∀ p, H p = none → Q (.ref p) (upd H p (.met g a))) : wpAny (model X.prog X.w) A (getAttr (.ref a) m true) (EP X pins σ Q) E s := by
  obtain ⟨mA, O, r, -, -, -⟩ := ins_get I.hok e
  have rm := r m
  rw [l] at rm
  obtain ⟨od, J, hl⟩ := O.look
  have hf := PySem.W.findObj_fn c.hd k.at_ (meth_gf k.fn) (meth_tk k.fn) cp (by rw [hl, RelO.none_of rm])
  have gp := fun x => PySem.W.plainGet_of (c.get x)
  refine PySem.W.get_bind I.kIn J (gp m).1 hf (gp m).2 (wpAny_call (PySem.W.fn_get (s := { s with toks := s.toks + 1 }) I.kIn (beq_iff_eq.mp k.fn) (PySem.W.handed_on rfl ⟨.ref s.heap.objs.size, _, ?_, rfl, h _ (I.hok.fresh (Nat.le_refl _))⟩)))
  have new : (s.heap.push (PySem.W.methodObj (.ref g) (.ref a))).get? s.heap.objs.size = some (PySem.W.methodObj (.ref g) (.ref a)) := Heap.get?_push_size _ rfl
  exact I.laid (o := .met g a) (t' := s.toks + 1) (fun _ _ z => Heap.get?_push_of_some _ z) (Nat.le_refl _) new
theorem pe_bnd (he : PE X o to) (c : Cls X.K C) (b : Meth X.K C m g) (cp : PySem.W.copiedNames.contains m = false) (hb : attributeBase o m X.env (eval o X.env) = eval o X.env) : PE X (.Attribute o m apos) (tBnd C g m to) := by
  refine ⟨fun pins s σ H Q I h => ?_⟩
  refine attr_of hb (thn (he.run pins s σ H _ I h) fun u s1 ⟨x, H1, I1, rx, a, dx, fs, ex, ea, l, q⟩ => ?_)
  subst ex
  obtain rfl : u = Value.ref a := rx
  exact op_bnd I1 ea c b cp l q
end
/-- sorted(xs, key=q), q a bound method: the keys are told one by one -/
def rSortB (K : PySem.W.Frag) (g : Addr) (sp : _root_.L2.Sp) : List V → List V → Hp → VK → Prop := fun vs zs H Q => ∃ (l q a : Addr) (β : Type) (bs : List β) (fv : β → V) (kf : β → PyData), vs = [V.ref l] ∧ zs = [V.ref q] ∧ H q = some (.met g a) ∧
  SqL K H l (bs.map fv) ∧ PySem.W.AllAlike (bs.map kf) ∧ PySem.W.Sortable (bs.map kf) ∧ (∀ b ∈ bs, (kf b).depth ≤ 60) ∧
  ∃ J : Hp → List V → Prop, J H [] ∧
    (∀ H3 ks b, J H3 ks → bs[ks.length]? = some b → H3 q = some (.met g a) ∧ sp [.ref a, fv b] H3 (fun v H4 => J H4 (ks ++ [v])) NoX) ∧
    (∀ H3 ks, J H3 ks → ks.length = bs.length → DpAll K H3 ks (bs.map kf) ∧ ∀ p, H3 p = none → Q (.ref p) (upd H3 p (.lst ((bs.mergeSort (PySem.W.dataLe false kf)).map fv))))
section
variable {X : Cx} {pins : List (Addr × Obj)} {σ : _root_.L2.St} {H : Hp} {s : Shared}
/-- two objects that nothing tracks are changed -/
theorem Inv.turned2 {h' : Heap} {t' : Nat} {a c : Addr} (I : Inv X pins σ H s) (k : ∀ b o, b ≠ a → b ≠ c → s.heap.get? b = some o → h'.get? b = some o) (fa : FpOk X pins H a) (fc : FpOk X pins H c) : Inv X pins σ H { s with heap := h', toks := t' } := by
  have nit : ∀ b u, H b = some u → b ≠ a ∧ b ≠ c := fun b u e => ⟨fun z => (by rw [z, fa.1] at e; cases e), fun z => (by rw [z, fc.1] at e; cases e)⟩
  have k' : ∀ b o, b ∉ [a, c] → s.heap.get? b = some o → h'.get? b = some o := fun b o hc e => k b o (fun z => hc (by simp [z])) (fun z => hc (by simp [z])) e
  refine I.step (g' := s.gens) (d' := s.drawn) (ch := [a, c]) (fun b hb => ?_) (fun b o _ _ hc e _ => k' b o hc e) (fun b o _ _ hc e _ => ⟨o.slots, k' b o hc e⟩) (fun _ _ _ _ n => n)
    (fun b o hc e => ⟨o, k' b o hc e⟩) (fun _ _ e => e) (fun _ _ _ e => e) (fun b ps e => ⟨#[], by rw [e]; simp⟩) (fun m hm => ?_) (fun b u e => ?_) I.bare
  · have e : b = a ∨ b = c := by simpa using hb
    rcases e with rfl | rfl
    · exact ⟨fa.2.2.2.1, fa.2.1, fa.2.2.2.2.1, fa.2.2.2.2.2⟩
    · exact ⟨fc.2.2.2.1, fc.2.1, fc.2.2.2.2.1, fc.2.2.2.2.2⟩
  · obtain ⟨o, es, ep, ho, r⟩ := hm
    exact ⟨o, es, ep, k _ o (Ne.symm fa.2.1) (Ne.symm fc.2.1) ho, r⟩
  · refine (I.hok b u e).stay (fun d v hd q => ?_) (fun _ q => q) fun _ _ q => q
    rcases hd with z | z
    · rw [z] at q ⊢
      exact k b v (nit b u e).1 (nit b u e).2 q
    · exact k d v (nit d _ z).1 (nit d _ z).2 q
theorem each_vals {β : Type} {fv : β → V} : ∀ {bs : List β} {us : List Value}, Vals (bs.map fv) us → PySem.W.EachIs (fun u b => RelV (fv b) u) us bs
  | [], _, .nil => .nil
  | _ :: _, _, .cons h r => .cons h (each_vals r)
theorem vals_each {β : Type} {fv : β → V} : ∀ {bs : List β} {us : List Value}, PySem.W.EachIs (fun u b => RelV (fv b) u) us bs → Vals (bs.map fv) us
  | _, _, .nil => .nil
  | _, _, .cons h r => .cons h (vals_each r)
theorem dp_each (I : Inv X pins σ H s) : ∀ {ks : List V} {us : List Value} {kz : List PyData}, DpAll X.K H ks kz → Vals ks us → PySem.W.EachIs (fun v k => ∃ as, Reads s.heap v k as) us kz
  | _, _, _, .nil, .nil => .nil
  | _, _, _, .cons h t, .cons r q => .cons (h.reads I _ _ _ r) (dp_each I t q)
theorem vals_snoc {vs : List V} {us : List Value} {v : V} {u : Value} (r : Vals vs us) (h : RelV v u) : Vals (vs ++ [v]) (us ++ [u]) := r.append (.cons h .nil)
theorem vals_at {β : Type} {fv : β → V} {bs : List β} {us : List Value} {i : Nat} {u : Value} (r : Vals (bs.map fv) us) (h : us[i]? = some u) : ∃ b, bs[i]? = some b ∧ RelV (fv b) u := by
  induction bs generalizing us i with
  | nil =>
    cases r
    simp at h
  | cons b bs ih =>
    cases r with
    | cons h1 r =>
      cases i with
      | zero =>
        simp at h
        subst h
        exact ⟨b, rfl, h1⟩
      | succ i =>
        obtain ⟨b', e, q⟩ := ih r (by simpa using h)
        exact ⟨b', by simpa using e, q⟩
theorem cr_sortB {CX : CXT} {g : Addr} {sp : _root_.L2.Sp} (F : ∀ (s : Shared) (H : Hp) (us : List Value) (vs : List V) (Q : VK) (E : XK), Env0 X.prog X.w X.K X.mg X.base X.A.in1.in1 X.stack s H → Vals vs us → sp vs H Q E → codeAny (model X.prog X.w) X.A.in1.in1 (.call (.ref g) ⟨us, []⟩) (CR CX X.stack X.prog X.w H s Q E) s) (hun : X.A.units + 65 < cLine) (hcx : ∀ outer H s e s', CX outer H s NoX e s' → False) :
    CallRK X (.builtin "sorted") [Str.ofString "key"] (rSortB X.K g sp) := by
  intro pins s σ H vs zs us ws Q I r rz h
  obtain ⟨l, q, a, β, bs, fv, kf, rfl, rfl, hq, hs, hal, hsk, hdp, J, j0, jt, je⟩ := h
  obtain rfl := Vals.ref1 r
  obtain rfl := Vals.ref1 rz
  obtain ⟨its, rv, hl, hz⟩ := I.list hs
  have hlen : its.length = bs.length := by
    have e := rv.length
    rw [List.length_map] at e
    exact e.symm
  refine sorted_told (kz := bs.map kf) (f := .ref q) (T := fun p kS s1 ks => ∃ H3 vks, Inv X pins σ H3 s1 ∧ FpOk X pins H3 p ∧ FpOk X pins H3 kS ∧ There s1.heap p ∧ There s1.heap kS ∧ Vals vks ks ∧ J H3 vks)
    hl.isList (by rw [← rv.length]; exact hz) hal hsk (fun d hd => ?dep) (PyProof.Rows.ksk_s1 _ _) (fun _ => PyProof.Rows.ksk_l1 _ _) (fun _ => PyProof.Rows.ksk_t1 _ _) (fun {p kS h tk} hp hk kp x1 x2 => ?init)
    (fun p kS => ⟨fun {s1 ks h' tk} hj kb x1 x2 => ?clos, fun {s1 ks v} hj hv => ?turn, fun {s1 ks} hj hn => ?fin⟩) fun p kS s1 ks out h' tk c hj hn kb hp ko => ?last
  case init =>
    exact ⟨H, [], I.kept (t' := tk) kp, I.fpOk hp (I.hok.fresh hp), I.fpOk hk (I.hok.fresh hk), x1, x2, .nil, j0⟩
  case dep =>
    obtain ⟨b, hb, rfl⟩ := List.mem_map.mp hd
    have := hdp b hb
    omega
  case clos =>
    obtain ⟨H3, vks, I3, f1, f2, _, _, vr, hj⟩ := hj
    exact ⟨H3, vks, Inv.turned2 (t' := tk) I3 kb f1 f2, f1, f2, x1, x2, vr, hj⟩
  case turn =>
    obtain ⟨H3, vks, I3, f1, f2, ⟨o1, x1⟩, ⟨o2, x2⟩, vr, hj⟩ := hj
    rw [← vr.length] at hv
    obtain ⟨b, hb, rb⟩ := vals_at rv hv
    obtain ⟨hq3, hsp⟩ := jt H3 vks b hj hb
    have nf : ∀ c, FpOk X pins H3 c → c ∉ frs X.stack := fun c f z => by
      rcases List.mem_cons.mp (I3.stkSub _ z) with e | e
      · exact f.2.1 e
      · exact f.2.2.1 e
    refine wpAny_call (PySem.W.method_call (I3.hok q _ hq3) (codeAny_mono (F s1 H3 [.ref a, v] [.ref a, fv b] _ NoX I3.env0.in1.in1 (.cons rfl (.cons rb .nil)) hsp) fun r s2 hc => ?_))
    cases r with
    | error e => exact (hcx _ _ _ _ _ hc).elim
    | ok fl =>
      cases fl with
      | next => exact False.elim hc
      | brk => exact False.elim hc
      | cont => exact False.elim hc
      | ret u =>
        have hc' := hc
        obtain ⟨v0, H4, os, bare, un, hok, r4, j4⟩ := hc
        have kpt : ∀ c o, FpOk X pins H3 c → s1.heap.get? c = some o → s2.heap.get? c = some o := fun c o f e => un.keep c o e f.1 (nf c f) (by simp)
        have nn : ∀ c o, FpOk X pins H3 c → s1.heap.get? c = some o → FpOk X pins H4 c := fun c o f e => ⟨un.free c o e f.1 (by simp), f.2⟩
        have I4 : Inv X pins σ H4 s2 := I3.call' (ch := []) os un hok bare (fun b z => absurd z (by simp))
        refine ⟨⟨H4, vks ++ [v0], I4, nn _ _ f1 x1, nn _ _ f2 x2, ⟨_, kpt _ _ f1 x1⟩, ⟨_, kpt _ _ f2 x2⟩, vals_snoc vr r4, j4⟩, ?_⟩
        rintro c o (rfl | rfl) e
        · exact kpt _ _ f1 e
        · exact kpt _ _ f2 e
  case fin =>
    obtain ⟨H3, vks, I3, f1, f2, _, _, vr, hj⟩ := hj
    exact dp_each I3 (je H3 vks hj (by rw [vr.length, hn]; exact hlen)).1 vr
  case last =>
    obtain ⟨H3, vks, I3, f1, f2, _, _, vr, hj⟩ := hj
    have hQ := (je H3 vks hj (by rw [vr.length, hn]; exact hlen)).2
    have I4 := Inv.turned2 (t' := tk) I3 kb f1 f2
    have eo := PySem.W.keyedOut_each kf ko (each_vals rv)
    have ro := vals_each eo
    refine ⟨.ref p, upd H3 p (.lst ((bs.mergeSort (PySem.W.dataLe false kf)).map fv)), I4.take (h' := h') (t' := tk) (fun b ob _ e => e) f1 ⟨?_, out, c, ro, hp⟩, rfl, hQ p f1.1⟩
    rw [List.length_map, List.length_mergeSort, ← hlen, ← rv.length]
    exact hz
def vSorted (K : PySem.W.Frag) : List V → Hp → VK → Prop := fun vs H Q => ∃ (l : Addr) (β : Type) (bs : List β) (fv : β → V) (kf : β → PyData), vs = [V.ref l] ∧ SqL K H l (bs.map fv) ∧ DpAll K H (bs.map fv) (bs.map kf) ∧ PySem.W.AllAlike (bs.map kf) ∧ PySem.W.Sortable (bs.map kf) ∧
  (∀ b ∈ bs, (kf b).depth ≤ 60) ∧ ∀ p, H p = none → Q (.ref p) (upd H p (.lst ((bs.mergeSort (PySem.W.dataLe false kf)).map fv)))
theorem cr_vSorted (hun : X.A.units + 65 < cLine) : CallR X (.builtin "sorted") (vSorted X.K) := by
  intro pins s σ H vs us Q I r h
  obtain ⟨l, β, bs, fv, kf, rfl, hs, hdp, hal, hsk, hd, q⟩ := h
  obtain rfl := Vals.ref1 r
  obtain ⟨its, rv, hl, hz⟩ := I.list hs
  have hlen : its.length = bs.length := by
    have e := rv.length
    rw [List.length_map] at e
    exact e.symm
  have er := dp_each I hdp rv
  refine PySem.W.sorted_data (enc := kf) (R := fun u b => RelV (fv b) u) hl.isList (each_vals rv) (PySem.W.each_of_map kf er) hal hsk (by rw [← hlen, ← rv.length]; exact hz) (fun b hb => by have := hd b hb; omega) fun out ho eo => ?_
  obtain ⟨ep, he'⟩ := PyProof.Rows.sortedAll_at s.heap its out.toArray
  refine ⟨.ref _, upd H (s.heap.objs.size + 1) (.lst ((bs.mergeSort (PySem.W.dataLe false kf)).map fv)), I.laid (t' := s.toks) (fun _ _ => PyProof.Rows.sortedAll_old) (Nat.le_succ _) ⟨?_, out, ep, vals_each eo, he'⟩, rfl, q _ (I.hok.fresh (Nat.le_succ _))⟩
  rw [List.length_map, List.length_mergeSort, ← hlen, ← rv.length]
  exact hz
end
end DM
set_option autoImplicit false
set_option Elab.async false
set_option linter.all false
set_option maxRecDepth 100000
namespace DM
open PySem L2 PyProof.Rows
section
variable {G : Gw} {H H' : Hp} {L : HL} {W : WX} {X : Cx}
theorem pers_all (p : Pers (dom []) H (dom []) H') : Pers (dom L) H (dom L) H' := ⟨fun a o e _ => p.1 a o e (dom_nil a), fun _ h => .inl h⟩
theorem encL_zip {O : Addr → Prop} : ∀ {us : List V} {ds : List D}, EncL G O H us ds → (us.zip ds).map Prod.fst = us ∧ (us.zip ds).map Prod.snd = ds ∧ ∀ p ∈ us.zip ds, Enc G O H p.1 p.2
  | _, _, .nil => ⟨rfl, rfl, fun _ h => nomatch h⟩
  | _, _, .cons h r => by
    obtain ⟨h1, h2, h3⟩ := encL_zip r
    refine ⟨by rw [List.zip_cons_cons, List.map_cons, h1], by rw [List.zip_cons_cons, List.map_cons, h2], fun p hp => ?_⟩
    rw [List.zip_cons_cons] at hp
    rcases List.mem_cons.mp hp with rfl | hp
    · exact h
    · exact h3 p hp
theorem encL_of_all {O : Addr → Prop} : ∀ {ps : List (V × D)}, (∀ p ∈ ps, Enc G O H p.1 p.2) → EncL G O H (ps.map Prod.fst) (ps.map Prod.snd)
  | [], _ => .nil
  | p :: ps, h => .cons (h p (.head _)) (encL_of_all fun q hq => h q (.tail _ hq))
theorem sort_snd {α β : Type} (ky : β → PyData) (ps : List (α × β)) : (ps.mergeSort (PySem.W.dataLe false fun p => ky p.2)).map Prod.snd = (ps.map Prod.snd).mergeSort (PySem.W.dataLe false ky) :=
  List.map_mergeSort (fun a _ b _ => rfl)
theorem pyL_map {L : HL} {kd : D → D} {ky : D → PyData} : ∀ {ds : List D}, (∀ d ∈ ds, Py L (kd d) (ky d)) → PyL L (ds.map kd) (ds.map ky)
  | [], _ => .nil
  | d :: ds, h => .cons (h d (.head _)) (pyL_map fun q hq => h q (.tail _ hq))
theorem dom_perm {L L' : HL} (p : L'.Perm L) : dom L' = dom L := funext fun a => propext ⟨fun ⟨c, h⟩ => ⟨c, p.mem_iff.mp h⟩, fun ⟨c, h⟩ => ⟨c, p.mem_iff.mpr h⟩⟩
theorem encL_zipB {β : Type} {dv : β → D} {O : Addr → Prop} : ∀ {us : List V} {bs : List β}, EncL G O H us (bs.map dv) → (us.zip bs).map Prod.fst = us ∧ (us.zip bs).map Prod.snd = bs ∧ ∀ p ∈ us.zip bs, Enc G O H p.1 (dv p.2)
  | _, [], .nil => ⟨rfl, rfl, fun _ h => nomatch h⟩
  | _, b :: bs, .cons h r => by
    obtain ⟨h1, h2, h3⟩ := encL_zipB r
    refine ⟨by rw [List.zip_cons_cons, List.map_cons, h1], by rw [List.zip_cons_cons, List.map_cons, h2], fun p hp => ?_⟩
    rw [List.zip_cons_cons] at hp
    rcases List.mem_cons.mp hp with rfl | hp
    · exact h
    · exact h3 p hp
theorem encL_of_allB {β : Type} {dv : β → D} {O : Addr → Prop} : ∀ {ps : List (V × β)}, (∀ p ∈ ps, Enc G O H p.1 (dv p.2)) → EncL G O H (ps.map Prod.fst) (ps.map fun p => dv p.2)
  | [], _ => .nil
  | p :: ps, h => .cons (h p (.head _)) (encL_of_allB fun q hq => h q (.tail _ hq))
theorem pyL_mapB {β : Type} {L : HL} {kd : β → D} {ky : β → PyData} : ∀ {bs : List β}, (∀ d ∈ bs, Py L (kd d) (ky d)) → PyL L (bs.map kd) (bs.map ky)
  | [], _ => .nil
  | d :: ds, h => .cons (h d (.head _)) (pyL_mapB fun q hq => h q (.tail _ hq))
/-- what the sorting asks: keys told of frozen items alone, or of any, the owned heap kept -/
def SortB0 (m : Str) (n : Nat) (sp : DSp) (dv : List D) (o x : D) (fs : List (Str × D)) (L2 : HL) (Q : Qd) : Prop := ∃ (ds : List D) (kd : D → D) (ky : D → PyData), fs.lookup m = none ∧ IsL L2 x ds ∧
  (∀ d ∈ ds, (o :: ([d] ++ dv)).length = n ∧ sp (o :: ([d] ++ dv)) [] (Cl fun r _ => r = kd d) (ClX fun _ _ => False)) ∧ (∀ d ∈ ds, Py [] (kd d) (ky d)) ∧ PySem.W.AllAlike (ds.map ky) ∧ PySem.W.Sortable (ds.map ky) ∧ (∀ d ∈ ds, (ky d).depth ≤ 60) ∧
  RetL (ds.mergeSort (PySem.W.dataLe false ky)) L2 Q
def SortB1 (m : Str) (n : Nat) (sp : DSp) (dv : List D) (o x : D) (fs : List (Str × D)) (L2 : HL) (Q : Qd) : Prop := ∃ (β : Type) (bs : List β) (fd : β → D) (kd : β → D) (ky : β → PyData), fs.lookup m = none ∧ IsL L2 x (bs.map fd) ∧
  (∀ b ∈ bs, (o :: ([fd b] ++ dv)).length = n ∧ sp (o :: ([fd b] ++ dv)) L2 (Cl fun r L4 => r = kd b ∧ L4.Perm L2) (ClX fun _ _ => False)) ∧ (∀ b ∈ bs, Py [] (kd b) (ky b)) ∧ PySem.W.AllAlike (bs.map ky) ∧ PySem.W.Sortable (bs.map ky) ∧ (∀ b ∈ bs, (ky b).depth ≤ 60) ∧
  RetL ((bs.mergeSort (PySem.W.dataLe false ky)).map fd) L2 Q
def dSortB (c m : Str) (n : Nat) (sp : DSp) (dv : List D) (ta to : DTE) : DTE := fun σ L Q E => ta σ L (fun x L1 => to σ L1 (fun o L2 => ∃ (fs : List (Str × D)), o = .ins c fs ∧ (SortB0 m n sp dv o x fs L2 Q ∨ SortB1 m n sp dv o x fs L2 Q)) E) E
theorem rSortB_of {n : Nat} {sp : DSp} {dv : List D} {dvs : List V} {a q g : Addr} {l : V} {Q : Qd} {Qv : VK} {o x : D} {ds : List D} {kd : D → D} {ky : D → PyData} (hdv : ∀ O H, EncL G O H dvs dv)
    (S : Sat G H L) (ex : Enc G (dom L) H l x) (eo : Enc G (dom L) H (.ref a) o) (hq : H q = some (.met g a)) (hx : IsL L x ds)
    (hs : ∀ d ∈ ds, (o :: ([d] ++ dv)).length = n ∧ sp (o :: ([d] ++ dv)) [] (Cl fun r _ => r = kd d) (ClX fun _ _ => False)) (hp : ∀ d ∈ ds, Py [] (kd d) (ky d)) (hal : PySem.W.AllAlike (ds.map ky)) (hsk : PySem.W.Sortable (ds.map ky)) (hdp : ∀ d ∈ ds, (ky d).depth ≤ 60)
    (hr : RetL (ds.mergeSort (PySem.W.dataLe false ky)) L Q) (k : Kd G L H Q Qv) : rSortB G.K g (fun vs H Q E => spOf G n sp (vs ++ dvs) H Q E) [l] [.ref q] H Qv := by
  obtain ⟨la, us, rfl, hl, hz, eu⟩ := hx.at_ S ex
  obtain ⟨z1, z2, z3⟩ := encL_zip eu
  have hmap : (us.zip ds).map (fun p : V × D => ky p.2) = ds.map ky := by
    rw [← z2, List.map_map, z2]
    rfl
  have hmem : ∀ p ∈ us.zip ds, p.2 ∈ ds := fun p hp' => by
    rw [← z2]
    exact List.mem_map.mpr ⟨p, hp', rfl⟩
  have hlen : (us.zip ds).length = ds.length := by
    have := congrArg List.length z2
    rwa [List.length_map] at this
  have nl : ∀ a, dom [] a → dom L a := fun a h => absurd h (dom_nil a)
  refine ⟨la, q, a, V × D, us.zip ds, Prod.fst, fun p => ky p.2, rfl, rfl, hq, .inl (.inl (by rw [z1]; exact hl)), by rw [hmap]; exact hal, by rw [hmap]; exact hsk, fun p hp' => hdp _ (hmem p hp'),
    fun H3 ks => Pers (dom []) H (dom []) H3 ∧ LamX.Tabs G.T H3 ∧ EncL G (dom []) H3 ks ((ds.take ks.length).map kd), ⟨.refl _ _, S.tb, .nil⟩, fun H3 ks b ⟨p3, t3, e3⟩ hb => ?_, fun H3 ks ⟨p3, t3, e3⟩ hn => ⟨?_, fun p hp' => ?_⟩⟩
  · have hb2 : ds[ks.length]? = some b.2 := by
      rw [← z2, List.getElem?_map, hb]
      rfl
    have hbm := List.mem_of_getElem? hb
    refine ⟨(p3.keep hq (dom_nil q)).1, ?_⟩
    obtain ⟨hl2, hsp⟩ := hs _ (hmem b hbm)
    refine ⟨o :: ([b.2] ++ dv), [], _, _, hl2, Sat.nil t3, .cons ((eo.less nl).pers p3) (.cons (((z3 b hbm).less nl).pers p3) (hdv _ _)), Cl.up, ClX.up, hsp, Kd.cl fun v H4 r L4 p4 S4 er hr4 => ?_, fun cls d H4 y L4 _ _ _ ⟨_, _, f⟩ => f.elim⟩
    have p5 : Pers (dom []) H3 (dom []) H4 := ⟨p4.1, fun _ h => .inl h⟩
    refine ⟨p3.trans p5, S4.tb, ?_⟩
    rw [List.length_append, List.length_singleton, List.take_add_one, hb2, List.map_append]
    refine (e3.pers p5).append (.cons ?_ .nil)
    rw [← hr4]
    exact er.less fun a h => absurd h (dom_nil a)
  · rw [hn, hlen, List.take_length] at e3
    rw [hmap]
    exact PyL.dp (Sat.nil t3) (pyL_map hp) e3
  · have S3 := S.all p3 t3
    have sorted_mem : ∀ p ∈ (us.zip ds).mergeSort (PySem.W.dataLe false fun p => ky p.2), Enc G (dom L) H3 p.1 p.2 := fun p hp' => (z3 p (List.mem_mergeSort.mp hp')).pers (pers_all p3)
    have eS := encL_of_all sorted_mem
    rw [sort_snd, z2] at eS
    refine retL_ok S3 ?_ eS (k.back (pers_all p3)) hr p hp'
    rw [List.length_map, List.length_mergeSort, hlen, ← eu.len]
    exact hz
theorem rSortB_of1 {n : Nat} {sp : DSp} {dv : List D} {dvs : List V} {a q g : Addr} {l : V} {Q : Qd} {Qv : VK} {o x : D} {β : Type} {bs : List β} {fd kd : β → D} {ky : β → PyData} (hdv : ∀ O H, EncL G O H dvs dv)
    (S : Sat G H L) (ex : Enc G (dom L) H l x) (eo : Enc G (dom L) H (.ref a) o) (hq : H q = some (.met g a)) (nq : ¬ dom L q) (hx : IsL L x (bs.map fd))
    (hs : ∀ b ∈ bs, (o :: ([fd b] ++ dv)).length = n ∧ sp (o :: ([fd b] ++ dv)) L (Cl fun r L4 => r = kd b ∧ L4.Perm L) (ClX fun _ _ => False)) (hp : ∀ b ∈ bs, Py [] (kd b) (ky b)) (hal : PySem.W.AllAlike (bs.map ky)) (hsk : PySem.W.Sortable (bs.map ky)) (hdp : ∀ b ∈ bs, (ky b).depth ≤ 60)
    (hr : RetL ((bs.mergeSort (PySem.W.dataLe false ky)).map fd) L Q) (k : Kd G L H Q Qv) : rSortB G.K g (fun vs H Q E => spOf G n sp (vs ++ dvs) H Q E) [l] [.ref q] H Qv := by
  obtain ⟨la, us, rfl, hl, hz, eu⟩ := hx.at_ S ex
  obtain ⟨z1, z2, z3⟩ := encL_zipB eu
  have hmap : (us.zip bs).map (fun p : V × β => ky p.2) = bs.map ky := by
    have := congrArg (List.map ky) z2
    rw [List.map_map] at this
    exact this
  have hmem : ∀ p ∈ us.zip bs, p.2 ∈ bs := fun p hp' => by
    rw [← z2]
    exact List.mem_map.mpr ⟨p, hp', rfl⟩
  have hlen : (us.zip bs).length = bs.length := by
    have := congrArg List.length z2
    rwa [List.length_map] at this
  refine ⟨la, q, a, V × β, us.zip bs, Prod.fst, fun p => ky p.2, rfl, rfl, hq, .inl (.inl (by rw [z1]; exact hl)), by rw [hmap]; exact hal, by rw [hmap]; exact hsk, fun p hp' => hdp _ (hmem p hp'),
    fun H3 ks => Pers (dom L) H (dom L) H3 ∧ Sat G H3 L ∧ EncL G (dom L) H3 ks ((bs.take ks.length).map kd), ⟨.refl _ _, S, .nil⟩, fun H3 ks b ⟨p3, S3, e3⟩ hb => ?_, fun H3 ks ⟨p3, S3, e3⟩ hn => ⟨?_, fun p hp' => ?_⟩⟩
  · have hb2 : bs[ks.length]? = some b.2 := by
      rw [← z2, List.getElem?_map, hb]
      rfl
    have hbm := List.mem_of_getElem? hb
    refine ⟨(p3.keep hq nq).1, ?_⟩
    obtain ⟨hl2, hsp⟩ := hs _ (hmem b hbm)
    refine ⟨o :: ([fd b.2] ++ dv), L, _, _, hl2, S3, .cons (eo.pers p3) (.cons ((z3 b hbm).pers p3) (hdv _ _)), Cl.up, ClX.up, hsp, Kd.cl fun v H4 r L4 p4 S4 er hr4 => ?_, fun cls d H4 y L4 _ _ _ ⟨_, _, f⟩ => f.elim⟩
    have hd4 := dom_perm hr4.2
    rw [hd4] at p4 er
    refine ⟨p3.trans p4, S4.perm hr4.2, ?_⟩
    rw [List.length_append, List.length_singleton, List.take_add_one, hb2, List.map_append]
    refine (e3.pers p4).append (.cons ?_ .nil)
    rw [← hr4.1]
    exact er
  · rw [hn, hlen, List.take_length] at e3
    rw [hmap]
    exact PyL.dp (Sat.nil S3.tb) (pyL_mapB hp) (e3.less fun a h => absurd h (dom_nil a))
  · have sorted_mem : ∀ p ∈ (us.zip bs).mergeSort (PySem.W.dataLe false fun p => ky p.2), Enc G (dom L) H3 p.1 (fd p.2) := fun p hp' => (z3 p (List.mem_mergeSort.mp hp')).pers p3
    have eS := encL_of_allB sorted_mem
    have e9 : ((us.zip bs).mergeSort (PySem.W.dataLe false fun p => ky p.2)).map (fun p => fd p.2) = (bs.mergeSort (PySem.W.dataLe false ky)).map fd := by
      have := congrArg (List.map fd) (sort_snd ky (us.zip bs))
      rw [List.map_map, z2] at this
      exact this
    rw [e9] at eS
    refine retL_ok S3 ?_ eS (k.back p3) hr p hp'
    rw [List.length_map, List.length_mergeSort, hlen]
    have := eu.len
    rw [List.length_map] at this
    rw [← this]
    exact hz
theorem ce_sortB {c m : Str} {C g : Addr} {n : Nat} {sp : DSp} {dv : List D} {dvs : List V} {ta to : DTE} {ee : Expr} (hC : G.ca c = some C) (hK : X.K = G.K) (hdv : ∀ O H, EncL G O H dvs dv)
    (h : PE X ee (tCKw (rSortB X.K g (fun vs H Q E => spOf G n sp (vs ++ dvs) H Q E)) (tCons (conc G W ta) tNil) (tCons (tBnd C g m (conc G W to)) tNil))) : PE X ee (conc G W (dSortB c m n sp dv ta to)) :=
  pe_imp h fun vs H Qv ⟨σ, L, Q, E, S, en, q, k, kx⟩ => by
    rw [hK]
    unfold dSortB at q
    refine conc_bind S en kx q fun l H1 x L1 p1 S1 ex en1 kx1 q1 => conc_bind S1 en1 kx1 q1 fun u H2 o L2 p2 S2 eo en2 kx2 ⟨fs, ho, hb⟩ => ?_
    subst ho
    have hn : fs.lookup m = none := hb.elim (fun ⟨_, _, _, h, _⟩ => h) fun ⟨_, _, _, _, _, h, _⟩ => h
    cases eo with
    | @ins a C2 dx c2 vfs fs2 g0 nO hh hk r =>
      rw [hC] at g0
      cases g0
      refine ⟨a, dx, vfs, rfl, hh, lookup_none hk hn, fun q0 hq0 => ?_⟩
      have p3 : Pers (dom L2) H2 (dom L2) (upd H2 q0 (.met g a)) := Pers.new hq0
      rcases hb with ⟨ds, kd, ky, _, hx, hs, hp, hal, hsk, hdp, hr⟩ | ⟨β, bs, fd, kd, ky, _, hx, hs, hp, hal, hsk, hdp, hr⟩
      · exact rSortB_of hdv (S2.new hq0) ((ex.pers p2).pers p3) ((Enc.ins hC nO hh hk r).pers p3) upd_same hx hs hp hal hsk hdp hr (((k.back p1).back p2).back p3)
      · exact rSortB_of1 hdv (S2.new hq0) ((ex.pers p2).pers p3) ((Enc.ins hC nO hh hk r).pers p3) upd_same (S2.none_of hq0) hx hs hp hal hsk hdp hr (((k.back p1).back p2).back p3)
inductive oSorted : List D → HL → Qd → Prop
  | mk {x : D} {ds : List D} {ky : D → PyData} {L : HL} {Q : Qd} : IsL L x ds → (∀ d ∈ ds, Py L d (ky d)) → PySem.W.AllAlike (ds.map ky) → PySem.W.Sortable (ds.map ky) → (∀ d ∈ ds, (ky d).depth ≤ 60) → RetL (ds.mergeSort (PySem.W.dataLe false ky)) L Q → oSorted [x] L Q
theorem cd_sorted : CallD G oSorted (vSorted G.K) := fun {H L xs us Q Qv} S en k h => by
  cases h with
  | @mk x ds ky L Q hx hp hal hsk hdp hr =>
    cases en with
    | @cons v _ _ _ ex t =>
      cases t
      obtain ⟨la, ys, rfl, hl, hz, eu⟩ := hx.at_ S ex
      obtain ⟨z1, z2, z3⟩ := encL_zip eu
      have hmap : (ys.zip ds).map (fun p : V × D => ky p.2) = ds.map ky := by
        rw [← z2, List.map_map, z2]
        rfl
      have hmem : ∀ p ∈ ys.zip ds, p.2 ∈ ds := fun p hp' => by
        rw [← z2]
        exact List.mem_map.mpr ⟨p, hp', rfl⟩
      have hlen : (ys.zip ds).length = ds.length := by
        have := congrArg List.length z2
        rwa [List.length_map] at this
      refine ⟨la, V × D, ys.zip ds, Prod.fst, fun p => ky p.2, rfl, .inl (.inl (by rw [z1]; exact hl)), ?_, by rw [hmap]; exact hal, by rw [hmap]; exact hsk, fun p hp' => hdp _ (hmem p hp'), fun p hp' => ?_⟩
      · rw [hmap, z1]
        exact PyL.dp S (by have := pyL_map (kd := fun d => d) hp; rwa [List.map_id'] at this) eu
      · have eS := encL_of_all (ps := (ys.zip ds).mergeSort (PySem.W.dataLe false fun p => ky p.2)) fun p hp' => z3 p (List.mem_mergeSort.mp hp')
        rw [sort_snd, z2] at eS
        refine retL_ok S ?_ eS k hr p hp'
        rw [List.length_map, List.length_mergeSort, hlen, ← eu.len]
        exact hz
end
end DM
set_option autoImplicit false
set_option Elab.async false
set_option linter.all false
set_option maxRecDepth 100000
set_option maxHeartbeats 1000000
namespace DM
open PySem PySem.Spec PyProof.Rows L2 RT
section
variable {prog : Program} {w : World} {A : Around} {E : Value → Shared → Prop} {s : Shared} {it l S : Addr} {items : Array Value}
theorem name_lri : splitId "list_reverseiterator.__length_hint__" = some ("list_reverseiterator", "__length_hint__") := by decide +kernel
/-- list() asks a reversed iterator for no room ahead -/
theorem room_rev {i : Int} {Q : Bool → Shared → Prop} (rev : s.heap.IsRevIter it l i) (q : Q false s) : wpAny (model prog w) A (Builtin.List.listLengthHint (.ref it)) Q E s := by
  have inst : ∀ {Z : Bool → Shared → Prop}, Z true s → wpAny (model prog w) A (isInstance (.ref it) (.type "list_reverseiterator")) Z E s := fun z => wpAny_isInstance (b := true) rev.typeIs (by rw [isSubtype_type]; kernel_rfl) z
  unfold Builtin.List.listLengthHint
  refine wpAny_bind (wpAny_specialOf rev.typeIs nolen_lri (wpAny_bind (m := specialOf _ _) (wpAny_specialOf rev.typeIs hint_lri ?_)))
  generalize hm : ("list_reverseiterator.__length_hint__" : String) = m
  have n := hm ▸ name_lri
  wp_delta
  simp only [n]
  cases hm
  exact wpAny_bind (inst (wpAny_pure q))
/-- a new list over such an iterator -/
theorem fill_rev {R : Result → Shared → Prop} (calm : A.handled = none) (rev : s.heap.IsRevIter it l ((items.size : Int) - 1)) (src : s.heap.IsList l items) (short : items.size ≤ sizeLine) (d1 : S ≠ it) (d2 : S ≠ l) (d3 : l ≠ it) (new : s.heap.get? S = some { cls := .type "list", data := .seq #[] })
    (done : ∀ h tk out c, (∀ b o, b ≠ S → b ≠ it → s.heap.get? b = some o → h.get? b = some o) → h.get? S = some { cls := .type "list", dict := none, data := .seq out c, slots := #[] } → ItemsOf (fun i v => items[items.size - 1 - i]? = some v) out items.size →
      R (.ok (.ret .none)) { s with heap := h, toks := tk }) :
    wpAny (model prog w) A.in1 (Builtin.«list.__init__» ⟨[.ref S, .ref it], []⟩)
      (fun fin s' => match fin with | .done f => R (.ok f) s' | .again c' => c'.quiet = true ∧ codeAny (model prog w) A c' R s') (fun e s' => R (.error e) s') s := by
  have W := (Walks.listRev (prog := prog) (w := w) (A := A.in1) calm it l d3 items).toS
  have away : S ∉ [it, l] := fun m => by
    rcases List.mem_cons.mp m with z | z
    · exact d1 z
    · exact d2 (List.mem_singleton.mp z)
  have empty := Heap.get?_update_self (Obj.mapSeq (fun _ => (#[] : Array Value))) new rfl
  have other : ∀ b o, b ≠ S → s.heap.get? b = some o → (s.heap.update S (Obj.mapSeq fun _ => (#[] : Array Value))).get? b = some o := fun b o n e => (Heap.get?_update_other _ _ n.symm).trans e
  have rev2 := rev.at fun o e => other it o d1.symm e
  have src2 := src.at fun o e => other l o d2.symm e
  -- what the list held is let go, the iterator is asked, and the loop takes over
  have held : ∀ {Z : Array Value → Shared → Prop} {X : Value → Shared → Prop}, Z #[] s → wpAny (model prog w) A.in1 (Builtin.List.listItems (.ref S)) Z X s := fun z => by
    unfold Builtin.List.listItems
    exact wpAny_bind (wpAny_seqItems new rfl (wpAny_pure z))
  refine wpAny_bind (held ?_)
  refine wpAny_bind (m := Builtin.List.listUpdate (.ref S) fun _ => #[]) (wpAny_updateSeq new rfl (wpAny_bind (m := letGo _) (wpAny_letGo ?_)))
  refine wpAny_bind (m := typeOf (.ref it)) (wpAny_typeOf (T := "list_reverseiterator") rev2.typeIs ?_)
  rw [if_neg (by simp [Builtin.List.listSameRef, d1])]
  refine wpAny_bind (m := pyIter (.ref it)) (wpAny_pyIter_revIter rev2 (wpAny_bind (m := holding _ _) (wpAny_holding (room_rev rev2 ?_))))
  have start : ((items.size : Int) - 1) - ((0 : Nat) : Int) = (items.size : Int) - 1 := by omega
  refine wpAny_pure ⟨plainId_quiet F.plain_extend_loop _, codeAny_extend_loopS W short S away .none items.size 0 _ #[] _ rfl (Nat.zero_le _) ⟨Nat.zero_le _, by rw [start]; exact rev2, src2⟩ empty (ItemsOf.nil _) fun s2 out c mv got its => ?_⟩
  rw [Moved.eq_with mv]
  refine done s2.heap s2.toks out c (fun b o n1 n2 e => mv.heap b o (fun m => ?_) (other b o n1 e)) got its
  rcases List.mem_cons.mp m with z | z
  · exact n1 z
  · exact n2 (List.mem_singleton.mp z)
/-- list(it) -/
theorem list_of_rev {Q : Value → Shared → Prop} (calm : A.handled = none) (rev : s.heap.IsRevIter it l ((items.size : Int) - 1)) (src : s.heap.IsList l items) (short : items.size ≤ sizeLine) (d3 : l ≠ it)
    (q : ∀ h tk out c, (∀ b o, b ≠ it → s.heap.get? b = some o → h.get? b = some o) → h.get? s.heap.objs.size = some { cls := .type "list", dict := none, data := .seq out c, slots := #[] } → ItemsOf (fun i v => items[items.size - 1 - i]? = some v) out items.size →
      Q (.ref s.heap.objs.size) { s with heap := h, toks := tk }) : wpAny (model prog w) A (call (.type "list") [.ref it]) Q E s := by
  have lt : ∀ {b : Addr} {o : Obj}, s.heap.get? b = some o → b ≠ s.heap.objs.size := fun e => Nat.ne_of_lt (Heap.lt_size e)
  have up : ∀ (b : Addr) (o : Obj), s.heap.get? b = some o → (s.heap.push { cls := .type "list", data := .seq #[] }).get? b = some o := fun _ _ => Heap.get?_push_of_some _
  have top : (s.heap.push { cls := .type "list", data := .seq #[] }).get? s.heap.objs.size = some { cls := .type "list", data := .seq #[] } := Heap.get?_push_size s.heap rfl
  apply callType_codes (Q₁ := fun u t => u = .ref s.heap.objs.size ∧ t = { s with heap := s.heap.push { cls := .type "list", data := .seq #[] } }) F.called_list (F.typeCall_list_1 _) F.entry_list_init
  · exact code_list_new _ (And.intro rfl rfl)
  · rintro _ _ ⟨rfl, rfl⟩
    obtain ⟨o1, h1, -⟩ := id rev
    obtain ⟨o2, h2, -⟩ := id src
    exact ⟨⟨_, top, rfl⟩, F.args_list_init_2 _ _, fill_rev (A := A.in1) calm (rev.at fun o => up it o) (src.push _) short (lt h1).symm (lt h2).symm d3 top fun h tk out c keep got its => ⟨rfl, q h tk out c (fun b o n e => keep b o (lt e) n (up b o e)) got its⟩⟩
end
section
variable {G : Gw} {X : Cx} {W : WX}
/-- list(reversed(e)), e a list: a new list -/
def tLrev (K : PySem.W.Frag) (te : TE) : TE := fun σ H Q => te σ H fun v H1 => ∃ (a : Addr) (xs : List V), v = .ref a ∧ SqL K H1 a xs ∧ ∀ q, H1 q = none → Q (.ref q) (upd H1 q (.lst xs.reverse))
theorem pe_lrev {e : Expr} {te : TE} {p p2 pos pos2 : Pos} (calm : X.calm = true) (g1 : Gl X "list") (m1 : X.mg "list" = none) (g2 : Gl X "reversed") (m2 : X.mg "reversed" = none) (he : PE X e te) (one : starEach [e] X.env = (false, eval e X.env) :: starEach [] X.env) :
    PE X (.Call (.Name "list" p) [.Call (.Name "reversed" p2) [e] [] pos2] [] pos) (tLrev X.K te) := by
  constructor
  intro pins s σ H Q I h
  have inner : wpAny (model X.prog X.w) X.A (eval (.Call (.Name "reversed" p2) [e] [] pos2) X.env) (fun it s2 => wpAny (model X.prog X.w) X.A (call (.type "list") [it]) (EP X pins σ Q) X.xe s2) X.xe s := by
    refine Call_ (ld_blt I g2 m2 PyProof.Rows.boot_reversed (PyProof.Rows.callWith_type1 (args_cons (thn (he.run pins s σ H _ I h) ?_) one) one rfl))
    rintro u t ⟨v, H1, J, r, a, xs, rfl, sq, q⟩
    cases r
    obtain ⟨its, vals, pl, short⟩ := J.list sq
    have src := pl.isList
    obtain ⟨o, at', -⟩ := id src
    have size : its.toArray.size ≤ sizeLine := by rw [List.size_toArray, ← vals.length]; exact short
    have le : t.heap.objs.size ≤ (t.heap.push (revObj a ((its.toArray.size : Int) - 1))).objs.size := by rw [Heap.size_push]; exact Nat.le_succ _
    refine args_nil (call_reversed_list src (list_of_rev (s := { t with heap := t.heap.push (revObj a ((its.toArray.size : Int) - 1)) }) (J.ok.hd calm) ⟨_, Heap.get?_push_size _ rfl, rfl, rfl⟩ (src.push _) size (Nat.ne_of_lt (Heap.lt_size at')) fun h' tk out c keep got items => ?_))
    have whole : ∀ b o, t.heap.get? b = some o → h'.get? b = some o := fun b o e => keep b o (Nat.ne_of_lt (Heap.lt_size e)) (Heap.get?_push_of_some _ e)
    exact ⟨.ref _, _, J.laid (t' := tk) whole le (show ObjOk X.prog X.w _ _ _ (.lst xs.reverse) from ⟨by rw [List.length_reverse]; exact short, out.toList, c, vals_rev vals items, by rw [Array.toArray_toList]; exact got⟩), rfl, q _ (J.hok.fresh le)⟩
  exact Call_ (ld_blt I g1 m1 boot_list (PyProof.Rows.callWith_type1 (args_cons (thn inner fun it s2 w => args_nil w) rfl) rfl rfl))
def dLrev (t : DTE) : DTE := fun σ L Q E => t σ L (fun x L1 => ∃ ds : List D, IsL L1 x ds ∧ RetL ds.reverse L1 Q) E
theorem ce_lrev {t : DTE} {e : Expr} (h : PE X e (tLrev G.K (conc G W t))) : PE X e (conc G W (dLrev t)) := pe_imp h fun vs H Qv ⟨σ, L, Q, E, S, en, q, k, kx⟩ =>
  conc_bind (R := fun x L1 => ∃ ds : List D, IsL L1 x ds ∧ RetL ds.reverse L1 Q) S en kx q fun v H1 x L1 p S1 e1 en1 kx1 ⟨ds, hs, q1⟩ => by
    obtain ⟨a, xs, rfl, h1, z, r⟩ := hs.at_ S1 e1
    exact ⟨a, xs, rfl, .inl (.inl h1), retL_ok S1 (by rw [List.length_reverse]; exact z) r.reverse (k.back p) q1⟩
end
end DM
set_option autoImplicit false
set_option Elab.async false
set_option linter.all false
set_option maxRecDepth 100000
namespace DM
open PySem PySem.Spec PyProof.Rows L2 LamX
/-- a lambda's object: its words, the cells that it captured, its code object -/
structure LF where
  qual : Str
  params : Arguments
  body : Expr
  scope : Scope
  cl : List (Str × Addr)
  c : Addr
def LfO (f : Addr) (F : LF) : HO := .ext fun h => ∃ pm ctv : Value, h.get? f = some (PySem.W.kla_obj "<lambda>" F.qual F.params F.body F.scope F.cl pm F.c ctv)
theorem lfO_ne {f : Addr} {F : LF} (ps : Array Value) : LfO f F ≠ .tbl ps := nofun
/-- its names: the parameter, captured ones, globals -/
def lamS1B (sc scope : Scope) (x : Str) : Bool := decide (scope.kind = .function) && !scope.isCoroutine && !scope.isGenerator && decide (scope.names.lookup x = some .local) && scope.names.all fun y => match y.2 with
  | .local => decide (y.1 = x)
  | .cell => false
  | .free => decide (sc.names.lookup y.1 = some .cell) || decide (sc.names.lookup y.1 = some .free)
  | _ => true
structure LamS1 (sc scope : Scope) (x : Str) : Prop where
  fn : scope.kind = .function ∧ scope.isCoroutine = false ∧ scope.isGenerator = false
  par : scope.names.lookup x = some .local
  loc : ∀ {y : Str}, (y, NameKind.local) ∈ scope.names → y = x
  own : ∀ {y : Str}, (y, NameKind.cell) ∉ scope.names
  cap : ∀ {y : Str}, (y, NameKind.free) ∈ scope.names → sc.names.lookup y = some .cell ∨ sc.names.lookup y = some .free
theorem lamS1_by {sc scope : Scope} {x : Str} (h : lamS1B sc scope x = true) : LamS1 sc scope x := by
  unfold lamS1B at h
  rw [Bool.and_eq_true, Bool.and_eq_true, Bool.and_eq_true, Bool.and_eq_true] at h
  obtain ⟨⟨⟨⟨h1, h2⟩, h3⟩, h4⟩, h5⟩ := h
  have at' := fun {y : Str} {k : NameKind} (m : (y, k) ∈ scope.names) => List.all_eq_true.mp h5 (y, k) m
  refine ⟨⟨of_decide_eq_true h1, by simpa using h2, by simpa using h3⟩, of_decide_eq_true h4, fun m => of_decide_eq_true (at' m), fun m => Bool.false_ne_true (at' m), fun m => ?_⟩
  have z : (decide (sc.names.lookup _ = some NameKind.cell) || decide (sc.names.lookup _ = some NameKind.free)) = true := at' m
  rw [Bool.or_eq_true] at z
  exact z.imp of_decide_eq_true of_decide_eq_true
section
variable {X : Cx} {pins : List (Addr × Obj)} {σ : _root_.L2.St} {H : Hp} {s : Shared}
theorem LamS1.has {scope : Scope} {x : Str} (L : LamS1 X.env.scope scope x) (ok : X.Ok) : ∀ y ∈ scope.names, y.2 = .free → ∃ c, X.env.cells.lookup y.1 = some c := fun ⟨y, k⟩ m e => by
  cases (show k = .free from e)
  exact ok.has y (L.cap m)
/-- a captured cell is its maker's -/
theorem LamS1.cell {scope : Scope} {x : Str} (L : LamS1 X.env.scope scope x) (ok : X.Ok) {y : Str} {c : Addr} (e : (cloFrom X.env.cells scope.names []).lookup y = some c) : X.env.cells.lookup y = some c := by
  rcases cloFrom_mem (PySem.mem_of_lookup e) with m | ⟨h1, h2⟩
  · cases m
  · obtain ⟨d, hd⟩ := L.has ok _ h1 rfl
    have hd : X.env.cells.lookup y = some d := hd
    rw [hd] at h2 ⊢
    rw [h2] <;> rfl
/-- the lambda is made, from the code object that its maker's table has for the place, or a new one -/
theorem lam_makeF {T : List (Addr × Str)} {c P : Addr} {params : Arguments} {body : Expr} {scope : Scope} {pos : Pos} {E Q : Value → Shared → Prop} (I : Inv X pins σ H s) (TB : TabB X.base X.mg c P) (here : X.env.code = .ref c) (mem : (P, X.env.qual ++ "<lambda>") ∈ T)
    (all : ∀ p ∈ T, p.1 = P → p.2 = X.env.qual ++ "<lambda>") (t : Tabs T H) (dfl : defaultsOf params X.env = ([], [])) (has : ∀ y ∈ scope.names, y.2 = .free → ∃ c, X.env.cells.lookup y.1 = some c)
    (h : ∀ (f k : Addr) (H1 : Hp) (s2 : Shared), Inv X pins σ H1 s2 → Grown H H1 → Tabs T H1 → H1 f = some (LfO f ⟨X.env.qual ++ "<lambda>", params, body, scope, cloFrom X.env.cells scope.names [], k⟩) → H1 k = some (CodeO k (X.env.qual ++ "<lambda>")) → Q (.ref f) s2) :
    wpAny (model X.prog X.w) X.A (eval (.Lambda params body scope pos) X.env) Q E s := by
  obtain ⟨ps, tP, tr, own⟩ := t _ mem
  have tab : s.heap.get? P = some { cls := .none, data := .fields ps } := I.hok P _ tP
  have code := TB.code.keeps I.bk
  have blt := TB.bm.keeps I.bk
  have gl := I.mod.glob.keeps I.bk
  have fin : ∀ {g : Heap} {n : Nat} {k : Addr} {pm cv : Value} {H1 : Hp}, Inv X pins σ H1 { s with heap := g, toks := n } → Grown H H1 → Tabs T H1 → H1 k = some (CodeO k (X.env.qual ++ "<lambda>")) →
      Q (.ref g.objs.size) { s with heap := g.push (PySem.W.kla_obj "<lambda>" (X.env.qual ++ "<lambda>") params body scope (cloFrom X.env.cells scope.names []) pm k cv), toks := n } := by
    intro g n k pm cv H1 J gr t1 hk
    have new : H1 g.objs.size = none := J.hok.fresh (a := g.objs.size) (Nat.le_refl g.objs.size)
    have le : ∀ {b : Addr} {o u : HO}, H1 b = some o → upd H1 g.objs.size u b = some o := fun e => (upd_ne (fun z => by rw [z, new] at e; cases e)).trans e
    have got : (g.push (PySem.W.kla_obj "<lambda>" (X.env.qual ++ "<lambda>") params body scope (cloFrom X.env.cells scope.names []) pm k cv)).get? g.objs.size = some _ := Heap.get?_push_size g rfl
    refine h _ k _ _ (J.laid (t' := n) (o := LfO g.objs.size ⟨X.env.qual ++ "<lambda>", params, body, scope, cloFrom X.env.cells scope.names [], k⟩) (fun b u => Heap.get?_push_of_some _) (Nat.le_refl g.objs.size) ⟨⟨pm, cv, got⟩, ⟨_, got⟩, fun h1 h2 ⟨p, c, z⟩ keep => ⟨p, c, keep _ z⟩⟩) (gr.then (Grown.one (.inl new))) (Tabs.ext t1 fun b o e => le e) upd_same (le hk)
  refine PySem.W.kla_eval dfl ?_
  match found : codeAmong pos ps.toList with
  | some v =>
    obtain ⟨k, rfl, hk⟩ := own pos v found
    exact PySem.W.kla_makeFunctionHit (mg := X.mg) (closure_ok has) I.ok.glob gl here code tab tr found blt fun ctv g n more le => fin (I.kept (t' := n) more) (fun a o e => .inl e) t hk
  | none =>
    refine PySem.W.kla_makeFunction (mg := X.mg) (closure_ok has) I.ok.glob gl here code tab tr found TB.gP blt fun k ctv g n more ge lt rec' tab' => ?_
    obtain ⟨k', oc, vs, tk, e, r1, r2, r3⟩ := rec'
    cases e
    have nk : H k = none := I.hok.fresh ge
    refine fin (inv_table (t' := n) I tP more tab' ge ⟨oc, vs, tk, r1, r2, r3⟩) ?_ (tabs_more t tP nk all tr own) upd_same
    exact (Grown.one (.inr ⟨⟨ps, tP⟩, _, rfl⟩)).then (Grown.one (.inl ((upd_ne (fun z => by rw [z, tP] at nk; cases nk)).trans nk)))
/-- its body's context, where it is entered with u -/
theorem lam_enter {A : Around} {E : XK} {scope : Scope} {f c' : Addr} {g : Heap} {n j : Nat} {x : Str} {v : V} {u : Value} (I : Inv X pins σ H s) (L : LamS1 X.env.scope scope x) (e0 : Env0 X.prog X.w X.K X.mg X.base A X.stack s H) (calm : A.handled = none)
    (names : g.Ns s.heap.objs.size fun y => ([(x, u)] : List (Str × Value)).reverse.lookup y) (kept : ∀ b o, s.heap.get? b = some o → g.get? b = some o) (nodup : X.N.Nodup) (at' : X.N[j]? = some x) (rv : RelV v u) :
    Inv (lamCx X A X.stack s H E scope f c') [] (σ.set j (some v)) H { s with heap := g, toks := n } := by
  have free : ∀ {y : Str}, scope.names.lookup y = some .free → ∃ c, (cloFrom X.env.cells scope.names []).lookup y = some c := fun e => mem_lookup (cloFrom_has (cells := X.env.cells) (acc := []) (PySem.mem_of_lookup e))
  have cell' : ∀ {y : Str} {c : Addr}, (cloFrom X.env.cells scope.names []).lookup y = some c → X.env.cells.lookup y = some c := fun e => L.cell I.ok e
  have still : ∀ {c : Addr} {w : Option Value}, s.heap.IsCell c w → g.IsCell c w := fun ⟨o, h, d⟩ => ⟨o, kept _ _ h, d⟩
  have seen : ∀ (i : Nat) (y : Str) (w : V), X.N[i]? = some y → (σ.set j (some v))[i]? = some (some w) → Vis scope y → ∃ u', RelV w u' ∧ Look (lamEnv X scope s.heap.objs.size f c') g (fun y => ([(x, u)] : List (Str × Value)).reverse.lookup y) y u' := by
    intro i y w hi hw vis
    rcases vis with k | k | k
    · obtain rfl := L.loc (PySem.mem_of_lookup k)
      have lt := (List.getElem?_eq_some_iff.mp at').1
      obtain rfl : j = i := (List.getElem?_inj lt nodup).mp (at'.trans hi.symm)
      rw [List.getElem?_set_self (by rw [I.len]; exact lt)] at hw
      cases hw
      exact ⟨u, rv, .inl ⟨k, by simp [List.lookup]⟩⟩
    · exact absurd (PySem.mem_of_lookup k) L.own
    · have ne : j ≠ i := fun z => by
        rw [z, hi] at at'
        cases at'
        rw [L.par] at k
        cases k
      rw [List.getElem?_set_ne ne] at hw
      have up := L.cap (PySem.mem_of_lookup k)
      obtain ⟨m, -, look⟩ := I.loc
      obtain ⟨u', r, q⟩ := look i y w hi hw (.inr up)
      obtain ⟨d, hd⟩ := free k
      refine ⟨u', r, .inr ⟨.inr k, d, hd, ?_⟩⟩
      rcases q with ⟨isL, -⟩ | ⟨-, d2, e2, z⟩
      · have isL : X.env.scope.names.lookup y = some .local := isL
        rw [isL] at up
        exact up.elim nofun nofun
      · cases (cell' hd).symm.trans e2
        exact still z
  exact {
    ok := {
      mod := e0.mod, kind := L.fn.1, glob := rfl, blt := rfl, above := Nat.le_refl _, inj := fun y z c e1 e2 => I.ok.inj y z c (cell' e1) (cell' e2)
      has := fun y h => (show scope.names.lookup y = some .cell ∨ scope.names.lookup y = some .free from h).elim (fun z => absurd (PySem.mem_of_lookup z) L.own) free
      cab := fun y c z _ => Bool.noConfusion (show false = true from z), hd := fun _ => calm, frames := Around.frames_deeper e0.frames, stk := .inr ⟨rfl, rfl⟩, exf := fun b m => (List.not_mem_nil (show b ∈ ([] : List Addr) from m)).elim
      bs := e0.bs, bsz := e0.bsz, noex := fun b o e m => List.not_mem_nil (show b ∈ ([] : List Addr) from m), exfs := fun b m => (List.not_mem_nil (show b ∈ ([] : List Addr) from m)).elim, funs := e0.funs, frf := e0.frf }
    os := rfl, bare := e0.bare, base := Un.kept kept, loc := ⟨_, names, seen⟩, cell := fun y c e => (I.cell y c (cell' e)).imp fun _ z => still z, free := e0.hok.fresh (Nat.le_refl _), freeC := fun y c e => I.freeC y c (cell' e)
    pin := fun q m => (List.not_mem_nil (show q ∈ ([] : List (Addr × Obj)) from m)).elim, hok := e0.hok.kept kept, len := by rw [List.length_set]; exact I.len }
/-- its call -/
theorem lam_call {A : Around} {params : Arguments} {body : Expr} {scope : Scope} {f c' : Addr} {x : Str} {j : Nat} {v : V} {u : Value} {tb : TE} {Q : VK} (I : Inv X pins σ H s) (L : LamS1 X.env.scope scope x) (e0 : Env0 X.prog X.w X.K X.mg X.base A X.stack s H) (calm : A.handled = none) (deep : A.depth < recursionLimit)
    (hf : H f = some (LfO f ⟨X.env.qual ++ "<lambda>", params, body, scope, cloFrom X.env.cells scope.names [], c'⟩)) (hc : H c' = some (CodeO c' (X.env.qual ++ "<lambda>")))
    (bind : ∀ (q : Str) (cl : List (Str × Addr)) (pm cv ctv : Value), bindArgs (PySem.W.kla_fn "<lambda>" q params body scope cl pm cv ctv) ⟨[u], []⟩ = pure [(x, u)]) (nodup : X.N.Nodup) (at' : X.N[j]? = some x) (rv : RelV v u)
    (walk : PE (lamCx X A X.stack s H NoX scope f c') body tb) (pre : tb (σ.set j (some v)) H Q) : codeAny (model X.prog X.w) A (.call (.ref f) ⟨[u], []⟩) (CR (_root_.L2.CX X.prog X.w) X.stack X.prog X.w H s Q NoX) s := by
  obtain ⟨⟨pm, ctv, obj⟩, -, -⟩ := I.hok f _ hf
  obtain ⟨⟨oc, fs, tk, code⟩, -, -⟩ := I.hok c' _ hc
  refine PySem.W.kla_callFunE deep obj rfl L.fn.2.1 L.fn.2.2 rfl ⟨c', oc, fs, tk, rfl, code⟩ ?_
  rw [bind]
  refine wpAny_pure (wpAny_newFunctionEnv (fun ⟨y, k⟩ m e => ?_) (fun y m => List.mem_singleton.mp m ▸ L.par) (fun g names sb => ⟨I.nolimit.fresh _ sb, ?_⟩) L.fn.1)
  · cases (show k = .cell from e)
    exact L.own m
  · have kept : ∀ b o, s.heap.get? b = some o → g.get? b = some o := fun b o e => sb.extBut b o (Nat.ne_of_lt (Heap.lt_size e)) (Heap.get?_push_of_some _ e)
    refine PySem.W.kla_codeExpr (wpAny_mono (walk.run [] _ _ H Q (lam_enter I L e0 calm names kept nodup at' rv) pre) ?_ fun _ _ z => z)
    rintro w s2 ⟨w', H2, J, r, q⟩
    exact ⟨w', H2, J.os, J.bare, J.base, J.hok, r, q⟩
end
end DM
set_option autoImplicit false
set_option Elab.async false
set_option linter.all false
set_option maxRecDepth 100000
namespace DM
open PySem PySem.Spec PyProof.Rows L2 LamX
section
variable {X : Cx}
theorem noX_CX {P : Program} {w : World} : ∀ (outer : List Env) (H : Hp) (s : Shared) (e : Value) (s' : Shared), _root_.L2.CX P w outer H s NoX e s' → False := fun outer H s e s' z => by
  obtain ⟨_, _, _, _, _, _, _, _, _, _, _, _, w⟩ := z
  exact w
/-- a built-in with keywords, told the slots, too -/
def CallRKS (X : Cx) (f : Value) (ks : List Str) (r : _root_.L2.St → List V → List V → Hp → VK → Prop) : Prop :=
  ∀ (pins : List (Addr × Obj)) (s : Shared) (σ : _root_.L2.St) (H : Hp) (xs zs : List V) (us ws : List Value) (Q : VK), Inv X pins σ H s → Vals xs us → Vals zs ws → r σ xs zs H Q → wpAny (model X.prog X.w) X.A (call f us (ks.zip ws)) (EP X pins σ Q) X.xe s
def tCKwS (r : _root_.L2.St → List V → List V → Hp → VK → Prop) (t tk : TA) : TE := fun σ H Q => t σ H fun vs H1 => tk σ H1 fun zs H2 => r σ vs zs H2 Q
theorem pe_callBKS {x : Str} {p pos : Pos} {e : Expr} {es : List Expr} {kws : List Keyword} {t tk : TA} {id : String} {ks : List Str} {r : _root_.L2.St → List V → List V → Hp → VK → Prop} (does : CallRKS X (.builtin id) ks r) (named : Gl X x) (own : X.mg x = none) (boot : bootBuiltins x = some (.builtin id)) (ha : PA X (e :: es) t) (hk : PK X kws tk)
    (n1 : x ≠ "__name__") (n2 : (x == ("__debug__" : Str)) = false) (one : backTo pos (starEach (e :: es) X.env) = (false, eval e X.env) :: backTo pos (starEach es X.env)) (rest : (backTo pos (starEach (e :: es) X.env)).any (·.1) = false)
    (k1 : (backToKw pos (keywordEach kws X.env)).all (·.1.isSome) = true := by rfl) (k2 : (backToKw pos (keywordEach kws X.env)).any (·.1.isNone) = false := by rfl) (k3 : (backToKw pos (keywordEach kws X.env)).filterMap (·.1) = ks := by rfl) : PE X (.Call (.Name x p) (e :: es) kws pos) (tCKwS r t tk) := by
  subst k3
  constructor
  intro pins s σ H Q I h
  apply wpAny_Call_Name_kw
  apply ld_blt I named own boot _ n1 n2
  apply PyProof.Rows.callWith_kw _ one rest k1 k2
  apply thn (ha.run pos pins s σ H _ I h)
  rintro us s1 ⟨vs, H1, I1, r1, q1⟩
  apply thn (hk.run pos pins s1 σ H1 _ I1 q1)
  rintro ws s2 ⟨zs, H2, I2, r2, q2⟩
  exact does pins s2 σ H2 vs zs us ws Q I2 r1 r2 q2
/-- the lambda as a value -/
def tLamV (T : List (Addr × Str)) (mk : Addr → LF) : TE := fun σ H Q => Tabs T H ∧ ∀ (f c' : Addr) (H1 : Hp), Grown H H1 → Tabs T H1 → H1 f = some (LfO f (mk c')) → H1 c' = some (CodeO c' (mk c').qual) → Q (.ref f) H1
theorem pe_lamV {T : List (Addr × Str)} {c P : Addr} {params : Arguments} {body : Expr} {scope : Scope} {pos : Pos} {x : Str} (TB : TabB X.base X.mg c P) (hcode : X.env.code = .ref c) (hm : (P, X.env.qual ++ "<lambda>") ∈ T) (hu : ∀ p ∈ T, p.1 = P → p.2 = X.env.qual ++ "<lambda>")
    (hdef : defaultsOf params X.env = ([], [])) (L : LamS1 X.env.scope scope x) : PE X (.Lambda params body scope pos) (tLamV T fun c' => ⟨X.env.qual ++ "<lambda>", params, body, scope, cloFrom X.env.cells scope.names [], c'⟩) := by
  refine ⟨fun pins s σ H Q I h => ?_⟩
  obtain ⟨hT, h⟩ := h
  exact lam_makeF I TB hcode hm hu hT hdef (L.has I.ok) fun f c' H1 s' I1 g T1 h1 h2 => ⟨.ref f, H1, I1, rfl, h f c' H1 g T1 h1 h2⟩
/-- sorted(xs, key=f), f a lambda of one's own -/
def rSortL (K : PySem.W.Frag) (mk : Addr → LF) (tl : _root_.L2.St → V → Hp → VK → Prop) : _root_.L2.St → List V → List V → Hp → VK → Prop := fun σ vs zs H Q => ∃ (l f c' : Addr) (β : Type) (bs : List β) (fv : β → V) (kf : β → PyData), vs = [V.ref l] ∧ zs = [V.ref f] ∧
  SqL K H l (bs.map fv) ∧ PySem.W.AllAlike (bs.map kf) ∧ PySem.W.Sortable (bs.map kf) ∧ (∀ b ∈ bs, (kf b).depth ≤ 60) ∧
  ∃ J : Hp → List V → Prop, J H [] ∧
    (∀ H3 ks b, J H3 ks → bs[ks.length]? = some b → H3 f = some (LfO f (mk c')) ∧ H3 c' = some (CodeO c' (mk c').qual) ∧ tl σ (fv b) H3 (fun v H4 => J H4 (ks ++ [v]))) ∧
    (∀ H3 ks, J H3 ks → ks.length = bs.length → DpAll K H3 ks (bs.map kf) ∧ ∀ p, H3 p = none → Q (.ref p) (upd H3 p (.lst ((bs.mergeSort (PySem.W.dataLe false kf)).map fv))))
theorem cr_sortL {mk : Addr → LF} {tl : _root_.L2.St → V → Hp → VK → Prop} (F : ∀ (pins : List (Addr × Obj)) (σ : _root_.L2.St) (s : Shared) (H : Hp) (f c' : Addr) (v : V) (u : Value) (Q : VK), Inv X pins σ H s → H f = some (LfO f (mk c')) → H c' = some (CodeO c' (mk c').qual) → RelV v u → tl σ v H Q →
      codeAny (model X.prog X.w) X.A.in1.in1 (.call (.ref f) ⟨[u], []⟩) (CR (_root_.L2.CX X.prog X.w) X.stack X.prog X.w H s Q NoX) s) (hun : X.A.units + 65 < cLine) :
    CallRKS X (.builtin "sorted") [Str.ofString "key"] (rSortL X.K mk tl) := by
  intro pins s σ H vs zs us ws Q I r rz h
  obtain ⟨l, f, c', β, bs, fv, kf, rfl, rfl, hs, hal, hsk, hdp, J, j0, jt, je⟩ := h
  obtain rfl := Vals.ref1 r
  obtain rfl := Vals.ref1 rz
  obtain ⟨its, rv, hl, hz⟩ := I.list hs
  have hlen : its.length = bs.length := by
    have e := rv.length
    rw [List.length_map] at e
    exact e.symm
  refine sorted_told (kz := bs.map kf) (f := .ref f) (T := fun p kS s1 ks => ∃ H3 vks, Inv X pins σ H3 s1 ∧ FpOk X pins H3 p ∧ FpOk X pins H3 kS ∧ There s1.heap p ∧ There s1.heap kS ∧ Vals vks ks ∧ J H3 vks)
    hl.isList (by rw [← rv.length]; exact hz) hal hsk (fun d hd => ?dep) (PyProof.Rows.ksk_s1 _ _) (fun _ => PyProof.Rows.ksk_l1 _ _) (fun _ => PyProof.Rows.ksk_t1 _ _) (fun {p kS h tk} hp hk kp x1 x2 => ?init)
    (fun p kS => ⟨fun {s1 ks h' tk} hj kb x1 x2 => ?clos, fun {s1 ks v} hj hv => ?turn, fun {s1 ks} hj hn => ?fin⟩) fun p kS s1 ks out h' tk c hj hn kb hp ko => ?last
  case init =>
    exact ⟨H, [], I.kept (t' := tk) kp, I.fpOk hp (I.hok.fresh hp), I.fpOk hk (I.hok.fresh hk), x1, x2, .nil, j0⟩
  case dep =>
    obtain ⟨b, hb, rfl⟩ := List.mem_map.mp hd
    have := hdp b hb
    omega
  case clos =>
    obtain ⟨H3, vks, I3, f1, f2, _, _, vr, hj⟩ := hj
    exact ⟨H3, vks, Inv.turned2 (t' := tk) I3 kb f1 f2, f1, f2, x1, x2, vr, hj⟩
  case turn =>
    obtain ⟨H3, vks, I3, f1, f2, ⟨o1, x1⟩, ⟨o2, x2⟩, vr, hj⟩ := hj
    rw [← vr.length] at hv
    obtain ⟨b, hb, rb⟩ := vals_at rv hv
    obtain ⟨hq3, hc3, hsp⟩ := jt H3 vks b hj hb
    have nf : ∀ c, FpOk X pins H3 c → c ∉ frs X.stack := fun c f z => by
      rcases List.mem_cons.mp (I3.stkSub _ z) with e | e
      · exact f.2.1 e
      · exact f.2.2.1 e
    refine wpAny_call (codeAny_mono (F pins σ s1 H3 f c' (fv b) v _ I3 hq3 hc3 rb hsp) fun r s2 hc => ?_)
    cases r with
    | error e => exact (noX_CX _ _ _ _ _ hc).elim
    | ok fl =>
      cases fl with
      | next => exact False.elim hc
      | brk => exact False.elim hc
      | cont => exact False.elim hc
      | ret u =>
        obtain ⟨v0, H4, os, bare, un, hok, r4, j4⟩ := hc
        have kpt : ∀ c o, FpOk X pins H3 c → s1.heap.get? c = some o → s2.heap.get? c = some o := fun c o f e => un.keep c o e f.1 (nf c f) (by simp)
        have nn : ∀ c o, FpOk X pins H3 c → s1.heap.get? c = some o → FpOk X pins H4 c := fun c o f e => ⟨un.free c o e f.1 (by simp), f.2⟩
        have I4 : Inv X pins σ H4 s2 := I3.call' (ch := []) os un hok bare (fun b z => absurd z (by simp))
        refine ⟨⟨H4, vks ++ [v0], I4, nn _ _ f1 x1, nn _ _ f2 x2, ⟨_, kpt _ _ f1 x1⟩, ⟨_, kpt _ _ f2 x2⟩, vals_snoc vr r4, j4⟩, ?_⟩
        rintro c o (rfl | rfl) e
        · exact kpt _ _ f1 e
        · exact kpt _ _ f2 e
  case fin =>
    obtain ⟨H3, vks, I3, f1, f2, _, _, vr, hj⟩ := hj
    exact dp_each I3 (je H3 vks hj (by rw [vr.length, hn]; exact hlen)).1 vr
  case last =>
    obtain ⟨H3, vks, I3, f1, f2, _, _, vr, hj⟩ := hj
    have hQ := (je H3 vks hj (by rw [vr.length, hn]; exact hlen)).2
    have I4 := Inv.turned2 (t' := tk) I3 kb f1 f2
    have eo := PySem.W.keyedOut_each kf ko (each_vals rv)
    have ro := vals_each eo
    refine ⟨.ref p, upd H3 p (.lst ((bs.mergeSort (PySem.W.dataLe false kf)).map fv)), I4.take (h' := h') (t' := tk) (fun b ob _ e => e) f1 ⟨?_, out, c, ro, hp⟩, rfl, hQ p f1.1⟩
    rw [List.length_map, List.length_mergeSort, ← hlen, ← rv.length]
    exact hz
end
section
variable {G : Gw} {H H' : Hp} {L : HL} {W : WX} {X : Cx}
def dSortL (tb : DTE) (j : Nat) (ta : DTE) : DTE := fun σ L Q E => ta σ L (fun x L1 => ∃ (β : Type) (bs : List β) (dv : β → D) (kd : β → D) (ky : β → PyData), IsL L1 x (bs.map dv) ∧
  (∀ b ∈ bs, ∀ L2, L2.Perm L1 → tb (σ.set j (some (dv b))) L2 (fun r L3 => r = kd b ∧ L3.Perm L1) (fun _ _ _ => False)) ∧ (∀ b ∈ bs, Py [] (kd b) (ky b)) ∧ PySem.W.AllAlike (bs.map ky) ∧ PySem.W.Sortable (bs.map ky) ∧ (∀ b ∈ bs, (ky b).depth ≤ 60) ∧
  RetL ((bs.mergeSort (PySem.W.dataLe false ky)).map dv) L1 Q) E
theorem ce_sortL {tb ta : DTE} {j : Nat} {mk : Addr → LF} {ee : Expr} (hK : X.K = G.K)
    (h : PE X ee (tCKwS (rSortL X.K mk (fun σ v H Q => conc G W0 tb (σ.set j (some v)) H Q)) (tCons (conc G W ta) tNil) (tCons (tLamV G.T mk) tNil))) : PE X ee (conc G W (dSortL tb j ta)) :=
  pe_imp h fun vs H Qv ⟨σ, L, Q, E, S, en, q, k, kx⟩ => by
    rw [hK]
    unfold dSortL at q
    refine conc_bind S en kx q fun l H1 x L1 p1 S1 ex en1 kx1 ⟨β, bs, dv, kd, ky, hx, hs, hp, hal, hsk, hdp, hr⟩ => ⟨S1.tb, fun f c' H2 g T2 hf hc => ?_⟩
    have S2 : Sat G H2 L1 := S1.grown g T2
    have p2 : Pers (dom L1) H1 (dom L1) H2 := g.pers _
    obtain ⟨la, us, rfl, hl, hz, eu⟩ := hx.at_ S2 (ex.pers p2)
    obtain ⟨z1, z2, z3⟩ := encL_zipB eu
    have hmap : (us.zip bs).map (fun p : V × β => ky p.2) = bs.map ky := by
      have := congrArg (List.map ky) z2
      rw [List.map_map] at this
      exact this
    have hmem : ∀ p ∈ us.zip bs, p.2 ∈ bs := fun p hp' => by
      rw [← z2]
      exact List.mem_map.mpr ⟨p, hp', rfl⟩
    have hlen : (us.zip bs).length = bs.length := by
      have := congrArg List.length z2
      rwa [List.length_map] at this
    have nf : ¬ dom L1 f := sat_noext S2 hf
    have nc : ¬ dom L1 c' := sat_noext S2 hc
    refine ⟨la, f, c', V × β, us.zip bs, Prod.fst, fun p => ky p.2, rfl, rfl, .inl (.inl (by rw [z1]; exact hl)), by rw [hmap]; exact hal, by rw [hmap]; exact hsk, fun p hp' => hdp _ (hmem p hp'),
      fun H3 ks => Pers (dom L1) H2 (dom L1) H3 ∧ Sat G H3 L1 ∧ EncL G (dom L1) H3 ks ((bs.take ks.length).map kd), ⟨.refl _ _, S2, .nil⟩, fun H3 ks b ⟨p3, S3, e3⟩ hb => ?_, fun H3 ks ⟨p3, S3, e3⟩ hn => ⟨?_, fun p hp' => ?_⟩⟩
    · have hb2 : bs[ks.length]? = some b.2 := by
        rw [← z2, List.getElem?_map, hb]
        rfl
      have hbm := List.mem_of_getElem? hb
      refine ⟨(p3.keep hf nf (lfO_ne)).1, (p3.keep hc nc codeO_ne).1, ?_⟩
      have en3 : EncS G (dom L1) H3 (vs.set j (some b.1)) (σ.set j (some (dv b.2))) := ((en1.pers p2).pers p3).set ((z3 b hbm).pers p3) j
      refine ⟨σ.set j (some (dv b.2)), L1, _, _, S3, en3, hs b.2 (hmem b hbm) L1 (.refl _), fun v H4 r L4 p4 S4 er ⟨hr4, pm4⟩ => ?_, fun cls d vs' H' σ' y L' _ _ _ _ z => z.elim⟩
      have hd4 := dom_perm pm4
      rw [hd4] at p4 er
      refine ⟨p3.trans p4, S4.perm pm4, ?_⟩
      rw [List.length_append, List.length_singleton, List.take_add_one, hb2, List.map_append]
      refine (e3.pers p4).append (.cons ?_ .nil)
      rw [← hr4]
      exact er
    · rw [hn, hlen, List.take_length] at e3
      rw [hmap]
      exact PyL.dp (Sat.nil S3.tb) (pyL_mapB hp) (e3.less fun a h => absurd h (dom_nil a))
    · have sorted_mem : ∀ p ∈ (us.zip bs).mergeSort (PySem.W.dataLe false fun p => ky p.2), Enc G (dom L1) H3 p.1 (dv p.2) := fun p hp' => (z3 p (List.mem_mergeSort.mp hp')).pers p3
      have eS := encL_of_allB sorted_mem
      have e9 : ((us.zip bs).mergeSort (PySem.W.dataLe false fun p => ky p.2)).map (fun p => dv p.2) = (bs.mergeSort (PySem.W.dataLe false ky)).map dv := by
        have := congrArg (List.map dv) (sort_snd ky (us.zip bs))
        rw [List.map_map, z2] at this
        exact this
      rw [e9] at eS
      refine retL_ok S3 ?_ eS (((k.back p1).back p2).back p3) hr p hp'
      rw [List.length_map, List.length_mergeSort, hlen]
      have := eu.len
      rw [List.length_map] at this
      rw [← this]
      exact hz
end
end DM
set_option Elab.async false
set_option linter.all false
set_option maxRecDepth 100000
set_option maxHeartbeats 1000000
namespace DM
open PySem L2 PyProof.Rows
section
end
def spNc (K : PySem.W.Frag) : _root_.L2.Sp := fun vs H Q _ => ∃ (a C : Addr) (v : V), vs = [.ref a, v] ∧ OexC K C ∧ PySem.W.findIn K (.ref C) "at" = some none ∧ H a = some (exo a C none) ∧ ∀ dx, H dx = none → dx ≠ a → Q .non (upd (upd H dx (exd dx [("at", v)])) a (exo a C (some dx)))
section
variable {X : Cx} {e : Expr} {es : List Expr} {ta : TA} {p pos : Pos}
/-- an own error made by its own __init__, its context known to be None -/
theorem pmk_oexN {CX : CXT} {x : Str} {C fI : Addr} {k : Nat} {fd : FuncData} {ps : List Str} {sp : _root_.L2.Sp} {ds : List Value} {dvs : List V} (T : OexC X.K C) (iC : PySem.W.findIn X.K (.ref C) "__init__" = some (some (.ref fI))) (tI : PySem.W.typeIn X.K (.ref fI) = some (.type "function"))
    (F1 : FnOk X.prog X.w X.K X.mg X.base CX k fI fd ps sp) (hr : Room (k + 1) X.A) (hb : Binds X.K fd ps ds) (hd : Vals dvs ds) (hx : Passes CX X (fun _ _ _ => False)) (hg : Gl X x) (hm : X.mg x = some (.ref C)) (ha : PA X (e :: es) ta)
    (hdb : (x == ("__debug__" : Str)) = false) (he : starEach (e :: es) X.env = (false, eval e X.env) :: starEach es X.env) (hpl : (backTo pos (starEach es X.env)).any (·.1) = false) :
    L2N.PMk X (.Call (.Name x p) (e :: es) [] pos) (tMkO C sp dvs ta) := by
  obtain ⟨_, _, _, _, bm, _, _, _, _, _, _, _, _, _, _, cls, refs⟩ := T.cls
  intro pins s σ H Q I h
  refine wpAny_Call_Name_kw (ld_glob I hg hm (PySem.W.callWith_K (h₀ := X.base) I.ok.mod.kin T.kC (thn (ha.run pos pins s σ H _ I h) ?_) he hpl) hdb)
  rintro us ⟨hp, g, dr, tk, os⟩ ⟨vs, H1, J, r, few, told⟩
  -- behind the heap stand the tuple of the arguments, and the error
  have le : hp.objs.size ≤ hp.objs.size + 1 := Nat.le_succ _
  have grown : ∀ b o, hp.get? b = some o → ((hp.push (PySem.W.kdv_tup us)).push (PySem.HandSPX.excO C hp.objs.size)).get? b = some o := fun _ _ e => Heap.get?_push_of_some _ (Heap.get?_push_of_some _ e)
  have made : Inv X pins σ (upd H1 (hp.objs.size + 1) (exo (hp.objs.size + 1) C none)) ⟨(hp.push (PySem.W.kdv_tup us)).push (PySem.HandSPX.excO C hp.objs.size), g, dr, tk, os⟩ := J.laid (t' := tk) grown le (exo_ok (t1 := hp.objs.size) (by heap_get))
  have pre := told (hp.objs.size + 1) (J.hok.fresh le)
  have all : Vals (V.ref (hp.objs.size + 1) :: (vs ++ dvs)) (Value.ref (hp.objs.size + 1) :: (us ++ ds)) := .cons rfl (r.append hd)
  have short : us.length ≤ sizeLine := Nat.le_trans (r.length ▸ few) (by decide)
  have run := F1.run _ X.stack _ _ ⟨Value.ref (hp.objs.size + 1) :: us, []⟩ _ _ _ (fun _ _ _ => False) (hr.make C us []) (made.env0.make C us []) (hb _ (Value.ref (hp.objs.size + 1) :: us) made.kIn (all.length.symm.trans (F1.len _ _ _ _ pre))) all pre
  refine ⟨J.kIn, wpAny_call (PySem.HandSPX.call_own F.excBase_ValueError (PySem.HandSPX.refsVE_contains · bm refs) (J.kIn _ _ cls) (PySem.W.looks_findIn J.kIn iC) (fun self => PySem.W.bind_fn J.kIn self tI) short (codeAny_mono run ?_))⟩
  rintro (err | fl) ⟨h3, g3, d3, t3, os3⟩ q
  · exact hx pins σ _ _ err _ made q
  · cases fl with
    | ret u =>
      obtain ⟨v, H3, same, bare, un, ok3, rv, isN, d, fs, at1, at2, own, w⟩ := q
      subst isN
      obtain ⟨t0, L, JL, kept, got, obj, gone⟩ := mk_end0 (d2 := d3) (t2 := t3) J le grown un ok3 same bare at1 at2 own
      exact ⟨rv, _, _, _, ⟨L, g3, d3, t3, os3⟩, _, .ref C, some d, rfl, JL, kept, got, obj, ⟨rfl, rfl, fun vs e => by cases e; rfl⟩, rfl, rfl, gone, rfl, bare, raises_own T.exC T.tyC, w⟩
    | next => exact q.elim
    | brk => exact q.elim
    | cont => exact q.elim
end
def dRaiseX (x : Str) (t : DTE) : DTS := fun D σ L => t σ L (fun d L1 => D.ex σ (x, some d) L1) D.ex
theorem cs_raiseX {G : Gw} {X : Cx} {W : WX} {st : Stmt} {x : Str} {c : Addr} {t : DTE} (hC : G.ca x = some c) (T : OexC X.K c) (hno : PySem.W.findIn X.K (.ref c) "at" = some none)
    (h : PS X st (fun _ σ H => tMkO c (spNc X.K) [] (tCons (conc G W t) tNil) σ H fun cls d H' => W cls d σ H')) : PS X st (concS G W (dRaiseX x t)) :=
  ps_imp h fun Dv vs H ⟨σ, L, D, S, en, q, k, kr, kx⟩ => conc_bind (R := fun d L1 => D.ex σ (x, some d) L1) S en kx q fun v H1 d L1 p S1 e1 en1 kx1 q1 => by
    refine ⟨by show 1 ≤ 1000; decide, fun a ha => ⟨a, c, v, rfl, T, hno, upd_same, fun dx h1 h2 => ⟨rfl, dx, [("at", v)], upd_same, ?_, ?_, ?_⟩⟩⟩
    · rw [upd_ne h2, upd_same]
    · rwa [upd_ne h2] at h1
    · have h1' : H1 dx = none := by rwa [upd_ne h2] at h1
      have e : upd (del (upd (upd (upd H1 a (exo a c none)) dx (exd dx [("at", v)])) a (exo a c (some dx))) a) dx (.xd [("at", v)]) = upd H1 dx (.xd [("at", v)]) := by
        funext b
        by_cases hb : b = dx
        · rw [hb, upd_same, upd_same]
        · rw [upd_ne hb, upd_ne hb]
          by_cases hba : b = a
          · rw [hba, del_same, ha]
          · rw [del_ne hba, upd_ne hba, upd_ne hb, upd_ne hba]
      rw [e]
      have nd : ¬ dom L1 dx := fun hd => by
        obtain ⟨u, hu⟩ := S1.dom_some hd
        rw [h1'] at hu
        cases hu
      exact kx1 _ _ _ _ _ _ L1 (Pers.new h1') (S1.new h1') (en1.pers (Pers.new h1')) ⟨c, hC, rfl, .inr ⟨d, v, dx, rfl, rfl, nd, upd_same, e1.pers (Pers.new h1')⟩⟩ q1
end DM
set_option Elab.async false
set_option linter.all false
set_option maxRecDepth 100000
set_option maxHeartbeats 2000000
namespace DM
open PySem PySem.Spec L2 PyProof.Rows
/-- the error's dict, if it has one, stands in the heap -/
def HasD (dd : Option Addr) (H : Hp) : Prop := ∀ dx, dd = some dx → ∃ fs, H dx = some (.xd fs)
theorem HasD.nil {H : Hp} : HasD none H := fun _ e => nomatch e
end DM
set_option Elab.async false
set_option linter.all false
set_option maxRecDepth 100000
set_option maxHeartbeats 2000000
namespace DM
open PySem PySem.Spec L2 PyProof.Rows
/-- what is left as it was -/
def Ext (T : List (Addr × Str)) (H H' : Hp) : Prop := (∀ a o, H a = some o → H' a = some o ∨ ((∃ ps, o = .tbl ps) ∧ ∃ ps', H' a = some (.tbl ps'))) ∧ (LamX.Tabs T H → LamX.Tabs T H')
section
variable {T : List (Addr × Str)}
theorem Ext.refl (H : Hp) : Ext T H H := ⟨fun _ _ h => .inl h, id⟩
theorem Ext.keep {H H' : Hp} (e : Ext T H H') {a : Addr} {o : HO} (h : H a = some o) (nt : ∀ ps, o ≠ .tbl ps := by intro _ z; cases z) : H' a = some o := (e.1 a o h).elim id fun q => q.1.elim fun ps z => (nt ps z).elim
theorem Ext.there {H H' : Hp} (e : Ext T H H') {a : Addr} (h : H' a = none) : H a = none := by
  cases q : H a with
  | none => rfl
  | some o =>
    rcases e.1 a o q with z | ⟨_, _, z⟩
    · rw [h] at z; cases z
    · rw [h] at z; cases z
theorem Ext.trans {H H1 H2 : Hp} (h1 : Ext T H H1) (h2 : Ext T H1 H2) : Ext T H H2 := by
  refine ⟨fun a o h => ?_, fun t => h2.2 (h1.2 t)⟩
  rcases h1.1 a o h with z | ⟨e, ps, z⟩
  · exact h2.1 a o z
  · rcases h2.1 a _ z with y | ⟨_, ps2, y⟩
    · exact .inr ⟨e, ps, y⟩
    · exact .inr ⟨e, ps2, y⟩
theorem Ext.new {H : Hp} {p : Addr} {o : HO} (h : H p = none) : Ext T H (upd H p o) := ⟨fun a o' e => .inl (by
  rw [upd_ne (fun q => by rw [q, h] at e; cases e)]
  exact e), fun t => tabs_new t h⟩
theorem Ext.pers {H H' : Hp} {O : Addr → Prop} (e : Ext T H H') : Pers O H O H' := ⟨fun a o h _ => e.1 a o h, fun _ h => .inl h⟩
end
theorem Ext.sat {G : Gw} {H H' : Hp} {L : HL} (e : Ext G.T H H') (S : Sat G H L) : Sat G H' L :=
  ⟨S.nd, fun a c m => (S.ok a c m).pers e.pers (by
    obtain ⟨u, h, nt, _⟩ := (S.ok a c m).plain
    rw [h, e.keep h nt]), e.2 S.tb⟩
/-- what the def gives: a literal, or a new list of ints -/
def HotR (T : List (Addr × Str)) (d : D) (H : Hp) (v : V) (H' : Hp) : Prop := Ext T H H' ∧ ((∀ G O, Enc G O H' v d) ∨ ∃ (r : Addr) (ns : List Int), v = .ref r ∧ H r = none ∧ H' r = some (.lst (ns.map V.int)) ∧ ns.length ≤ 1000 ∧ d = .lst (ns.map D.int))
theorem HotR.ext {T : List (Addr × Str)} {d : D} {H H1 H' : Hp} {v : V} (e : Ext T H H1) (h : HotR T d H1 v H') : HotR T d H v H' := by
  obtain ⟨h1, h2⟩ := h
  refine ⟨e.trans h1, h2.imp_right fun ⟨r, ns, g1, g2, g3⟩ => ⟨r, ns, g1, e.there g2, g3⟩⟩
theorem encInts {G : Gw} {O : Addr → Prop} {H : Hp} : ∀ ns : List Int, EncL G O H (ns.map V.int) (ns.map D.int)
  | [] => .nil
  | _ :: ns => .cons (.int _) (encInts ns)
theorem HotR.enc {G : Gw} {T : List (Addr × Str)} {d : D} {H H' : Hp} {v : V} {L : HL} (h : HotR T d H v H') (S : Sat G H L) : Enc G (dom L) H' v d := by
  rcases h.2 with h2 | ⟨r, ns, rfl, h3, h4, h5, rfl⟩
  · exact h2 _ _
  · refine .lst (fun hd => ?_) h4 (by rw [List.length_map]; exact Nat.le_trans h5 (by decide)) (encInts ns)
    obtain ⟨o, e⟩ := S.dom_some hd
    rw [h3] at e
    cases e
theorem HasD.ext {T : List (Addr × Str)} {dd : Option Addr} {H H' : Hp} (h : HasD dd H) (e : Ext T H H') : HasD dd H' := fun dx hx => by
  obtain ⟨fs, hd⟩ := h dx hx
  exact ⟨fs, e.keep hd⟩
/-- the caught error p, of the class c0, as the suite of a clause has it -/
structure Caught (A : Around) (outer : List Env) (H : Hp) (s : Shared) (c0 : Addr) (dd : Option Addr) (p : Addr × Obj) : Prop where
  hot : L2H.Hot1 A p
  pin : L2H.PinOk outer H s p
  cls : Zc (.ref c0) dd p.2
  dct : HasD dd H
/-- what a def promises that is handed the caught error: it gives d -/
structure FnE (P : Program) (w : World) (K : PySem.W.Frag) (T : List (Addr × Str)) (mg : Str → Option Value) (base : Heap) (k : Nat) (f : Addr) (fd : FuncData) (x : Str) (c0 : Addr) (d : D) (ex : Bool) : Prop where
  does : ∀ {A : Around} {outer : List Env} {s : Shared} {H : Hp} {args : Args} {Q : VK} {p : Addr × Obj} {dd : Option Addr}, ex = true ∨ dd = none → Unseen A → L2H.RoomH k A → Caught A outer H s c0 dd p → LamX.Tabs T H → BindsTo s fd args [(x, .ref p.1)] → Env0 P w K mg base A outer s H →
    (∀ v H', HotR T d H v H' → Q v H') → codeAny (model P w) A (.call (.ref f) args) (CR (L2N.CX P w) outer P w H s Q NoX) s
section
end
section
variable {X : Cx} {k : Nat} {f a c0 : Addr} {fd : FuncData} {x y : Str} {d : D} {ob : Obj} {pn : List (Addr × Obj)} {e : Expr} {q pos : Pos} {j : Nat}
/-- f(e) in the suite of a clause -/
theorem pe_callE {T : List (Addr × Str)} {ex : Bool} {dd : Option Addr} (F : FnE X.prog X.w X.K T X.mg X.base k f fd x c0 d ex) (hex : ex = true ∨ dd = none) (hr : Room k X.A) (unseen : Unseen X.A) (hz : L2N.Zn (.ref c0) dd ob) (hf : ∃ fs, ob.data = .fields fs) (named : Gl X y) (is : X.mg y = some (.ref f)) (kept : PySem.W.keepIn X.K (.ref f) = true)
    (hb : Binds X.K fd [x] []) (he : PE (X.suite a ((a, ob) :: pn)) e (tVar j)) (nd : (y == ("__debug__" : Str)) = false) (one : starEach [e] X.env = (false, eval e X.env) :: starEach [] X.env) (rest : (backTo pos (starEach ([] : List Expr) X.env)).any (·.1) = false) :
    PE (X.suite a ((a, ob) :: pn)) (.Call (.Name y q) [e] [] pos) (fun σ H Q => σ[j]? = some (some (.ref a)) ∧ HasD dd H ∧ LamX.Tabs T H ∧ ∀ v H', HotR T d H v H' → Q v H') := by
  obtain ⟨fs, fields⟩ := hf
  constructor
  rintro pins s σ H Q I ⟨at', dct, tabs, post⟩
  have arg := (show PA (X.suite a ((a, ob) :: pn)) [e] (tCons (tVar j) tNil) from pa_cons he pa_nil one).run pos pins s σ H (fun vs H1 => vs = [V.ref a] ∧ H1 = H) I ⟨.ref a, at', rfl, rfl⟩
  refine wpAny_Call_Name_kw (ld_glob I named is (PySem.W.callWith_K (h₀ := X.base) I.ok.mod.kin kept (thn arg ?_) one rest) nd)
  rintro us t ⟨_, H2, J, r, rfl, hH⟩
  rw [hH] at J
  obtain rfl := Vals.ref1 r
  have p := J.pin (a, ob) (List.mem_append_left _ List.mem_cons_self)
  have pin : L2H.PinOk X.stack H t (a, ob) := ⟨p.1, p.2.1, fun m => (List.mem_cons.mp (J.stkSub a m)).elim p.2.2.1 p.2.2.2.1, p.2.2.2.2⟩
  refine ⟨J.kIn, wpAny_call (codeAny_mono (F.does (A := (X.suite a ((a, ob) :: pn)).A) (outer := X.stack) (args := ⟨[.ref a], []⟩) hex unseen ⟨hr.dp, hr.un⟩ ⟨⟨rfl, fs, fields, hz.2.2 fs fields⟩, pin, hz.zc, dct⟩ tabs (hb t [.ref a] J.kIn rfl) J.env0 post) ?_)⟩
  rintro (err | fl) t2 h
  · exact h.elim fun _ z => by obtain ⟨_, _, _, _, _, _, _, _, _, _, _, z⟩ := z; exact z.elim
  · cases fl <;> first | exact J.after h | exact h.elim
end
end DM
set_option Elab.async false
set_option linter.all false
set_option maxRecDepth 100000
namespace DM
open PySem L2 PyProof.Rows
mutual
def chG (N : List Str) (nm : Nat → Str × Str) (sc : Scope) : Tg → Expr → Bool
  | .name i, .Name x _ => decide (N[i]? = some x) && (decide (sc.names.lookup x = some .local) || decide (sc.names.lookup x = some .cell))
  | .sub o i, .Subscript x y _ => !isSlice y && chE N nm sc o x && chE N nm sc i y
  | .tup gs, .Tuple xs _ _ => chGs N nm sc gs xs
  | .fld o f, .Attribute x g _ => decide (f = g) && chE N nm sc o x
  | _, _ => false
def chGs (N : List Str) (nm : Nat → Str × Str) (sc : Scope) : Tgs → List Expr → Bool
  | .nil, [] => true
  | .cons g gs, x :: xs => !isStar x && chG N nm sc g x && chGs N nm sc gs xs
  | _, _ => false
end
def isTL : Expr → Bool
  | .Tuple .. | .List .. => true
  | _ => false
/-- two plain names stored at once -/
def parOk (N : List Str) (sc : Scope) (i j : Nat) (x y : Str) (px py : Pos) (a b : Expr) : Bool := decide (N[i]? = some x) && decide (N[j]? = some y) && decide (i ≠ j) && decide (sc.names.lookup x = some .local) && decide (sc.names.lookup y = some .local) && (px.line == py.line) &&
  !([x, y].eraseDups.length != 2) && !isStar a && !isStar b && !(foldedForSure 8 a && foldedForSure 8 b) && !(constantsAlone 8 a && constantsAlone 8 b)
def chIb (N : List Str) (sc : Scope) (j : Nat) : Ib → Expr → Bool
  | .isa c, .Call (.Name f _) [.Name e _, .Name x _] [] _ => decide (f = ("isinstance" : Str)) && glOk sc f && decide (c = x) && glOk sc x && locOk N sc j e
  | .not_ b, .UnaryOp .Not x _ => chIb N sc j b x
  | .and_ a b, .BoolOp .And [x, y] _ => chIb N sc j a x && chIb N sc j b y
  | _, _ => false
def chIv (N : List Str) (sc : Scope) (j : Nat) : Iv → Expr → Bool
  | .int b, .Call (.Name f _) [x] [] _ => decide (f = ("int" : Str)) && glOk sc f && !isStar x && chIb N sc j b x
  | .lit n, .Constant (.int k) _ _ => decide (n = k)
  | .add a b, .BinOp x .Add y _ => chIv N sc j a x && chIv N sc j b y
  | .mul a b, .BinOp x .Mult y _ => chIv N sc j a x && chIv N sc j b y
  | _, _ => false
def chLs : List Lt → List Expr → Bool
  | [], [] => true
  | l :: ls, .Constant c _ _ :: xs => okL l c && chLs ls xs
  | _, _ => false
def chH (N : List Str) (sc : Scope) (oj : Option Nat) : Hx → Expr → Bool
  | .lit l, .Constant c _ _ => okL l c
  | .nil, .List [] _ => true
  | .fat, .Attribute (.Name e _) f _ => decide (f = ("at" : Str)) && (match oj with | some j => locOk N sc j e | none => false)
  | .cmpi i n, .Compare (.Name e _) [.Eq] [.Constant (.int k) _ _] _ => decide (n = k) && locOk N sc i e
  | .hot f, .Call (.Name g _) [.Name e _] [] _ => decide (f = g) && glOk sc g && (match oj with | some j => locOk N sc j e | none => false)
  | .hotd k f, .Dict [some (.Constant (.str k1) _ _)] [.Call (.Name g _) [.Name e _] [] _] _ => (decide (k = k1) && decide (k.length ≤ 1000)) && (decide (f = g) && glOk sc g && (match oj with | some j => locOk N sc j e | none => false))
  | .hota f, .List [.Call (.Name g _) [.Name e _] [] _, .Attribute (.Name e2 _) f2 _] _ => (decide (f2 = ("at" : Str)) && (match oj with | some j => locOk N sc j e2 | none => false)) && (decide (f = g) && glOk sc g && (match oj with | some j => locOk N sc j e | none => false))
  | .pick ls v, .Subscript (.List xs _) y _ => !isSlice y && chLs ls xs && (match oj with | some j => chIv N sc j v y | none => false)
  | _, _ => false
def chSu0 (N : List Str) (sc : Scope) (oj : Option Nat) (i : Nat) (h : Hx) : Stmt → Bool
  | .Assign [.Name x _] v _ => decide (N[i]? = some x) && (decide (sc.names.lookup x = some .local) || decide (sc.names.lookup x = some .cell)) && chH N sc oj h v
  | _ => false
def Hx.isDead : Hx → Bool
  | .dead => true
  | _ => false
/-- a clause that no error reaches may say anything -/
def chSu (N : List Str) (sc : Scope) (oj : Option Nat) (i : Nat) (h : Hx) (st : Stmt) : Bool := h.isDead || chSu0 N sc oj i h st
def chPairs (N : List Str) (sc : Scope) (j : Nat) : List (Str × Str) → List Expr → Bool
  | [], [] => true
  | (t, c) :: ls, .Tuple [.Constant (.str t1) _ _, x] _ _ :: xs => decide (t = t1) && decide (t.length ≤ 1000) && !isStar x && chIb N sc j (.isa c) x && chPairs N sc j ls xs
  | _, _ => false
def locs (sc : Scope) (x : Str) : Bool := decide (sc.names.lookup x = some .local) || decide (sc.names.lookup x = some .cell)
/-- x = [(text, isinstance(e, C)), ..]; y = "".join([a for a, b in x if b]) -/
def chJ (N : List Str) (sc : Scope) (oj : Option Nat) (i2 : Nat) : Hx → Stmt → Stmt → Bool
  | .joins i ja jb ls, .Assign [.Name y1 _] (.List es _) _, .Assign [.Name y2 _] (.Call (.Attribute (.Constant (.str s0) _ _) g ap) [.ListComp (.Name a _) [⟨.Tuple [.Name a2 _, .Name b _] _ _, .Name y _, [.Name b2 _], 0⟩] scope _] [] p) _ =>
    (match oj with | some j => chPairs N sc j ls es | none => false) && (decide (N[i]? = some y1) && locs sc y1) && (decide (N[i2]? = some y2) && locs sc y2) && (decide (s0 = ("" : Str)) && decide (g = ("join" : Str)) && (ap.endLine == p.line)) &&
    (decide (a = a2) && decide (b = b2) && decide (ja ≠ jb)) && locOk N sc i y && blkC N sc scope [(a, ja), (b, jb)] && (locOk N (relS scope sc) ja a && locOk N (relS scope sc) jb b) && (decide ((relS scope sc).names.lookup a = some .local) && decide ((relS scope sc).names.lookup b = some .local))
  | _, _, _ => false
def chSuL (N : List Str) (sc : Scope) (oj : Option Nat) (i : Nat) (h : Hx) : List Stmt → Bool
  | [st] => chSu N sc oj i h st
  | [st1, st2] => chJ N sc oj i h st1 st2
  | _ => false
def chCl (N : List Str) (sc : Scope) (cl : Cla) : ExceptHandler → Bool
  | .ExceptHandler (some (.Name x _)) on sts _ => decide (cl.c = x) && glOk sc x && (match cl.nm, on with | none, none => true | some j, some n => decide (N[j]? = some n) && decide (sc.names.lookup n = some .local) | _, _ => false) && chSuL N sc cl.nm cl.i cl.h sts
  | _ => false
def chCls (N : List Str) (sc : Scope) : List Cla → List ExceptHandler → Bool
  | [], [] => true
  | cl :: r, h :: hs => chCl N sc cl h && chCls N sc r hs
  | _, _ => false
/-- a name that stands for a lambda's code object -/
def isLam (q : Str) : Bool := q.cps.toList.contains 62
def fnSc (ns : List Str) (sc : Scope) : Bool := decide (sc.kind = .function) && !sc.isCoroutine && !sc.isGenerator && decide ns.Nodup && (ns.all fun x => decide (sc.names.lookup x = some .local)) && sc.names.all fun y => !decide (y.2 = .free)
/-- a lambda of two parameters that captures nothing -/
def lamChk (nm : Nat → Str × Str) (ns : List Str) (ir : Ex) (F : LamD) : Bool := match F.params with
  | ⟨[], [⟨y1, none, _⟩, ⟨y2, none, _⟩], none, [], [], none, []⟩ => decide (ns = [y1, y2]) && fnSc ns F.scope && chE ns nm F.scope ir F.body
  | _ => false
def chLam (N : List Str) (nm : Nat → Str × Str) (sc : Scope) (q : Str) (a : Ex) (j : Nat) (te : Ex) : Expr → Bool
  | .Call (.Name f _) [x] [⟨some k, .Lambda ⟨[], [⟨y, none, _⟩], none, [], [], none, []⟩ body scope _, _⟩] _ => decide (f = ("sorted" : Str)) && decide (k = ("key" : Str)) && glOk sc f && !isStar x && (decide (q ∈ N) && isLam q) && decide (N[j]? = some y) && lamS1B sc scope y && chE N nm sc a x && chE N nm scope te body
  | _ => false
def chCV (N : List Str) (nm : Nat → Str × Str) (sc : Scope) : Cv → Expr → Bool
  | .cv f id q _ ns ir es, .Call (.Name x _) (.Lambda params body scope _ :: xs) [] _ => decide (f = x) && decide (nm id = (("" : Str), f)) && glOk sc f && (decide (q ∈ N) && isLam q) && lamChk nm ns ir ⟨q, params, body, scope⟩ && chEs N nm sc es xs
  | _, _ => false
mutual
def chS (N : List Str) (nm : Nat → Str × Str) (sc : Scope) : Stm → Stmt → Bool
  | .asg (.name i) (.lc it j tt te), .Assign [.Name y p] (.ListComp elt gens scope q) _ => chG N nm sc (.name i) (.Name y p) && chE N nm sc (.lc it j tt te) (.ListComp elt gens scope q)
  | .asg (.tup (.cons (.name i) (.cons (.name j) .nil))) (.tup (.cons e1 (.cons e2 .nil))), .Assign [.Tuple [.Name x px, .Name y py] _ _] (.Tuple [a, b] _ _) _ => parOk N sc i j x y px py a b && chE N nm sc e1 a && chE N nm sc e2 b
  | .asg g e, .Assign [x] v _ => (!isTup v || !isTL x) && (!isComp v || isTL x) && chG N nm sc g x && chE N nm sc e v
  | .fld o f e, .Assign [.Attribute x g _] v _ => decide (f = g) && !isComp v && chE N nm sc o x && chE N nm sc e v
  | .drop e, .Expr v _ => !isComp v && chE N nm sc e v
  | .ret e, .Return (some v) _ => chE N nm sc e v
  | .retX it j te, .Return (some v) _ => chE N nm sc (.lc it j .yes te) v
  | .ite c a b, .If z x y _ => chT N nm sc c z && chSs N nm sc a x && chSs N nm sc b y
  | .for_ g it b, .For x y z [] _ => !isSet y && chG N nm sc g x && chI N nm sc it y && chSs N nm sc b z
  | .forE g a b, .For x (.Call (.Name f _) [y] [] _) z [] _ => decide (f = ("enumerate" : Str)) && glOk sc f && isTup x && !isStar y && chG N nm sc g x && chE N nm sc a y && chSs N nm sc b z
  | .tryM b cs, .Try z hs [] [] _ => !hs.isEmpty && chCls N sc cs hs && chSs N nm sc b z
  | .while_ c b, .While x z [] _ => chT N nm sc c x && chSs N nm sc b z
  | .raise c, .Raise (some (.Call (.Name x _) [.Constant (.str _) _ _] [] _)) none _ => decide (c = x) && glOk sc x
  | .raiseX c a, .Raise (some (.Call (.Name x _) [e] [] _)) none _ => decide (c = x) && glOk sc x && !isStar e && chE N nm sc a e
  | .pass, .Pass _ => true
  | .sortL none q a j te, .Return (some v) _ => chLam N nm sc q a j te v
  | .sortL (some i) q a j te, .Assign [.Name x _] v _ => decide (N[i]? = some x) && (decide (sc.names.lookup x = some .local) || decide (sc.names.lookup x = some .cell)) && chLam N nm sc q a j te v
  | .iteV c o b x y, .If (.Compare z [p] [w] _) s t _ => chCV N nm sc c z && okC o p && !isSet w && chE N nm sc b w && chSs N nm sc x s && chSs N nm sc y t
  | .retV c o b, .Return (some (.Compare z [p] [w] _)) _ => chCV N nm sc c z && okC o p && !isSet w && chE N nm sc b w
  | _, _ => false
def chSs (N : List Str) (nm : Nat → Str × Str) (sc : Scope) : Stms → List Stmt → Bool
  | .nil, [] => true
  | .cons s ss, x :: xs => chS N nm sc s x && chSs N nm sc ss xs
  | _, _ => false
end
structure Ct where
  con : Str → Option D
  fn : Nat → Nat → Option (Nat × DSp × List D)
  fds : Str → List Str
  exn : List Str
  sub : Str → Str → Option Bool
  isx : Str → Str → Option Bool
  lam : Nat → Option (Nat × DSp) := fun _ => none
  lamt : Nat → Option (List Str × Ex) := fun _ => none
  exa : List Str := []
  hot : Str → Str → Option D := fun _ _ => none
def wpBo : Bo → D → D → HL → Qd → Prop
  | .add => oAdd | .sub => oSub | .mul => oMul | .div => oDiv | .mod => oMod | .pow => oPow
def wpCo : Co → D → D → HL → Qd → Prop
  | .eq => oEq id | .ne => oEq not | .lt => oLt | .le => oLe | .gt => oGt | .ge => oGe | .isa => oIs id | .isnt => oIs not | .inn => oIn id | .nin => oIn not
def wpBf : Bf → List D → HL → Qd → Prop
  | .len => oLen | .list => oList | .tuple => oTuple | .all => oAll (fun bs => bs.all id) | .any => oAll (fun bs => bs.any id) | .sum => oSum | .max => oMax | .min => oMin | .abs => oAbs | .int => oInt | .divmod => oDivmod | .str => oStr | .isi => oIsi
  | .rev | .enum | .zip => fun _ _ _ => False
  | .sorted => oSorted
  | .repr => oRepr
def mfT : Mf → String
  | .append | .extend | .pop | .insert | .reverse | .clear | .index | .remove | .count => "list"
  | _ => "str"
def wpMf : Mf → D → List D → HL → Qd → Prop
  | .append => oAppend | .extend => oExtend | .pop => oPop | .insert => oInsert | .reverse => oReverse | .clear => oClear | .index => oIndex | .join => oJoin | .split => oSplit | .part => oPart | .upper => oUpper | .starts => oStarts | .remove => oRemove | .count => oCount
def dNo : DTE := fun _ _ _ _ => False
def oNeg : D → HL → Qd → Prop
  | .int i, L, Q => Q (.int (-i)) L
  | _, _, _ => False
def dNeg (t : DTE) : DTE := fun σ L Q E => t σ L (fun x L1 => oNeg x L1 Q) E
def dCallV (lam : Nat → Option (Nat × DSp)) (i : Nat) (t : DTA) : DTE := fun σ L Q E => ∃ k n sp, σ[i]? = some (some (.lam k)) ∧ lam k = some (n, sp) ∧ t σ L (fun xs L1 => xs.length = n ∧ sp xs L1 (Cl Q) (ClX (E σ))) E
mutual
def wpE (C : Ct) : Ex → DTE
  | .var i => dVar i
  | .lit l => dC l.d
  | .glb x => match C.con x with
    | some d => dC d
    | none => dNo
  | .ty n => dC (.ty n)
  | .bin o a b => dOp (wpBo o) (wpE C a) (wpE C b)
  | .neg a => dNeg (wpE C a)
  | .cmp o a b => dOp (wpCo o) (wpE C a) (wpE C b)
  | .bool k es => wpB C k es
  | .not_ a => dNotV (wpE C a)
  | .ite c a b => dIte (wpT C c) (wpE C a) (wpE C b)
  | .idx a b => dOp oIx (wpE C a) (wpE C b)
  | .get a f => dGet (wpE C a) f
  | .slc a lo hi => dSl (wpE C a) (wpO C lo) (wpO C hi)
  | .fld a f => dFld C.fds (wpE C a) f
  | .tup es => dTup (wpA C es)
  | .lst es => dLst (wpA C es)
  | .blt b es => dCB (wpBf b) (wpA C es)
  | .mth m o es => dBM (mfT m) (wpMf m) (wpE C o) (wpA C es)
  | .call x id es => match C.fn id es.len with
    | some (n, sp, dv) => dCall n sp dv (wpA C es)
    | none => dNo
  | .make x id es => match C.fn id es.len with
    | some (n, sp, dv) => dMake x n sp dv (wpA C es)
    | none => dNo
  | .meth c m id o es => match C.fn id es.len with
    | some (n, sp, dv) => fun σ L Q E => c ≠ "" ∧ dMeth c m n sp dv (wpE C o) (wpA C es) σ L Q E
    | none => dNo
  | .sortm c m id a i => match C.fn id 1 with
    | some (n, sp, dv) => dSortB c m n sp dv (wpE C a) (dVar i)
    | none => dNo
  | .lenset a => dLenSet (wpE C a)
  | .lrev a => dLrev (wpE C a)
  | .lrng a => dLrng (wpE C a)
  | .rvs a => dRevS (wpE C a)
  | .dct1 k v => dDct1 (wpE C k) (wpE C v)
  | .dct0 => dDct0
  | .dct ks es => dDct ks (wpA C es)
  | .repl x o y z => dRepl (wpBo .add) x y z (wpE C o)
  | .or2 a b => dOr2 (wpE C a) (wpE C b)
  | .lc it j tt te => dLc (wpI C it) j (wpT C tt) (wpE C te) [j]
  | .lcp it j1 j2 te => dLcp (wpI C it) j1 j2 (wpE C te)
  | .callv i es => dCallV C.lam i (wpA C es)
  | .exc0 .. => dNo
  | .exc1 .. => dNo
  | .exca .. => dNo
  | .isx .. => dNo
  | .xat .. => dNo
def wpA (C : Ct) : Exs → DTA
  | .nil => dNil
  | .cons e es => dCons (wpE C e) (wpA C es)
def wpB (C : Ct) (k : Bool) : Exs → DTE
  | .nil => dNo
  | .cons e .nil => wpE C e
  | .cons e es => if k = true then dAndV (wpE C e) (wpB C k es) else dOrV (wpE C e) (wpB C k es)
def wpO (C : Ct) : Eo → DTO
  | .none => dNoPart
  | .some e => dPart (wpE C e)
def wpT (C : Ct) : Tx → DTT
  | .yes => oYes
  | .val e => dTest (wpE C e)
  | .cmp o a b => dTest (dOp (wpCo o) (wpE C a) (wpE C b))
  | .bool k ts => wpTs C k ts
  | .not_ t => dNot (wpT C t)
  | .chain o o2 a b c => dChain (wpCo o) (wpCo o2) (wpE C a) (wpE C b) (wpE C c)
def wpTs (C : Ct) (k : Bool) : Txs → DTT
  | .nil => fun _ _ _ _ => False
  | .cons t .nil => wpT C t
  | .cons t ts => if k = true then dAnd (wpT C t) (wpTs C k ts) else dOr (wpT C t) (wpTs C k ts)
def wpI (C : Ct) : Ix → DTI
  | .of e => dIter (wpE C e)
  | .rng es => dRange (wpA C es)
end
mutual
def wpG (C : Ct) : Tg → DTG
  | .name i => dName i
  | .sub o i => dgSub (wpE C o) (wpE C i)
  | .tup gs => dgTup gs.len (wpGs C gs)
  | .fld o f => dgFld C.fds (wpE C o) f
def wpGs (C : Ct) : Tgs → DTGs
  | .nil => dgNil
  | .cons g gs => dgCons (wpG C g) (wpGs C gs)
end
def dIs (j : Nat) (a : Addr) (o : Option Bool) : DTE := fun σ L Q _ => σ[j]? = some (some (.ref a)) ∧ ∃ b, o = some b ∧ Q (.bl b) L
def wpIb (isx : Str → Option Bool) (j : Nat) (a : Addr) : Ib → DTE
  | .isa c => dIs j a (isx c)
  | .not_ b => dNotV (wpIb isx j a b)
  | .and_ x y => dAndV (wpIb isx j a x) (wpIb isx j a y)
def dInt1 (t : DTE) : DTE := fun σ L Q E => t σ L (fun d L1 => ∃ b, d = .bl b ∧ Q (.int (if b then 1 else 0)) L1) E
def wpIv (isx : Str → Option Bool) (j : Nat) (a : Addr) : Iv → DTE
  | .int b => dInt1 (wpIb isx j a b)
  | .lit n => dC (.int n)
  | .add x y => dOp (wpBo .add) (wpIv isx j a x) (wpIv isx j a y)
  | .mul x y => dOp (wpBo .mul) (wpIv isx j a x) (wpIv isx j a y)
def dLits : List Lt → DTA
  | [] => dNil
  | l :: ls => dCons (dC l.d) (dLits ls)
def dHot (hot : Str → Option D) (oj : Option Nat) (a : Addr) (f : Str) : DTE := match oj with
  | some j => fun σ L Q _ => σ[j]? = some (some (.ref a)) ∧ ∃ l, hot f = some l ∧ Q l L
  | none => dNo
def wpH (isx : Str → Option Bool) (hot : Str → Option D) (oj : Option Nat) (od : Option D) (a : Addr) : Hx → DTE
  | .lit l => dC l.d
  | .nil => dLst dNil
  | .pick ls v => match oj with
    | some j => dOp oIx (dLst (dLits ls)) (wpIv isx j a v)
    | none => dNo
  | .fat => match oj, od with
    | some j, some (.int n) => fun σ L Q _ => σ[j]? = some (some (.ref a)) ∧ Q (.int n) L
    | _, _ => dNo
  | .cmpi i n => dOp (wpCo .eq) (dVar i) (dC (.int n))
  | .dead => dNo
  | .hot f => dHot hot oj a f
  | .hotd k f => dDct1 (dC (.str k)) (dHot hot oj a f)
  | .hota f => match oj, od with
    | some j, some (.int n) => fun σ L Q _ => σ[j]? = some (some (.ref a)) ∧ ∃ l, hot f = some l ∧ Q (.lst [l, .int n]) L
    | _, _ => dNo
  | .joins .. => dNo
def Hx.plain : Hx → Bool
  | .pick .. => false
  | .hot _ => false
  | .hotd _ _ => false
  | .joins .. => false
  | _ => true
def Hx.isAt : Hx → Bool
  | .fat => true
  | .hota _ => true
  | _ => false
def dSu (isx : Str → Option Bool) (hot : Str → Option D) (oj : Option Nat) (od : Option D) (a : Addr) (i : Nat) (h : Hx) : DTS := dAsg (wpH isx hot oj od a h) (dName i)
def dEnds (oj : Option Nat) (D : DE) : DE := match oj with
  | none => ⟨D.nx, D.rt, X0⟩
  | some j => ⟨fun σ L => D.nx (σ.set j none) L, D.rt, X0⟩
def dSlot (oj : Option Nat) (a : Addr) (σ : Sl) : Sl := match oj with
  | none => σ
  | some j => σ.set j (some (.ref a))
/-- what the clauses wish of what the body raises -/
def dMany (C : Ct) (D : DE) : List Cla → Xd
  | [] => D.ex
  | cl :: r => fun σ x L => ∃ b, C.sub cl.c x.1 = some b ∧ (b = true → ((cl.h.plain = true ∨ x.2 = none) ∧ (cl.h.isAt = true → x.1 ∈ C.exa)) ∧ ∀ a, dSeq (dSu (fun c => C.isx c x.1) (fun f => C.hot f x.1) cl.nm x.2 a cl.i cl.h) dNext (dEnds cl.nm D) (dSlot cl.nm a σ) L) ∧ (b = false → dMany C D r σ x L)
def dTryM (C : Ct) (cs : List Cla) (tb : DTS) : DTS := fun D σ L => tb ⟨D.nx, D.rt, dMany C D cs⟩ σ L
def subAll (C : Ct) (cs : List Cla) : Bool := cs.all fun cl => match C.sub cl.c cl.c with
  | some true => true
  | _ => false
def dLamv (lamt : Nat → Option (List Str × Ex)) (i : Nat) (ns : List Str) (ir : Ex) : DTE := fun _ L Q _ => lamt i = some (ns, ir) ∧ Q (.lam i) L
def wpCV (C : Ct) : Cv → DTE
  | .cv _ id _ i ns ir es => match C.fn id (es.len + 1) with
    | some (n, sp, dv) => dCall n sp dv (dCons (dLamv C.lamt i ns ir) (wpA C es))
    | none => dNo
mutual
def wpS (C : Ct) : Stm → DTS
  | .asg g e => dAsg (wpE C e) (wpG C g)
  | .fld o f e => dFldS C.fds (wpE C o) (wpE C e) f
  | .drop e => dDrop (wpE C e)
  | .ret e => dRet (wpE C e)
  | .retX .. => fun _ _ _ => False
  | .ite c a b => dIf (wpT C c) (wpSs C a) (wpSs C b)
  | .for_ g it b => dFor (wpI C it) (wpG C g) (wpSs C b)
  | .forE g a b => dFor (dEnumA (wpE C a)) (wpG C g) (wpSs C b)
  | .tryM b cs => fun D σ L => subAll C cs = true ∧ dTryM C cs (wpSs C b) D σ L
  | .while_ c b => dWhile (wpT C c) (wpSs C b)
  | .raise x => fun D σ L => x ∈ C.exn ∧ dRaise (x, none) D σ L
  | .raiseX x a => fun D σ L => x ∈ C.exa ∧ dRaiseX x (wpE C a) D σ L
  | .pass => dNext
  | .sortL none q a j te => dRet (dSortL (wpE C te) j (wpE C a))
  | .sortL (some i) q a j te => dAsg (dSortL (wpE C te) j (wpE C a)) (dName i)
  | .iteV c o b x y => dIf (dTest (dOp (wpCo o) (wpCV C c) (wpE C b))) (wpSs C x) (wpSs C y)
  | .retV c o b => dRet (dOp (wpCo o) (wpCV C c) (wpE C b))
def wpSs (C : Ct) : Stms → DTS
  | .nil => dNext
  | .cons s ss => dSeq (wpS C s) (wpSs C ss)
end
end DM
namespace DM
open PySem L2
section
set_option Elab.async false
set_option linter.all false
set_option maxRecDepth 100000
open PySem PySem.Spec PyProof.Rows L2 LamX
/-- what a lambda that captures nothing promises, wherever it is called -/
structure LamG (P : Program) (w : World) (K : PySem.W.Frag) (mg : Str → Option Value) (base : Heap) (CX : CXT) (k : Nat) (F : LamD) (n : Nat) (sp : _root_.L2.Sp) : Prop where
  run : ∀ (A : Around) (outer : List Env) (s : Shared) (H : Hp) (f c' : Addr) (us : List Value) (vs : List V) (Q : VK) (E : XK), Unseen A → Room k A → Env0 P w K mg base A outer s H → H f = some (F.O f c') → H c' = some (CodeO c' F.qual) → us.length = n → Vals vs us → sp vs H Q E →
    codeAny (model P w) A (.call (.ref f) ⟨us, []⟩) (CR CX outer P w H s Q E) s
section
end
/-- a(e, ..), a a local that holds such a lambda -/
def tCallV (X : Cx) (CX : CXT) (E : _root_.L2.St → XK) (i : Nat) (ta : TA) : TE := fun σ H Q => ∃ (f c' : Addr) (F : LamD) (k n : Nat) (sp : _root_.L2.Sp), σ[i]? = some (some (.ref f)) ∧ LamG X.prog X.w X.K X.mg X.base CX k F n sp ∧ Room k X.A ∧ H f = some (F.O f c') ∧
  ta σ H fun vs H1 => H1 f = some (F.O f c') ∧ H1 c' = some (CodeO c' F.qual) ∧ vs.length = n ∧ sp vs H1 Q (E σ)
theorem pe_callV {X : Cx} {CX : CXT} {E : _root_.L2.St → XK} {i : Nat} {a : Str} {e : Expr} {es : List Expr} {ta : TA} {p pos : Pos} (hN : X.N[i]? = some a) (hv : Vis X.env.scope a) (hd : (a == ("__debug__" : Str)) = false) (hcd : (a == ("__classdict__" : Str)) = false)
    (hgd : Unseen X.A) (hx : ∀ σ, PassesAt CX X σ (E σ)) (ha : PA X (e :: es) ta) (he : starEach (e :: es) X.env = (false, eval e X.env) :: starEach es X.env) (hpl : (backTo pos (starEach es X.env)).any (·.1) = false) :
    PE X (.Call (.Name a p) (e :: es) [] pos) (tCallV X CX E i ta) := by
  constructor
  rintro pins s σ H Q I ⟨f, c', F, k, n, sp, hs, L, hr, hf, ht⟩
  have fn : ∀ {H1 : Hp} {s1 : Shared}, Inv X pins σ H1 s1 → H1 f = some (F.O f c') → PySem.W.FnAt f s1.heap := fun J e =>
    let ⟨⟨_, _, z⟩, _⟩ := J.hok f _ e
    ⟨_, _, _, _, z⟩
  have name := (pe_var (pos := p) (i := i) hN hv hd hcd).run pins s σ H (fun v H1 => v = .ref f ∧ H1 = H) I ⟨_, hs, rfl, rfl⟩
  refine wpAny_Call_Name_kw (thn name ?_)
  rintro u s1 ⟨v, H1, I1, r1, rfl, rfl⟩
  cases r1
  refine PySem.W.callWith_F (fn I1 hf) (thn (ha.run pos pins s1 σ _ _ I1 ht) ?_) he hpl
  rintro us s2 ⟨vs, H2, I2, r, f2, c2, rfl, q⟩
  have run := L.run X.A X.stack s2 H2 f c' us vs Q (E σ) hgd hr I2.env0 f2 c2 (Paired.length r).symm r q
  refine ⟨fn I2 f2, wpAny_call (codeAny_mono run ?_)⟩
  rintro (err | fl) s3 q3
  · exact hx σ pins H2 s2 err s3 I2 q3
  · cases fl <;> first | exact I2.after q3 | exact q3.elim
end
end DM
set_option Elab.async false
set_option linter.all false
set_option maxRecDepth 100000
namespace DM
open PySem L2 PyProof.Rows
def NcOk (G : Gw) (P : Program) (w : World) (mg : Str → Option Value) (base : Heap) (x : Str) : Prop := ∃ c fI fd, G.ca x = some c ∧ mg x = some (.ref c) ∧ OexC G.K c ∧ XfC G.K c ∧ PySem.W.findIn G.K (.ref c) "at" = some none ∧ PySem.W.findIn G.K (.ref c) "__init__" = some (some (.ref fI)) ∧
  PySem.W.typeIn G.K (.ref fI) = some (.type "function") ∧ FnOk P w G.K mg base (L2N.CX P w) 1 fI fd ["self", "at"] (spNc G.K) ∧ Binds G.K fd ["self", "at"] []
/-- what is known of the program's own names -/
structure GOk (G : Gw) (C : Ct) (nm : Nat → Str × Str) (P : Program) (w : World) (mg : Str → Option Value) (base : Heap) (A : Around) : Prop where
  con : ∀ x d, C.con x = some d → ∃ u v, mg x = some u ∧ RelV v u ∧ ∀ O H, Enc G O H v d
  free : ∀ b : Bf, mg (bfName b) = none
  unseen : Unseen A
  range : mg "range" = none
  bool : mg "bool" = none
  set : mg "set" = none
  fn : ∀ id k n sp dv, C.fn id k = some (n, sp, dv) → ∃ j f fd ps ds dvs, PySem.W.keepIn G.K (.ref f) = true ∧ FnQ P w G.K mg base (L2N.CX P w) j f fd ps (spOf G n sp) ∧ Binds G.K fd ps ds ∧ Vals dvs ds ∧ (∀ O H, EncL G O H dvs dv) ∧ Room (j + 1) A ∧
    (∀ x, nm id = (("" : Str), x) → mg x = some (.ref f)) ∧
    (∀ c, nm id = (c, ("__init__" : Str)) → ∃ a, mg c = some (.ref a) ∧ G.ca c = some a ∧ Mk G.K a f) ∧
    (∀ c m, nm id = (c, m) → c ≠ "" → ∃ a, G.ca c = some a ∧ Cls G.K a ∧ Meth G.K a m f)
  fds : Fds G C.fds
  sub : ∀ c y b, C.sub c y = some b → ∃ v, mg c = some v ∧ ∀ a, G.ca y = some a → PySem.W.exmOne G.K (.ref a) v = some b
  isx : ∀ c y b, C.isx c y = some b → ∃ v w, (mg c = some v ∨ (mg c = none ∧ bootBuiltins c = some v ∧ c ≠ "__name__")) ∧ RelV w v ∧ (∀ u, RelV w u → u = v) ∧ ∀ a, G.ca y = some a → ExcC G.K a ∧ PySem.W.kitOne G.K (.ref a) v = some b
  exn : ∀ x, x ∈ C.exn → ∃ c, G.ca x = some c ∧ mg x = some (.ref c) ∧ PySem.W.excIn G.K c [.type "ValueError", .type "Exception", .type "BaseException", .type "object"] "ValueError.__new__" = true ∧ PySem.W.keepIn G.K (.ref c) = true ∧
    PySem.W.subIn G.K (.ref c) (.type "BaseException") = some true ∧ PySem.W.typeIn G.K (.ref c) = some (.type "type")
  lam : ∀ i n sp, C.lam i = some (n, sp) → ∃ j, (∀ F, G.lams i F → LamG P w G.K mg base (L2N.CX P w) j F n (spOf G n sp)) ∧ Room j A
  lamt : ∀ i ns ir, C.lamt i = some (ns, ir) → ∀ F, lamChk nm ns ir F = true → G.lams i F
  exa : ∀ x, x ∈ C.exa → NcOk G P w mg base x ∧ Room 2 A
  hot : ∀ f y l, C.hot f y = some l → ∃ fa fd x c0, mg f = some (.ref fa) ∧ PySem.W.keepIn G.K (.ref fa) = true ∧ Binds G.K fd [x] [] ∧ G.ca y = some c0 ∧ FnE P w G.K G.T mg base 1 fa fd x c0 l (decide (y ∈ C.exa)) ∧ Room 1 A
structure COk (G : Gw) (C : Ct) (N : List Str) (nm : Nat → Str × Str) (sc : Scope) (X : Cx) (W : WX) : Prop where
  hK : X.K = G.K
  hN : X.N = N
  sc : X.env.scope = sc
  nd : N.Nodup
  calm : X.calm = true
  tk : L2N.Takes X W
  hu : X.A.units + 65 < cLine
  g : GOk G C nm X.prog X.w X.mg X.base X.A
section
variable {G : Gw} {C : Ct} {N : List Str} {nm : Nat → Str × Str} {sc : Scope} {X : Cx} {W : WX}
theorem COk.blk (ok : COk G C N nm sc X W) (s : Shared) (H : Hp) (scope : Scope) (Ca : Addr) (cl : List (Str × Addr)) (fp : List Addr) : COk G C N nm (relS scope sc) (X.blk s H scope (compEnvC scope cl Ca X.env) fp) W0 :=
  ⟨ok.hK, ok.hN, by rw [← ok.sc]; rfl, ok.nd, ok.calm, (fun _ _ x => by obtain ⟨_, _, _, _, _, _, _, _, _, _, _, _, _, _, _, _, w⟩ := x; exact w.elim), ok.hu, ok.g⟩
theorem COk.gl (ok : COk G C N nm sc X W) {x : Str} (h : glOk sc x = true) : Gl X x ∧ (x == ("__debug__" : Str)) = false ∧ x ≠ "__name__" := by
  unfold glOk at h
  rw [Bool.and_eq_true, Bool.and_eq_true] at h
  obtain ⟨⟨h1, h2⟩, h3⟩ := h
  refine ⟨?_, by simpa using h2, by simpa using h3⟩
  show X.env.scope.names.lookup x = _
  rw [ok.sc]
  exact of_decide_eq_true h1
theorem COk.var (ok : COk G C N nm sc X W) {i : Nat} {x : Str} {pos : Pos} (h : locOk N sc i x = true) : PE X (.Name x pos) (tVar i) := by
  unfold locOk at h
  simp only [Bool.and_eq_true, Bool.or_eq_true, decide_eq_true_eq] at h
  obtain ⟨⟨⟨h1, h2⟩, h3⟩, h4⟩ := h
  refine pe_var (by rw [ok.hN]; exact h1) ?_ (by simpa using h2) (by simpa using h3)
  unfold Vis
  rw [ok.sc]
  exact or_assoc.mp h4
theorem nomk {op : CmpOp} {y : Expr} (h : (!isSet y) = true) : behindInMarks op y = false := by
  cases y <;> first | rfl | exact nomatch h
theorem plain_ix {y : Expr} (h : (!isSlice y) = true) : PlainIx y := fun _ _ => by
  cases y <;> first | rfl | exact nomatch h
theorem fold_set {y : Expr} {env : Env} (h : (!isSet y) = true) : ∀ x, foldedSetIterable y env x = pure x := fun _ => by
  cases y <;> first | rfl | exact nomatch h
theorem test_val {e : Expr} {env : Env} (h : (!isTest e) = true) : ∀ whole, isTrue e env whole = (do let v ← whole; standAt e.pos; holding [v] (truthy v)) := fun _ => by
  cases e <;> first | rfl | exact nomatch h
theorem sub_assign {o i : Expr} {pos : Pos} {env : Env} (h : (!isSlice i) = true) : ∀ v, assign (.Subscript o i pos) env v = (do
      let ov ← holding [v] (eval o env)
      let iv ← holding [v, ov] (eval i env)
      standAt pos
      holding [v, ov, iv] (setItem ov iv v)
      release [v, ov, iv] []) := fun _ => by
  cases i <;> first | rfl | exact nomatch h
theorem no_swap {e : Expr} {t : Option Expr} {l : Nat} {env : Env} (h : (!isComp e) = true) : swapsWith e t l env = pure false := by
  cases e <;> first | rfl | exact nomatch h
theorem no_swap1 {tg e : Expr} {l : Nat} {env : Env} (h : (!isComp e || isTL tg) = true) : swapsWithSole [tg] e l env = pure false := by
  show swapsWith e (some tg) l env = pure false
  cases e <;> first | rfl | (cases tg <;> first | rfl | exact nomatch h)
theorem no_swaps {tg e : Expr} {env : Env} (h : (!isTup e || !isTL tg) = true) : swappedStores [tg] e env = pure none := by
  cases tg <;> first | rfl | (cases e <;> first | rfl | (simp [isTup, isTL] at h))
theorem star_any {a : Expr} (h : (!isStar a) = true) : (match a with | .Starred .. => true | _ => false) = false := by
  cases a <;> first | rfl | exact nomatch h
theorem star_any2 {a : Expr} : (!isStar a) = true → ¬ ((match a with | .Starred value pos => true | x => false) = true) := by
  intro h
  cases a <;> first | (simp; done) | (simp [isStar] at h)
theorem par_swaps {N : List Str} {env : Env} {i j : Nat} {x y : Str} {px py pt pt2 : Pos} {kt k2} {a b : Expr} (h : parOk N env.scope i j x y px py a b = true) (hb : (env.blockKind == .function) = true) :
    swappedStores [.Tuple [.Name x px, .Name y py] kt pt] (.Tuple [a, b] k2 pt2) env = pure (some [x, y]) := by
  unfold parOk at h
  simp only [Bool.and_eq_true, decide_eq_true_eq] at h
  obtain ⟨⟨⟨⟨⟨⟨⟨⟨⟨⟨h1, h2⟩, h3⟩, h4⟩, h5⟩, h6⟩, h7⟩, h8⟩, h9⟩, h10⟩, h11⟩ := h
  have k1 : env.kindOf x = some .local := h4
  have k2' : env.kindOf y = some .local := h5
  have hb2 : (env.blockKind != .function) = false := by simp [bne, hb]
  have s1 := star_any h8
  have s2 := star_any h9
  have e1 : (Expr.Name x px).pos = px := rfl
  unfold swappedStores
  simp only [pure_bind, List.length_cons, List.length_nil, hb2, List.any_cons, List.any_nil, s1, s2, List.head?_cons, Option.map_some, Option.getD_some, e1, List.filterMap_cons, List.filterMap_nil, k1, k2', List.all_cons, List.all_nil, Bool.and_true]
  simp at h6 h7 h10 h11 ⊢
  rw [if_pos h6.symm]
  rw [if_neg (show ¬ _ from ?_)]
  · dsimp only
    rw [if_neg (by rw [h7]; simp), if_neg (by rcases h10 with h | h <;> simp [h]), if_neg (by rcases h11 with h | h <;> simp [h])]
  · exact fun e => e.elim (star_any2 h8) (star_any2 h9)
theorem par_swaps0 {env : Env} {x y : Str} {px py pt pt2 : Pos} {kt k2} {a b : Expr} (hb : (env.blockKind == .function) = false) :
    swappedStores [.Tuple [.Name x px, .Name y py] kt pt] (.Tuple [a, b] k2 pt2) env = pure none := by
  have hb2 : (env.blockKind != .function) = true := by simp [bne, hb]
  unfold swappedStores
  simp [hb2]
theorem assign_one {tg : Expr} {env : Env} (h : isStar tg = false) : (assignEach [tg] env).map (·.2) = [assign tg env] := by
  cases tg <;> first | rfl | exact nomatch h
theorem assign_cons {tg : Expr} {tgs : List Expr} {env : Env} (h : isStar tg = false) : (assignEach (tg :: tgs) env).map (·.2) = assign tg env :: (assignEach tgs env).map (·.2) := by
  cases tg <;> first | rfl | exact nomatch h
theorem assign_len {env : Env} : ∀ {tgs : List Expr}, (assignEach tgs env).length = tgs.length
  | [] => rfl
  | t :: tgs => by
    have : (assignEach (t :: tgs) env).length = (assignEach tgs env).length + 1 := by cases t <;> rfl
    rw [this, assign_len]
    rfl
theorem assign_nostar {env : Env} : ∀ {tgs : List Expr}, (tgs.all fun e => !isStar e) = true → (assignEach tgs env).findIdx? (·.1) = none
  | [], _ => rfl
  | t :: tgs, h => by
    rw [List.all_cons, Bool.and_eq_true] at h
    have : ∃ r, assignEach (t :: tgs) env = (false, r) :: assignEach tgs env := by
      cases t <;> first | exact ⟨_, rfl⟩ | exact nomatch h.1
    obtain ⟨r, e⟩ := this
    rw [e, List.findIdx?_cons, assign_nostar h.2]
    rfl
theorem sound_bo (hK : X.K = G.K) {o : Bo} {p : Operator} (h : okB o p = true) : ∃ r, OpR X (binaryOp p) r ∧ OpD G (wpBo o) r := by
  cases o <;> cases p <;> first | (cases h; done) | skip
  · exact ⟨_, op_vAdd, hK ▸ od_add⟩
  · exact ⟨_, op_sub, od_sub⟩
  · exact ⟨_, op_vMul, od_mul⟩
  · exact ⟨_, op_fdivW, od_div⟩
  · exact ⟨_, op_mod, od_mod⟩
  · exact ⟨_, op_pow, od_pow⟩
theorem sound_co (hK : X.K = G.K) (hu : X.A.units + 65 < cLine) {o : Co} {p : CmpOp} (h : okC o p = true) : ∃ r, OpR X (compareOp p) r ∧ OpD G (wpCo o) r := by
  cases o <;> cases p <;> first | (cases h; done) | skip
  · exact ⟨_, opR_or (op_eqD (by omega)) (opR_or (op_eqS (by omega)) op_eq), hK ▸ od_eq⟩
  · exact ⟨_, opR_or (op_neD (by omega)) (opR_or (op_neS (by omega)) op_ne), hK ▸ od_ne⟩
  · exact ⟨_, opR_or op_lt (op_ltD (by omega)), hK ▸ od_ord⟩
  · exact ⟨_, opR_or op_le (op_leD (by omega)), hK ▸ od_ord⟩
  · exact ⟨_, opR_or op_gt (op_gtD (by omega)), hK ▸ od_ord⟩
  · exact ⟨_, opR_or op_ge (op_geD (by omega)), hK ▸ od_ord⟩
  · exact ⟨_, op_isN, od_is⟩
  · exact ⟨_, op_notN, od_isnot⟩
  · exact ⟨_, op_vIn hu, hK ▸ od_in⟩
  · exact ⟨_, op_vNi hu, hK ▸ od_ni⟩
theorem call_never {f : Value} : CallR X f (fun _ _ _ => False) := fun _ _ _ _ _ _ _ _ _ h => h.elim
theorem cd_never : CallD G (fun _ _ _ => False) (fun _ _ _ => False) := fun _ _ _ h => h
theorem sound_bf (hK : X.K = G.K) (hc : X.calm = true) (hgd : Unseen X.A) (hu : X.A.units + 65 < cLine) {b : Bf} {p : Pos} {xs : List Expr} {pos : Pos} {t : DTA} (hg : Gl X (bfName b)) (hm : X.mg (bfName b) = none) (hx : xs ≠ []) (hs : (xs.all fun e => !isStar e) = true)
    (ha : PA X xs (concA G W t)) : PE X (.Call (.Name (bfName b) p) xs [] pos) (conc G W (dCB (wpBf b) t)) := by
  match xs, hx with
  | e :: es, _ =>
    rw [List.all_cons, Bool.and_eq_true] at hs
    have s1 : starEach (e :: es) X.env = (false, eval e X.env) :: starEach es X.env := star_cons (by simpa using hs.1)
    have s2 : (backTo pos (starEach es X.env)).any (·.1) = false := star_none hs.2
    cases b
    · exact conc_callB cd_len (hK ▸ pe_callB call_vLen hg hm PySem.boot_len ha (he := s1) (hpl := s2))
    · exact conc_callB cd_list (hK ▸ pe_callTy (call_vList hc) hg hm boot_list ha (he := s1) (hpl := s2))
    · exact conc_callB cd_tuple (hK ▸ pe_callTy (call_vTuple hc) hg hm boot_tuple ha (he := s1) (hpl := s2))
    · exact conc_callB cd_all (hK ▸ pe_callB (cr_all hc) hg hm (by decide +kernel) ha (he := s1) (hpl := s2))
    · exact conc_callB cd_all (hK ▸ pe_callB (cr_any hc) hg hm (by decide +kernel) ha (he := s1) (hpl := s2))
    · exact conc_callB cd_sum (hK ▸ pe_callB (callR_or (cr_sum hc) (cr_sumB hc)) hg hm (by decide +kernel) ha (he := s1) (hpl := s2))
    · exact conc_callB cd_max (hK ▸ pe_callB (callR_or (call_max2 hc) (cr_max hc)) hg hm (by decide +kernel) ha (he := s1) (hpl := s2))
    · exact conc_callB cd_min (pe_callB (call_min2 hc) hg hm (by decide +kernel) ha (he := s1) (hpl := s2))
    · exact conc_callB cd_abs (pe_callB call_abs hg hm (by decide +kernel) ha (he := s1) (hpl := s2))
    · exact conc_callB cd_int (pe_callTy call_vInt hg hm boot_int ha (he := s1) (hpl := s2))
    · exact conc_callB cd_divmod (pe_callB call_divmodW hg hm (by decide +kernel) ha (he := s1) (hpl := s2))
    · exact conc_callB cd_str (pe_callTy call_str_int hg hm boot_str ha (he := s1) (hpl := s2))
    · exact conc_callB cd_isi (hK ▸ pe_callB call_vIsi hg hm (by decide +kernel) ha (he := s1) (hpl := s2))
    · exact conc_callB cd_never (pe_callTy call_never hg hm (show bootBuiltins "reversed" = some (.type "reversed") by decide +kernel) ha (he := s1) (hpl := s2))
    · exact conc_callB cd_never (pe_callTy call_never hg hm (show bootBuiltins "enumerate" = some (.type "enumerate") by decide +kernel) ha (he := s1) (hpl := s2))
    · exact conc_callB cd_repr (hK ▸ pe_callB (call_vRepr hgd hu) hg hm (show bootBuiltins "repr" = some (.builtin "repr") by decide +kernel) ha (he := s1) (hpl := s2))
    · exact conc_callB cd_sorted (hK ▸ pe_callB (cr_vSorted hu) hg hm (show bootBuiltins "sorted" = some (.builtin "sorted") by decide +kernel) ha (he := s1) (hpl := s2))
    · exact conc_callB cd_never (pe_callTy call_never hg hm (show bootBuiltins "zip" = some (.type "zip") by decide +kernel) ha (he := s1) (hpl := s2))
end
end DM
set_option Elab.async false
set_option linter.all false
set_option maxRecDepth 100000
namespace DM
open PySem L2 PyProof.Rows
section
theorem and2 {a b : Bool} (h : (a && b) = true) : a = true ∧ b = true := by cases a <;> cases b <;> first | exact ⟨rfl, rfl⟩ | cases h
variable {N : List Str} {nm : Nat → Str × Str} {sc : Scope} {e : Expr} {st : Stmt}
theorem i_var {i : Nat} (h : chE N nm sc (.var i) e = true) : ∃ x p, e = .Name x p ∧ locOk N sc i x = true := by
  cases e <;> first | (cases h; done) | skip
  rename_i w1 w2
  exact ⟨_, _, rfl, h⟩
theorem i_lit {l : Lt} (h : chE N nm sc (.lit l) e = true) : ∃ c k p, e = .Constant c k p ∧ okL l c = true := by
  cases e <;> first | (cases h; done) | skip
  rename_i w1 w2 w3
  exact ⟨_, _, _, rfl, h⟩
theorem i_glb {x : Str} (h : chE N nm sc (.glb x) e = true) : ∃ p, e = .Name x p ∧ glOk sc x = true := by
  cases e <;> first | (cases h; done) | skip
  rename_i w1 w2
  obtain ⟨h, h1⟩ := and2 h
  have h := of_decide_eq_true h
  subst h
  exact ⟨_, rfl, h1⟩
theorem i_ty {n : String} (h : chE N nm sc (.ty n) e = true) : ∃ p, e = .Name n p ∧ glOk sc n = true ∧ tyOk n = true := by
  cases e <;> first | (cases h; done) | skip
  rename_i w1 w2
  obtain ⟨h, h2⟩ := and2 h
  obtain ⟨h, h1⟩ := and2 h
  have h := of_decide_eq_true h
  subst h
  exact ⟨_, rfl, h1, h2⟩
theorem i_bin {o : Bo} {a b : Ex} (h : chE N nm sc (.bin o a b) e = true) : ∃ x p y q, e = .BinOp x p y q ∧ okB o p = true ∧ chE N nm sc a x = true ∧ chE N nm sc b y = true := by
  cases e <;> first | (cases h; done) | skip
  rename_i w1 w2 w3 w4
  obtain ⟨h, h2⟩ := and2 h
  obtain ⟨h, h1⟩ := and2 h
  exact ⟨_, _, _, _, rfl, h, h1, h2⟩
theorem i_neg {a : Ex} (h : chE N nm sc (.neg a) e = true) : ∃ x q, e = .UnaryOp .USub x q ∧ chE N nm sc a x = true := by
  cases e <;> first | (cases h; done) | skip
  rename_i w1 w2 w3
  cases w1 <;> first | (cases h; done) | skip
  exact ⟨_, _, rfl, h⟩
theorem i_cmp {o : Co} {a b : Ex} (h : chE N nm sc (.cmp o a b) e = true) : ∃ x p y q, e = .Compare x [p] [y] q ∧ okC o p = true ∧ (!isSet y) = true ∧ chE N nm sc a x = true ∧ chE N nm sc b y = true := by
  cases e <;> first | (cases h; done) | skip
  rename_i w1 w2 w3 w4
  cases w2 <;> first | (cases h; done) | skip
  rename_i w5 w6
  cases w6 <;> first | (cases h; done) | skip
  cases w3 <;> first | (cases h; done) | skip
  rename_i w7 w8
  cases w8 <;> first | (cases h; done) | skip
  obtain ⟨h, h3⟩ := and2 h
  obtain ⟨h, h2⟩ := and2 h
  obtain ⟨h, h1⟩ := and2 h
  exact ⟨_, _, _, _, rfl, h, h1, h2, h3⟩
theorem i_and {es : Exs} (h : chE N nm sc (.bool true es) e = true) : ∃ xs q, e = .BoolOp .And xs q ∧ chEs N nm sc es xs = true ∧ (!xs.isEmpty) = true := by
  cases e <;> first | (cases h; done) | skip
  rename_i w1 w2 w3
  cases w1 <;> first | (cases h; done) | skip
  obtain ⟨h, h1⟩ := and2 h
  exact ⟨_, _, rfl, h, h1⟩
theorem i_or {es : Exs} (h : chE N nm sc (.bool false es) e = true) : ∃ xs q, e = .BoolOp .Or xs q ∧ chEs N nm sc es xs = true ∧ (!xs.isEmpty) = true := by
  cases e <;> first | (cases h; done) | skip
  rename_i w1 w2 w3
  cases w1 <;> first | (cases h; done) | skip
  obtain ⟨h, h1⟩ := and2 h
  exact ⟨_, _, rfl, h, h1⟩
theorem i_not {a : Ex} (h : chE N nm sc (.not_ a) e = true) : ∃ x q, e = .UnaryOp .Not x q ∧ chE N nm sc a x = true := by
  cases e <;> first | (cases h; done) | skip
  rename_i w1 w2 w3
  cases w1 <;> first | (cases h; done) | skip
  exact ⟨_, _, rfl, h⟩
theorem i_ite {c : Tx} {a b : Ex} (h : chE N nm sc (.ite c a b) e = true) : ∃ z x y q, e = .IfExp z x y q ∧ chT N nm sc c z = true ∧ chE N nm sc a x = true ∧ chE N nm sc b y = true := by
  cases e <;> first | (cases h; done) | skip
  rename_i w1 w2 w3 w4
  obtain ⟨h, h2⟩ := and2 h
  obtain ⟨h, h1⟩ := and2 h
  exact ⟨_, _, _, _, rfl, h, h1, h2⟩
theorem i_idx {a b : Ex} (h : chE N nm sc (.idx a b) e = true) : ∃ x y q, e = .Subscript x y q ∧ (!isSlice y) = true ∧ chE N nm sc a x = true ∧ chE N nm sc b y = true := by
  cases e <;> first | (cases h; done) | skip
  rename_i w1 w2 w3
  obtain ⟨h, h2⟩ := and2 h
  obtain ⟨h, h1⟩ := and2 h
  exact ⟨_, _, _, rfl, h, h1, h2⟩
theorem i_get {a : Ex} {f : Str} (h : chE N nm sc (.get a f) e = true) : ∃ x k p q, e = .Subscript x (.Constant (.str f) k p) q ∧ chE N nm sc a x = true := by
  cases e <;> first | (cases h; done) | skip
  rename_i w1 w2 w3
  cases w2 <;> first | (cases h; done) | skip
  rename_i w4 w5 w6
  cases w4 <;> first | (cases h; done) | skip
  rename_i w7
  obtain ⟨h, h1⟩ := and2 h
  have h := of_decide_eq_true h
  subst h
  exact ⟨_, _, _, _, rfl, h1⟩
theorem i_slc {a : Ex} {lo hi : Eo} (h : chE N nm sc (.slc a lo hi) e = true) : ∃ x l u p q, e = .Subscript x (.Slice l u none p) q ∧ chE N nm sc a x = true ∧ chO N nm sc lo l = true ∧ chO N nm sc hi u = true := by
  cases e <;> first | (cases h; done) | skip
  rename_i w1 w2 w3
  cases w2 <;> first | (cases h; done) | skip
  rename_i w4 w5 w6 w7
  cases w6 <;> first | (cases h; done) | skip
  obtain ⟨h, h2⟩ := and2 h
  obtain ⟨h, h1⟩ := and2 h
  exact ⟨_, _, _, _, _, rfl, h, h1, h2⟩
theorem i_fld {a : Ex} {f : Str} (h : chE N nm sc (.fld a f) e = true) : ∃ x q, e = .Attribute x f q ∧ (!isCall0 x) = true ∧ chE N nm sc a x = true := by
  cases e <;> first | (cases h; done) | skip
  rename_i w1 w2 w3
  obtain ⟨h, h2⟩ := and2 h
  obtain ⟨h, h1⟩ := and2 h
  have h := of_decide_eq_true h
  subst h
  exact ⟨_, _, rfl, h1, h2⟩
theorem i_callv {i : Nat} {es : Exs} (h : chE N nm sc (.callv i es) e = true) : ∃ x p xs q, e = .Call (.Name x p) xs [] q ∧ locOk N sc i x = true ∧ (!xs.isEmpty) = true ∧ chEs N nm sc es xs = true := by
  cases e <;> first | (cases h; done) | skip
  rename_i w1 w2 w3 w4
  cases w1 <;> first | (cases h; done) | skip
  rename_i w5 w6
  cases w3 <;> first | (cases h; done) | skip
  obtain ⟨h, h2⟩ := and2 h
  obtain ⟨h, h1⟩ := and2 h
  exact ⟨_, _, _, _, rfl, h, h1, h2⟩
theorem i_tup {es : Exs} (h : chE N nm sc (.tup es) e = true) : ∃ xs k q, e = .Tuple xs k q ∧ chEs N nm sc es xs = true := by
  cases e <;> first | (cases h; done) | skip
  rename_i w1 w2 w3
  exact ⟨_, _, _, rfl, h⟩
theorem i_lst {es : Exs} (h : chE N nm sc (.lst es) e = true) : ∃ xs q, e = .List xs q ∧ chEs N nm sc es xs = true := by
  cases e <;> first | (cases h; done) | skip
  rename_i w1 w2
  exact ⟨_, _, rfl, h⟩
theorem i_blt {b : Bf} {es : Exs} (h : chE N nm sc (.blt b es) e = true) : ∃ p xs q, e = .Call (.Name (bfName b) p) xs [] q ∧ glOk sc (bfName b) = true ∧ (!xs.isEmpty) = true ∧ chEs N nm sc es xs = true := by
  cases e <;> first | (cases h; done) | skip
  rename_i w1 w2 w3 w4
  cases w1 <;> first | (cases h; done) | skip
  rename_i w5 w6
  cases w3 <;> first | (cases h; done) | skip
  obtain ⟨h, h3⟩ := and2 h
  obtain ⟨h, h2⟩ := and2 h
  obtain ⟨h, h1⟩ := and2 h
  have h := of_decide_eq_true h
  subst h
  exact ⟨_, _, _, rfl, h1, h2, h3⟩
theorem i_mth {m : Mf} {o : Ex} {es : Exs} (h : chE N nm sc (.mth m o es) e = true) : ∃ x ap xs p, e = .Call (.Attribute x (mfName m) ap) xs [] p ∧ (!isCall0 x) = true ∧ (ap.endLine == p.line) = true ∧ decide (xs.length < 19) = true ∧ chE N nm sc o x = true ∧ chEs N nm sc es xs = true := by
  cases e <;> first | (cases h; done) | skip
  rename_i w1 w2 w3 w4
  cases w1 <;> first | (cases h; done) | skip
  rename_i w5 w6 w7
  cases w3 <;> first | (cases h; done) | skip
  obtain ⟨h, h5⟩ := and2 h
  obtain ⟨h, h4⟩ := and2 h
  obtain ⟨h, h3⟩ := and2 h
  obtain ⟨h, h2⟩ := and2 h
  obtain ⟨h, h1⟩ := and2 h
  have h := of_decide_eq_true h
  subst h
  exact ⟨_, _, _, _, rfl, h1, h2, h3, h4, h5⟩
theorem i_call {f : Str} {id : Nat} {es : Exs} (h : chE N nm sc (.call f id es) e = true) : ∃ p xs q, e = .Call (.Name f p) xs [] q ∧ decide (nm id = (("" : Str), f)) = true ∧ glOk sc f = true ∧ chEs N nm sc es xs = true := by
  cases e <;> first | (cases h; done) | skip
  rename_i w1 w2 w3 w4
  cases w1 <;> first | (cases h; done) | skip
  rename_i w5 w6
  cases w3 <;> first | (cases h; done) | skip
  obtain ⟨h, h3⟩ := and2 h
  obtain ⟨h, h2⟩ := and2 h
  obtain ⟨h, h1⟩ := and2 h
  have h := of_decide_eq_true h
  subst h
  exact ⟨_, _, _, rfl, h1, h2, h3⟩
theorem i_make {f : Str} {id : Nat} {es : Exs} (h : chE N nm sc (.make f id es) e = true) : ∃ p xs q, e = .Call (.Name f p) xs [] q ∧ decide (nm id = (f, ("__init__" : Str))) = true ∧ glOk sc f = true ∧ (!xs.isEmpty) = true ∧ chEs N nm sc es xs = true := by
  cases e <;> first | (cases h; done) | skip
  rename_i w1 w2 w3 w4
  cases w1 <;> first | (cases h; done) | skip
  rename_i w5 w6
  cases w3 <;> first | (cases h; done) | skip
  obtain ⟨h, h4⟩ := and2 h
  obtain ⟨h, h3⟩ := and2 h
  obtain ⟨h, h2⟩ := and2 h
  obtain ⟨h, h1⟩ := and2 h
  have h := of_decide_eq_true h
  subst h
  exact ⟨_, _, _, rfl, h1, h2, h3, h4⟩
theorem i_meth {c m : Str} {id : Nat} {o : Ex} {es : Exs} (h : chE N nm sc (.meth c m id o es) e = true) : ∃ x ap xs p, e = .Call (.Attribute x m ap) xs [] p ∧ decide (nm id = (c, m)) = true ∧ (!isCall0 x) = true ∧ (ap.endLine == p.line) = true ∧ decide (xs.length < 19) = true ∧ chE N nm sc o x = true ∧ chEs N nm sc es xs = true := by
  cases e <;> first | (cases h; done) | skip
  rename_i w1 w2 w3 w4
  cases w1 <;> first | (cases h; done) | skip
  rename_i w5 w6 w7
  cases w3 <;> first | (cases h; done) | skip
  obtain ⟨h, h6⟩ := and2 h
  obtain ⟨h, h5⟩ := and2 h
  obtain ⟨h, h4⟩ := and2 h
  obtain ⟨h, h3⟩ := and2 h
  obtain ⟨h, h2⟩ := and2 h
  obtain ⟨h, h1⟩ := and2 h
  have h := of_decide_eq_true h
  subst h
  exact ⟨_, _, _, _, rfl, h1, h2, h3, h4, h5, h6⟩
theorem i_lenset {a : Ex} (h : chE N nm sc (.lenset a) e = true) : ∃ l p t p2 x q pos, e = .Call (.Name l p) [.Call (.Name t p2) [x] [] q] [] pos ∧ decide (l = ("len" : Str)) = true ∧ decide (t = ("set" : Str)) = true ∧ glOk sc l = true ∧ glOk sc t = true ∧ (!isStar x) = true ∧ chE N nm sc a x = true := by
  cases e <;> first | (cases h; done) | skip
  rename_i w1 w2 w3 w4
  cases w1 <;> first | (cases h; done) | skip
  rename_i w5 w6
  cases w2 <;> first | (cases h; done) | skip
  rename_i w7 w8
  cases w7 <;> first | (cases h; done) | skip
  rename_i w9 w10 w11 w12
  cases w9 <;> first | (cases h; done) | skip
  rename_i w13 w14
  cases w10 <;> first | (cases h; done) | skip
  rename_i w15 w16
  cases w16 <;> first | (cases h; done) | skip
  cases w11 <;> first | (cases h; done) | skip
  cases w8 <;> first | (cases h; done) | skip
  cases w3 <;> first | (cases h; done) | skip
  obtain ⟨h, h5⟩ := and2 h
  obtain ⟨h, h4⟩ := and2 h
  obtain ⟨h, h3⟩ := and2 h
  obtain ⟨h, h2⟩ := and2 h
  obtain ⟨h, h1⟩ := and2 h
  exact ⟨_, _, _, _, _, _, _, rfl, h, h1, h2, h3, h4, h5⟩
theorem i_lrev {a : Ex} (h : chE N nm sc (.lrev a) e = true) : ∃ l p t p2 x q pos, e = .Call (.Name l p) [.Call (.Name t p2) [x] [] q] [] pos ∧ decide (l = ("list" : Str)) = true ∧ decide (t = ("reversed" : Str)) = true ∧ glOk sc l = true ∧ glOk sc t = true ∧ (!isStar x) = true ∧ chE N nm sc a x = true := by
  cases e <;> first | (cases h; done) | skip
  rename_i w1 w2 w3 w4
  cases w1 <;> first | (cases h; done) | skip
  rename_i w5 w6
  cases w2 <;> first | (cases h; done) | skip
  rename_i w7 w8
  cases w7 <;> first | (cases h; done) | skip
  rename_i w9 w10 w11 w12
  cases w9 <;> first | (cases h; done) | skip
  rename_i w13 w14
  cases w10 <;> first | (cases h; done) | skip
  rename_i w15 w16
  cases w16 <;> first | (cases h; done) | skip
  cases w11 <;> first | (cases h; done) | skip
  cases w8 <;> first | (cases h; done) | skip
  cases w3 <;> first | (cases h; done) | skip
  obtain ⟨h, h5⟩ := and2 h
  obtain ⟨h, h4⟩ := and2 h
  obtain ⟨h, h3⟩ := and2 h
  obtain ⟨h, h2⟩ := and2 h
  obtain ⟨h, h1⟩ := and2 h
  exact ⟨_, _, _, _, _, _, _, rfl, h, h1, h2, h3, h4, h5⟩
theorem i_lrng {a : Ex} (h : chE N nm sc (.lrng a) e = true) : ∃ l p t p2 x q pos, e = .Call (.Name l p) [.Call (.Name t p2) [x] [] q] [] pos ∧ decide (l = ("list" : Str)) = true ∧ decide (t = ("range" : Str)) = true ∧ glOk sc l = true ∧ glOk sc t = true ∧ (!isStar x) = true ∧ chE N nm sc a x = true := by
  cases e <;> first | (cases h; done) | skip
  rename_i w1 w2 w3 w4
  cases w1 <;> first | (cases h; done) | skip
  rename_i w5 w6
  cases w2 <;> first | (cases h; done) | skip
  rename_i w7 w8
  cases w7 <;> first | (cases h; done) | skip
  rename_i w9 w10 w11 w12
  cases w9 <;> first | (cases h; done) | skip
  rename_i w13 w14
  cases w10 <;> first | (cases h; done) | skip
  rename_i w15 w16
  cases w16 <;> first | (cases h; done) | skip
  cases w11 <;> first | (cases h; done) | skip
  cases w8 <;> first | (cases h; done) | skip
  cases w3 <;> first | (cases h; done) | skip
  obtain ⟨h, h5⟩ := and2 h
  obtain ⟨h, h4⟩ := and2 h
  obtain ⟨h, h3⟩ := and2 h
  obtain ⟨h, h2⟩ := and2 h
  obtain ⟨h, h1⟩ := and2 h
  exact ⟨_, _, _, _, _, _, _, rfl, h, h1, h2, h3, h4, h5⟩
theorem i_rvs {a : Ex} (h : chE N nm sc (.rvs a) e = true) : ∃ x i k p1 p2 p3 p, e = .Subscript x (.Slice none none (some (.UnaryOp .USub (.Constant (.int i) k p1) p2)) p3) p ∧ decide (i = 1) = true ∧ chE N nm sc a x = true := by
  cases e <;> first | (cases h; done) | skip
  rename_i w1 w2 w3
  cases w2 <;> first | (cases h; done) | skip
  rename_i w4 w5 w6 w7
  cases w4 <;> first | (cases h; done) | skip
  cases w5 <;> first | (cases h; done) | skip
  cases w6 <;> first | (cases h; done) | skip
  rename_i w8
  cases w8 <;> first | (cases h; done) | skip
  rename_i w9 w10 w11
  cases w9 <;> first | (cases h; done) | skip
  cases w10 <;> first | (cases h; done) | skip
  rename_i w12 w13 w14
  cases w12 <;> first | (cases h; done) | skip
  rename_i w15
  obtain ⟨h, h1⟩ := and2 h
  exact ⟨_, _, _, _, _, _, _, rfl, h, h1⟩
theorem i_dct1 {k v : Ex} (h : chE N nm sc (.dct1 k v) e = true) : ∃ x y p, e = .Dict [some x] [y] p ∧ chE N nm sc k x = true ∧ chE N nm sc v y = true := by
  cases e <;> first | (cases h; done) | skip
  rename_i w1 w2 w3
  cases w1 <;> first | (cases h; done) | skip
  rename_i w4 w5
  cases w4 <;> first | (cases h; done) | skip
  rename_i w6
  cases w5 <;> first | (cases h; done) | skip
  cases w2 <;> first | (cases h; done) | skip
  rename_i w7 w8
  cases w8 <;> first | (cases h; done) | skip
  obtain ⟨h, h1⟩ := and2 h
  exact ⟨_, _, _, rfl, h, h1⟩
theorem i_dct0  (h : chE N nm sc (.dct0) e = true) : ∃ p, e = .Dict [] [] p ∧ True := by
  cases e <;> first | (cases h; done) | skip
  rename_i w1 w2 w3
  cases w1 <;> first | (cases h; done) | skip
  cases w2 <;> first | (cases h; done) | skip
  exact ⟨_, rfl, trivial⟩
theorem i_dct {ks : List Str} {es : Exs} (h : chE N nm sc (.dct ks es) e = true) : ∃ keys vals p, e = .Dict keys vals p ∧ chKs ks keys = true ∧ decide ks.Nodup = true ∧ decide (keys.length = vals.length) = true ∧ decide (0 < keys.length) = true ∧ decide (keys.length ≤ 15) = true ∧ chEs N nm sc es vals = true := by
  cases e <;> first | (cases h; done) | skip
  rename_i w1 w2 w3
  obtain ⟨h, h5⟩ := and2 h
  obtain ⟨h, h4⟩ := and2 h
  obtain ⟨h, h3⟩ := and2 h
  obtain ⟨h, h2⟩ := and2 h
  obtain ⟨h, h1⟩ := and2 h
  exact ⟨_, _, _, rfl, h, h1, h2, h3, h4, h5⟩
theorem i_repl {x : Str} {o : Ex} {y z : Str} (h : chE N nm sc (.repl x o y z) e = true) : ∃ x1 j1 p1 e1 g ap y1 j2 p2 z1 j3 p3 p q, e = .BinOp (.Constant (.str x1) j1 p1) .Add (.Call (.Attribute e1 g ap) [.Constant (.str y1) j2 p2, .Constant (.str z1) j3 p3] [] p) q ∧ decide (x = x1) = true ∧ decide (g = ("replace" : Str)) = true ∧ decide (y = y1) = true ∧ decide (z = z1) = true ∧ (!(y == z)) = true ∧ decide (x.length ≤ 1000) = true ∧ (!isCall0 e1) = true ∧ (ap.endLine == p.line) = true ∧ chE N nm sc o e1 = true := by
  cases e <;> first | (cases h; done) | skip
  rename_i w1 w2 w3 w4
  cases w1 <;> first | (cases h; done) | skip
  rename_i w5 w6 w7
  cases w5 <;> first | (cases h; done) | skip
  rename_i w8
  cases w2 <;> first | (cases h; done) | skip
  cases w3 <;> first | (cases h; done) | skip
  rename_i w9 w10 w11 w12
  cases w9 <;> first | (cases h; done) | skip
  rename_i w13 w14 w15
  cases w10 <;> first | (cases h; done) | skip
  rename_i w16 w17
  cases w16 <;> first | (cases h; done) | skip
  rename_i w18 w19 w20
  cases w18 <;> first | (cases h; done) | skip
  rename_i w21
  cases w17 <;> first | (cases h; done) | skip
  rename_i w22 w23
  cases w22 <;> first | (cases h; done) | skip
  rename_i w24 w25 w26
  cases w24 <;> first | (cases h; done) | skip
  rename_i w27
  cases w23 <;> first | (cases h; done) | skip
  cases w11 <;> first | (cases h; done) | skip
  obtain ⟨h, h8⟩ := and2 h
  obtain ⟨h, h7⟩ := and2 h
  obtain ⟨h, h6⟩ := and2 h
  obtain ⟨h, h5⟩ := and2 h
  obtain ⟨h, h4⟩ := and2 h
  obtain ⟨h, h3⟩ := and2 h
  obtain ⟨h, h2⟩ := and2 h
  obtain ⟨h, h1⟩ := and2 h
  exact ⟨_, _, _, _, _, _, _, _, _, _, _, _, _, _, rfl, h, h1, h2, h3, h4, h5, h6, h7, h8⟩
theorem i_sortm {c m : Str} {id : Nat} {a : Ex} {i : Nat} (h : chE N nm sc (.sortm c m id a i) e = true) : ∃ f p x k y p1 g p2 p3 q, e = .Call (.Name f p) [x] [⟨some k, .Attribute (.Name y p1) g p2, p3⟩] q ∧ decide (f = ("sorted" : Str)) = true ∧ decide (k = ("key" : Str)) = true ∧ decide (g = m) = true ∧ decide (nm id = (c, m)) = true ∧ (!(c == ("" : Str))) = true ∧ (!(PySem.W.copiedNames.contains m)) = true ∧ glOk sc f = true ∧ (!isStar x) = true ∧ chE N nm sc a x = true ∧ locOk N sc i y = true := by
  cases e <;> first | (cases h; done) | skip
  rename_i w1 w2 w3 w4
  cases w1 <;> first | (cases h; done) | skip
  rename_i w5 w6
  cases w2 <;> first | (cases h; done) | skip
  rename_i w7 w8
  cases w8 <;> first | (cases h; done) | skip
  cases w3 <;> first | (cases h; done) | skip
  rename_i w9 w10
  cases w9 <;> first | (cases h; done) | skip
  rename_i w11 w12 w13
  cases w11 <;> first | (cases h; done) | skip
  rename_i w14
  cases w12 <;> first | (cases h; done) | skip
  rename_i w15 w16 w17
  cases w15 <;> first | (cases h; done) | skip
  rename_i w18 w19
  cases w10 <;> first | (cases h; done) | skip
  obtain ⟨h, h9⟩ := and2 h
  obtain ⟨h, h8⟩ := and2 h
  obtain ⟨h, h7⟩ := and2 h
  obtain ⟨h, h6⟩ := and2 h
  obtain ⟨h, h5⟩ := and2 h
  obtain ⟨h, h4⟩ := and2 h
  obtain ⟨h, h3⟩ := and2 h
  obtain ⟨h, h2⟩ := and2 h
  obtain ⟨h, h1⟩ := and2 h
  exact ⟨_, _, _, _, _, _, _, _, _, _, rfl, h, h1, h2, h3, h4, h5, h6, h7, h8, h9⟩
theorem i_lc {it : Ix} {j : Nat} {tt : Tx} {te : Ex} (h : chE N nm sc (.lc it j tt te) e = true) : ∃ elt x p iter ifs scope q, e = .ListComp elt [⟨.Name x p, iter, ifs, 0⟩] scope q ∧ (!isSet iter) = true ∧ chI N nm sc it iter = true ∧ blkC N sc scope [(x, j)] = true ∧ decide (N[j]? = some x) = true ∧ (decide ((relS scope sc).names.lookup x = some .local) || (decide ((relS scope sc).names.lookup x = some .cell) && (scope.names.lookup x == some .cell))) = true ∧ (match ifs with | [] => isYes tt | [c] => chT N nm (relS scope sc) tt c | _ => false) = true ∧ chE N nm (relS scope sc) te elt = true := by
  cases e <;> first | (cases h; done) | skip
  rename_i w1 w2 w3 w4
  cases w2 <;> first | (cases h; done) | skip
  rename_i w5 w6
  cases w5 <;> first | (cases h; done) | skip
  rename_i w7 w8 w9 w10
  cases w7 <;> first | (cases h; done) | skip
  rename_i w11 w12
  cases w10 <;> first | (cases h; done) | skip
  rename_i w13
  cases w13 <;> first | (cases h; done) | skip
  cases w6 <;> first | (cases h; done) | skip
  obtain ⟨h, h6⟩ := and2 h
  obtain ⟨h, h5⟩ := and2 h
  obtain ⟨h, h4⟩ := and2 h
  obtain ⟨h, h3⟩ := and2 h
  obtain ⟨h, h2⟩ := and2 h
  obtain ⟨h, h1⟩ := and2 h
  exact ⟨_, _, _, _, _, _, _, rfl, h, h1, h2, h3, h4, h5, h6⟩
theorem i_lcp {it : Ix} {j1 j2 : Nat} {te : Ex} (h : chE N nm sc (.lcp it j1 j2 te) e = true) : ∃ elt x px y py k pt iter scope q, e = .ListComp elt [⟨.Tuple [.Name x px, .Name y py] k pt, iter, [], 0⟩] scope q ∧ (!isSet iter) = true ∧ chI N nm sc it iter = true ∧ blkC N sc scope [(x, j1), (y, j2)] = true ∧ decide (N[j1]? = some x) = true ∧ decide (N[j2]? = some y) = true ∧ decide ((relS scope sc).names.lookup x = some .local) = true ∧ decide ((relS scope sc).names.lookup y = some .local) = true ∧ chE N nm (relS scope sc) te elt = true := by
  cases e <;> first | (cases h; done) | skip
  rename_i w1 w2 w3 w4
  cases w2 <;> first | (cases h; done) | skip
  rename_i w5 w6
  cases w5 <;> first | (cases h; done) | skip
  rename_i w7 w8 w9 w10
  cases w7 <;> first | (cases h; done) | skip
  rename_i w11 w12 w13
  cases w11 <;> first | (cases h; done) | skip
  rename_i w14 w15
  cases w14 <;> first | (cases h; done) | skip
  rename_i w16 w17
  cases w15 <;> first | (cases h; done) | skip
  rename_i w18 w19
  cases w18 <;> first | (cases h; done) | skip
  rename_i w20 w21
  cases w19 <;> first | (cases h; done) | skip
  cases w9 <;> first | (cases h; done) | skip
  cases w10 <;> first | (cases h; done) | skip
  rename_i w22
  cases w22 <;> first | (cases h; done) | skip
  cases w6 <;> first | (cases h; done) | skip
  obtain ⟨h, h7⟩ := and2 h
  obtain ⟨h, h6⟩ := and2 h
  obtain ⟨h, h5⟩ := and2 h
  obtain ⟨h, h4⟩ := and2 h
  obtain ⟨h, h3⟩ := and2 h
  obtain ⟨h, h2⟩ := and2 h
  obtain ⟨h, h1⟩ := and2 h
  exact ⟨_, _, _, _, _, _, _, _, _, _, rfl, h, h1, h2, h3, h4, h5, h6, h7⟩
theorem i_tval {a : Ex} (h : chT N nm sc (.val a) e = true) : (!isTest e) = true ∧ chE N nm sc a e = true := by
  exact and2 h
theorem i_tcmp {o : Co} {a b : Ex} (h : chT N nm sc (.cmp o a b) e = true) : ∃ x p y q, e = .Compare x [p] [y] q ∧ okC o p = true ∧ (!isSet y) = true ∧ chE N nm sc a x = true ∧ chE N nm sc b y = true := by
  cases e <;> first | (cases h; done) | skip
  rename_i w1 w2 w3 w4
  cases w2 <;> first | (cases h; done) | skip
  rename_i w5 w6
  cases w6 <;> first | (cases h; done) | skip
  cases w3 <;> first | (cases h; done) | skip
  rename_i w7 w8
  cases w8 <;> first | (cases h; done) | skip
  obtain ⟨h, h3⟩ := and2 h
  obtain ⟨h, h2⟩ := and2 h
  obtain ⟨h, h1⟩ := and2 h
  exact ⟨_, _, _, _, rfl, h, h1, h2, h3⟩
theorem i_tand {ts : Txs} (h : chT N nm sc (.bool true ts) e = true) : ∃ xs q, e = .BoolOp .And xs q ∧ chTs N nm sc ts xs = true ∧ (!xs.isEmpty) = true := by
  cases e <;> first | (cases h; done) | skip
  rename_i w1 w2 w3
  cases w1 <;> first | (cases h; done) | skip
  obtain ⟨h, h1⟩ := and2 h
  exact ⟨_, _, rfl, h, h1⟩
theorem i_tor {ts : Txs} (h : chT N nm sc (.bool false ts) e = true) : ∃ xs q, e = .BoolOp .Or xs q ∧ chTs N nm sc ts xs = true ∧ (!xs.isEmpty) = true := by
  cases e <;> first | (cases h; done) | skip
  rename_i w1 w2 w3
  cases w1 <;> first | (cases h; done) | skip
  obtain ⟨h, h1⟩ := and2 h
  exact ⟨_, _, rfl, h, h1⟩
theorem i_tchain {o o2 : Co} {a b c : Ex} (h : chT N nm sc (.chain o o2 a b c) e = true) : ∃ x p p2 y z q, e = .Compare x [p, p2] [y, z] q ∧ okC o p = true ∧ okC o2 p2 = true ∧ (!isSet y) = true ∧ (!isSet z) = true ∧ chE N nm sc a x = true ∧ chE N nm sc b y = true ∧ chE N nm sc c z = true := by
  cases e <;> first | (cases h; done) | skip
  rename_i w1 w2 w3 w4
  cases w2 <;> first | (cases h; done) | skip
  rename_i w5 w6
  cases w6 <;> first | (cases h; done) | skip
  rename_i w7 w8
  cases w8 <;> first | (cases h; done) | skip
  cases w3 <;> first | (cases h; done) | skip
  rename_i w9 w10
  cases w10 <;> first | (cases h; done) | skip
  rename_i w11 w12
  cases w12 <;> first | (cases h; done) | skip
  obtain ⟨h, h6⟩ := and2 h
  obtain ⟨h, h5⟩ := and2 h
  obtain ⟨h, h4⟩ := and2 h
  obtain ⟨h, h3⟩ := and2 h
  obtain ⟨h, h2⟩ := and2 h
  obtain ⟨h, h1⟩ := and2 h
  exact ⟨_, _, _, _, _, _, rfl, h, h1, h2, h3, h4, h5, h6⟩
theorem i_tnot {t : Tx} (h : chT N nm sc (.not_ t) e = true) : ∃ x q, e = .UnaryOp .Not x q ∧ chT N nm sc t x = true := by
  cases e <;> first | (cases h; done) | skip
  rename_i w1 w2 w3
  cases w1 <;> first | (cases h; done) | skip
  exact ⟨_, _, rfl, h⟩
theorem i_rng {es : Exs} (h : chI N nm sc (.rng es) e = true) : ∃ p xs q, e = .Call (.Name "range" p) xs [] q ∧ glOk sc "range" = true ∧ decide (0 < es.len ∧ es.len ≤ 3) = true ∧ chEs N nm sc es xs = true := by
  cases e <;> first | (cases h; done) | skip
  rename_i w1 w2 w3 w4
  cases w1 <;> first | (cases h; done) | skip
  rename_i w5 w6
  cases w3 <;> first | (cases h; done) | skip
  obtain ⟨h, h3⟩ := and2 h
  obtain ⟨h, h2⟩ := and2 h
  obtain ⟨h, h1⟩ := and2 h
  have h := of_decide_eq_true h
  subst h
  exact ⟨_, _, _, rfl, h1, h2, h3⟩
theorem i_gname {i : Nat} (h : chG N nm sc (.name i) e = true) : ∃ x p, e = .Name x p ∧ decide (N[i]? = some x) = true ∧ (decide (sc.names.lookup x = some .local) || decide (sc.names.lookup x = some .cell)) = true := by
  cases e <;> first | (cases h; done) | skip
  rename_i w1 w2
  obtain ⟨h, h1⟩ := and2 h
  exact ⟨_, _, rfl, h, h1⟩
theorem i_gsub {o i : Ex} (h : chG N nm sc (.sub o i) e = true) : ∃ x y q, e = .Subscript x y q ∧ (!isSlice y) = true ∧ chE N nm sc o x = true ∧ chE N nm sc i y = true := by
  cases e <;> first | (cases h; done) | skip
  rename_i w1 w2 w3
  obtain ⟨h, h2⟩ := and2 h
  obtain ⟨h, h1⟩ := and2 h
  exact ⟨_, _, _, rfl, h, h1, h2⟩
theorem i_gfld {o : Ex} {f : Str} (h : chG N nm sc (.fld o f) e = true) : ∃ x q, e = .Attribute x f q ∧ chE N nm sc o x = true := by
  cases e <;> first | (cases h; done) | skip
  rename_i w1 w2 w3
  obtain ⟨h, h1⟩ := and2 h
  have h := of_decide_eq_true h
  subst h
  exact ⟨_, _, rfl, h1⟩
theorem i_or2 {a b : Ex} (h : chE N nm sc (.or2 a b) e = true) : ∃ x y q, e = .BoolOp .Or [x, y] q ∧ chE N nm sc a x = true ∧ chE N nm sc b y = true := by
  cases e <;> first | (cases h; done) | skip
  rename_i w1 w2 w3
  cases w1 <;> first | (cases h; done) | skip
  cases w2 <;> first | (cases h; done) | skip
  rename_i w4 w5
  cases w5 <;> first | (cases h; done) | skip
  rename_i w6 w7
  cases w7 <;> first | (cases h; done) | skip
  obtain ⟨h, h1⟩ := and2 h
  exact ⟨_, _, _, rfl, h, h1⟩
theorem i_gtup {gs : Tgs} (h : chG N nm sc (.tup gs) e = true) : ∃ xs k q, e = .Tuple xs k q ∧ chGs N nm sc gs xs = true := by
  cases e <;> first | (cases h; done) | skip
  rename_i w1 w2 w3
  exact ⟨_, _, _, rfl, h⟩
theorem i_sfld {o : Ex} {f : Str} {a : Ex} (h : chS N nm sc (.fld o f a) st = true) : ∃ x q v r, st = .Assign [.Attribute x f q] v r ∧ (!isComp v) = true ∧ chE N nm sc o x = true ∧ chE N nm sc a v = true := by
  cases st <;> first | (cases h; done) | skip
  rename_i w1 w2 w3
  cases w1 <;> first | (cases h; done) | skip
  rename_i w4 w5
  cases w4 <;> first | (cases h; done) | skip
  rename_i w6 w7 w8
  cases w5 <;> first | (cases h; done) | skip
  obtain ⟨h, h3⟩ := and2 h
  obtain ⟨h, h2⟩ := and2 h
  obtain ⟨h, h1⟩ := and2 h
  have h := of_decide_eq_true h
  subst h
  exact ⟨_, _, _, _, rfl, h1, h2, h3⟩
theorem i_sdrop {a : Ex} (h : chS N nm sc (.drop a) st = true) : ∃ v r, st = .Expr v r ∧ (!isComp v) = true ∧ chE N nm sc a v = true := by
  cases st <;> first | (cases h; done) | skip
  rename_i w1 w2
  obtain ⟨h, h1⟩ := and2 h
  exact ⟨_, _, rfl, h, h1⟩
theorem i_sret {a : Ex} (h : chS N nm sc (.ret a) st = true) : ∃ v r, st = .Return (some v) r ∧ chE N nm sc a v = true := by
  cases st <;> first | (cases h; done) | skip
  rename_i w1 w2
  cases w1 <;> first | (cases h; done) | skip
  rename_i w3
  exact ⟨_, _, rfl, h⟩
theorem i_siteV {c : Cv} {o : Co} {b : Ex} {x y : Stms} (h : chS N nm sc (.iteV c o b x y) st = true) : ∃ z p w q s t r, st = .If (.Compare z [p] [w] q) s t r ∧ chCV N nm sc c z = true ∧ okC o p = true ∧ (!isSet w) = true ∧ chE N nm sc b w = true ∧ chSs N nm sc x s = true ∧ chSs N nm sc y t = true := by
  cases st <;> first | (cases h; done) | skip
  rename_i w1 w2 w3 w4
  cases w1 <;> first | (cases h; done) | skip
  rename_i w5 w6 w7 w8
  cases w6 <;> first | (cases h; done) | skip
  rename_i w9 w10
  cases w10 <;> first | (cases h; done) | skip
  cases w7 <;> first | (cases h; done) | skip
  rename_i w11 w12
  cases w12 <;> first | (cases h; done) | skip
  obtain ⟨h, h5⟩ := and2 h
  obtain ⟨h, h4⟩ := and2 h
  obtain ⟨h, h3⟩ := and2 h
  obtain ⟨h, h2⟩ := and2 h
  obtain ⟨h, h1⟩ := and2 h
  exact ⟨_, _, _, _, _, _, _, rfl, h, h1, h2, h3, h4, h5⟩
theorem i_sretV {c : Cv} {o : Co} {b : Ex} (h : chS N nm sc (.retV c o b) st = true) : ∃ z p w q r, st = .Return (some (.Compare z [p] [w] q)) r ∧ chCV N nm sc c z = true ∧ okC o p = true ∧ (!isSet w) = true ∧ chE N nm sc b w = true := by
  cases st <;> first | (cases h; done) | skip
  rename_i w1 w2
  cases w1 <;> first | (cases h; done) | skip
  rename_i w3
  cases w3 <;> first | (cases h; done) | skip
  rename_i w5 w6 w7 w8
  cases w6 <;> first | (cases h; done) | skip
  rename_i w9 w10
  cases w10 <;> first | (cases h; done) | skip
  cases w7 <;> first | (cases h; done) | skip
  rename_i w11 w12
  cases w12 <;> first | (cases h; done) | skip
  obtain ⟨h, h3⟩ := and2 h
  obtain ⟨h, h2⟩ := and2 h
  obtain ⟨h, h1⟩ := and2 h
  exact ⟨_, _, _, _, _, rfl, h, h1, h2, h3⟩
theorem i_site {c : Tx} {a b : Stms} (h : chS N nm sc (.ite c a b) st = true) : ∃ z x y r, st = .If z x y r ∧ chT N nm sc c z = true ∧ chSs N nm sc a x = true ∧ chSs N nm sc b y = true := by
  cases st <;> first | (cases h; done) | skip
  rename_i w1 w2 w3 w4
  obtain ⟨h, h2⟩ := and2 h
  obtain ⟨h, h1⟩ := and2 h
  exact ⟨_, _, _, _, rfl, h, h1, h2⟩
theorem i_sfor {g : Tg} {it : Ix} {b : Stms} (h : chS N nm sc (.for_ g it b) st = true) : ∃ x y z r, st = .For x y z [] r ∧ (!isSet y) = true ∧ chG N nm sc g x = true ∧ chI N nm sc it y = true ∧ chSs N nm sc b z = true := by
  cases st <;> first | (cases h; done) | skip
  rename_i w1 w2 w3 w4 w5
  cases w4 <;> first | (cases h; done) | skip
  obtain ⟨h, h3⟩ := and2 h
  obtain ⟨h, h2⟩ := and2 h
  obtain ⟨h, h1⟩ := and2 h
  exact ⟨_, _, _, _, rfl, h, h1, h2, h3⟩
theorem i_sforE {g : Tg} {a : Ex} {b : Stms} (h : chS N nm sc (.forE g a b) st = true) : ∃ x f p y q z r, st = .For x (.Call (.Name f p) [y] [] q) z [] r ∧ decide (f = ("enumerate" : Str)) = true ∧ glOk sc f = true ∧ isTup x = true ∧ (!isStar y) = true ∧ chG N nm sc g x = true ∧ chE N nm sc a y = true ∧ chSs N nm sc b z = true := by
  cases st <;> first | (cases h; done) | skip
  rename_i w1 w2 w3 w4 w5
  cases w2 <;> first | (cases h; done) | skip
  rename_i w6 w7 w8 w9
  cases w6 <;> first | (cases h; done) | skip
  rename_i w10 w11
  cases w7 <;> first | (cases h; done) | skip
  rename_i w12 w13
  cases w13 <;> first | (cases h; done) | skip
  cases w8 <;> first | (cases h; done) | skip
  cases w4 <;> first | (cases h; done) | skip
  obtain ⟨h, h6⟩ := and2 h
  obtain ⟨h, h5⟩ := and2 h
  obtain ⟨h, h4⟩ := and2 h
  obtain ⟨h, h3⟩ := and2 h
  obtain ⟨h, h2⟩ := and2 h
  obtain ⟨h, h1⟩ := and2 h
  exact ⟨_, _, _, _, _, _, _, rfl, h, h1, h2, h3, h4, h5, h6⟩
theorem i_stryM {b : Stms} {cs : List Cla} (h : chS N nm sc (.tryM b cs) st = true) : ∃ z hs r, st = .Try z hs [] [] r ∧ (!hs.isEmpty) = true ∧ chCls N sc cs hs = true ∧ chSs N nm sc b z = true := by
  cases st <;> first | (cases h; done) | skip
  rename_i w1 w2 w3 w4 w5
  cases w3 <;> first | (cases h; done) | skip
  cases w4 <;> first | (cases h; done) | skip
  obtain ⟨h, h2⟩ := and2 h
  obtain ⟨h, h1⟩ := and2 h
  exact ⟨_, _, _, rfl, h, h1, h2⟩
theorem i_swhile {c : Tx} {b : Stms} (h : chS N nm sc (.while_ c b) st = true) : ∃ x z r, st = .While x z [] r ∧ chT N nm sc c x = true ∧ chSs N nm sc b z = true := by
  cases st <;> first | (cases h; done) | skip
  rename_i w1 w2 w3 w4
  cases w3 <;> first | (cases h; done) | skip
  obtain ⟨h, h1⟩ := and2 h
  exact ⟨_, _, _, rfl, h, h1⟩
theorem i_sraise {c : Str} (h : chS N nm sc (.raise c) st = true) : ∃ m k p p2 q r, st = .Raise (some (.Call (.Name c p) [.Constant (.str m) k p2] [] q)) none r ∧ glOk sc c = true := by
  cases st <;> first | (cases h; done) | skip
  rename_i w1 w2 w3
  cases w1 <;> first | (cases h; done) | skip
  rename_i w4
  cases w4 <;> first | (cases h; done) | skip
  rename_i w5 w6 w7 w8
  cases w5 <;> first | (cases h; done) | skip
  rename_i w9 w10
  cases w6 <;> first | (cases h; done) | skip
  rename_i w11 w12
  cases w11 <;> first | (cases h; done) | skip
  rename_i w13 w14 w15
  cases w13 <;> first | (cases h; done) | skip
  rename_i w16
  cases w12 <;> first | (cases h; done) | skip
  cases w7 <;> first | (cases h; done) | skip
  cases w2 <;> first | (cases h; done) | skip
  obtain ⟨h, h1⟩ := and2 h
  have h := of_decide_eq_true h
  subst h
  exact ⟨_, _, _, _, _, _, rfl, h1⟩
theorem i_sraiseX {c : Str} {a : Ex} (h : chS N nm sc (.raiseX c a) st = true) : ∃ e p q r, st = .Raise (some (.Call (.Name c p) [e] [] q)) none r ∧ glOk sc c = true ∧ (!isStar e) = true ∧ chE N nm sc a e = true := by
  cases st <;> first | (cases h; done) | skip
  rename_i w1 w2 w3
  cases w1 <;> first | (cases h; done) | skip
  rename_i w4
  cases w4 <;> first | (cases h; done) | skip
  rename_i w5 w6 w7 w8
  cases w5 <;> first | (cases h; done) | skip
  rename_i w9 w10
  cases w6 <;> first | (cases h; done) | skip
  rename_i w11 w12
  cases w12 <;> first | (cases h; done) | skip
  cases w7 <;> first | (cases h; done) | skip
  cases w2 <;> first | (cases h; done) | skip
  obtain ⟨h, h3⟩ := and2 h
  obtain ⟨h, h2⟩ := and2 h
  obtain ⟨h, h1⟩ := and2 h
  have h := of_decide_eq_true h
  subst h
  exact ⟨_, _, _, _, rfl, h1, h2, h3⟩
theorem i_spass  (h : chS N nm sc (.pass) st = true) : ∃ p, st = .Pass p ∧ True := by
  cases st <;> first | (cases h; done) | skip
  rename_i w1
  exact ⟨_, rfl, trivial⟩
theorem i_ssortR {q : Str} {a : Ex} {j : Nat} {te : Ex} (h : chS N nm sc (.sortL none q a j te) st = true) : ∃ v r, st = .Return (some v) r ∧ chLam N nm sc q a j te v = true := by
  cases st <;> first | (cases h; done) | skip
  rename_i w1 w2
  cases w1 <;> first | (cases h; done) | skip
  rename_i w3
  exact ⟨_, _, rfl, h⟩
theorem i_ssortA {i : Nat} {q : Str} {a : Ex} {j : Nat} {te : Ex} (h : chS N nm sc (.sortL (some i) q a j te) st = true) : ∃ x p v r, st = .Assign [.Name x p] v r ∧ decide (N[i]? = some x) = true ∧ (decide (sc.names.lookup x = some .local) || decide (sc.names.lookup x = some .cell)) = true ∧ chLam N nm sc q a j te v = true := by
  cases st <;> first | (cases h; done) | skip
  rename_i w1 w2 w3
  cases w1 <;> first | (cases h; done) | skip
  rename_i w4 w5
  cases w4 <;> first | (cases h; done) | skip
  rename_i w6 w7
  cases w5 <;> first | (cases h; done) | skip
  obtain ⟨h, h2⟩ := and2 h
  obtain ⟨h, h1⟩ := and2 h
  exact ⟨_, _, _, _, rfl, h, h1, h2⟩
end
end DM
set_option Elab.async false
set_option linter.all false
set_option maxRecDepth 100000
namespace DM
open PySem L2 PyProof.Rows
section
variable {G : Gw} {C : Ct} {N : List Str} {nm : Nat → Str × Str} {sc : Scope} {X : Cx} {W : WX}
theorem chEs_star : ∀ {es : Exs} {xs : List Expr}, chEs N nm sc es xs = true → (xs.all fun e => !isStar e) = true ∧ xs.length = es.len
  | .nil, [], _ => ⟨rfl, rfl⟩
  | .cons e es, x :: xs, h => by
    unfold chEs at h
    simp only [Bool.and_eq_true] at h
    obtain ⟨h1, h2⟩ := chEs_star h.2
    exact ⟨by rw [List.all_cons, h.1.1, h1]; rfl, by show xs.length + 1 = es.len + 1; rw [h2]⟩
  | .nil, _ :: _, h => by unfold chEs at h; cases h
  | .cons _ _, [], h => by unfold chEs at h; cases h
theorem ne_empty {α : Type} {xs : List α} (h : (!xs.isEmpty) = true) : xs ≠ [] := fun e => by
  subst e
  cases h
theorem dNo_pe {e : Expr} {L : List Unit} : PE X e (conc G W dNo) := ⟨fun _ _ _ _ _ _ ⟨_, _, _, _, _, _, q, _⟩ => q.elim⟩
theorem sound_lit {l : Lt} {c : Const} {k : Nat} {p : Pos} (h : okL l c = true) : PE X (.Constant c k p) (conc G W (dC l.d)) := by
  cases l <;> cases c <;> first | (cases h; done) | skip
  · have h := of_decide_eq_true h
    subst h
    exact conc_c (fun _ _ => .int _) pe_int
  · have h := (Bool.and_eq_true_iff.mp h)
    have e := of_decide_eq_true h.1
    have z := of_decide_eq_true h.2
    subst e
    exact conc_c (fun _ _ => .str (Nat.le_trans z (by decide))) pe_str
  · have h := of_decide_eq_true h
    subst h
    exact conc_c (fun _ _ => .bl _) pe_bl
  · exact conc_c (fun _ _ => .non) pe_non
theorem sound_neg {a : Expr} {q : Pos} {t : DTE} (h : PE X a (conc G W t)) : PE X (.UnaryOp .USub a q) (conc G W (dNeg t)) :=
  pe_imp (pe_un un_neg h) fun vs H Qv ⟨σ, L, Q, E, S, en, q, k, kx⟩ => conc_bind (R := fun x L1 => oNeg x L1 Q) S en kx q fun v H1 x L1 p1 S1 e1 en1 kx1 q1 => by
    cases e1 <;> first | exact q1.elim | skip
    exact ⟨_, rfl, (k.back p1).here S1 (.int _) q1⟩
theorem boot_tys : (["int", "bool", "str", "list", "tuple"].all fun n => decide (bootBuiltins (Str.ofString n) = some (.type n))) = true := by decide +kernel
theorem sound_ty (ok : COk G C N nm sc X W) {n : String} {p : Pos} (hg : glOk sc n = true) (ht : tyOk n = true) (hm : X.mg (Str.ofString n) = none) : PE X (.Name n p) (conc G W (dC (.ty n))) := by
  have hm2 : n ∈ ["int", "bool", "str", "list", "tuple"] := by
    unfold tyOk at ht
    exact List.contains_iff_mem.mp ht
  obtain ⟨g1, g2, g3⟩ := ok.gl hg
  exact conc_c (fun _ _ => .ty n) (pe_bltn (v := .ty n) g1 hm (of_decide_eq_true (List.all_eq_true.mp boot_tys n hm2)) rfl g3 g2)
theorem mf_facts (hK : X.K = G.K) (hc : X.calm = true) (hu : X.A.units + 65 < cLine) (m : Mf) : ∃ id r, PlainAttrs (mfT m) ∧ Slot (mfT m) (mfName m) id ∧ typeOf (.builtin id) = pure (.type "method_descriptor") ∧ MtR X id r ∧ MtD G (wpMf m) r := by
  cases m
  · exact ⟨_, _, PySem.F.plainAttrs_list, PySem.F.slot_list_append, PySem.F.type_list_append, mt_append, md_append⟩
  · exact ⟨_, _, PySem.F.plainAttrs_list, PySem.F.slot_list_extend, PySem.F.type_list_extend, mt_extend, md_extend⟩
  · exact ⟨_, _, PySem.F.plainAttrs_list, PySem.F.slot_list_pop, PySem.F.type_list_pop, mtR_or mt_pop mt_popAt, md_pop⟩
  · exact ⟨_, _, PySem.F.plainAttrs_list, PySem.F.slot_list_insert, PySem.F.type_list_insert, mt_insert, md_insert⟩
  · exact ⟨_, _, PySem.F.plainAttrs_list, PySem.F.slot_list_reverse, PySem.F.type_list_reverse, mt_reverse, md_reverse⟩
  · exact ⟨_, _, PySem.F.plainAttrs_list, PySem.F.slot_list_clear, PySem.F.type_list_clear, mt_clear, md_clear⟩
  · exact ⟨_, _, PySem.F.plainAttrs_list, PySem.F.slot_list_index, PySem.F.type_list_index, mtR_or mt_index (mt_indexD hu), hK ▸ md_index⟩
  · exact ⟨_, _, PySem.F.plainAttrs_str, PySem.F.slot_str_join, PySem.F.type_str_join, mt_joins hc, hK ▸ md_join⟩
  · exact ⟨_, _, PySem.F.plainAttrs_str, PySem.F.slot_str_split, PySem.F.type_str_split, op_vSplit, md_split⟩
  · exact ⟨_, _, PySem.F.plainAttrs_str, PySem.F.slot_str_partition, PySem.F.type_str_partition, mt_partition, md_part⟩
  · exact ⟨_, _, PySem.F.plainAttrs_str, PySem.F.slot_str_upper, PySem.F.type_str_upper, mt_upper, md_upper⟩
  · exact ⟨_, _, PySem.F.plainAttrs_str, PySem.F.slot_str_startswith, PySem.F.type_str_startswith, mt_startswith, md_starts⟩
  · exact ⟨_, _, PySem.F.plainAttrs_list, PySem.F.slot_list_remove, PySem.F.type_list_remove, mt_removeD hu, hK ▸ md_remove⟩
  · exact ⟨_, _, PySem.F.plainAttrs_list, PySem.F.slot_list_count, PySem.F.type_list_count, mt_cntD hu, hK ▸ md_count⟩
theorem sound_mf (hK : X.K = G.K) (hc : X.calm = true) (hu : X.A.units + 65 < cLine) {m : Mf} {o : Expr} {xs : List Expr} {ap p : Pos} {to : DTE} {t : DTA} (ho : PE X o (conc G W to)) (ha : PA X xs (concA G W t)) (h0 : (!isCall0 o) = true) (hl : (ap.endLine == p.line) = true) (hx : xs.length < 19)
    (hs : (xs.all fun e => !isStar e) = true) (ht : xs = [] → t = dNil) : PE X (.Call (.Attribute o (mfName m) ap) xs [] p) (conc G W (dBM (mfT m) (wpMf m) to t)) := by
  have hb : attributeBase o (mfName m) X.env (eval o X.env) = eval o X.env := base_of (by simpa using h0)
  obtain ⟨id, r, h1, h2, h3, h4, h5⟩ := mf_facts (G := G) hK hc hu m
  match xs, ha, hs, hx, ht with
  | [], ha, hs, hx, ht =>
    rw [ht rfl]
    exact conc_bm0 h5 (hK ▸ pe_bm0 h1 h2 h3 h4 ho hb hl)
  | e :: es, ha, hs, hx, ht =>
    have hs' := hs
    rw [List.all_cons, Bool.and_eq_true] at hs'
    exact conc_bm h5 (hK ▸ pe_bm h1 h2 h3 h4 ho ha hb (few_of hs (by omega)) hl (star_cons (by simpa using hs'.1)) (star_none hs'.2))
end
end DM
namespace DM
open PySem L2
section
set_option Elab.async false
set_option linter.all false
set_option maxRecDepth 100000
open PySem L2 PyProof.Rows
variable {G : Gw} {C : Ct} {N : List Str} {nm : Nat → Str × Str} {sc : Scope} {X : Cx} {W : WX}
theorem sound_callv (ok : COk G C N nm sc X W) {i : Nat} {x : Str} {xs : List Expr} {t : DTA} {p q : Pos} (h : locOk N sc i x = true) (hx : xs ≠ []) (hs : (xs.all fun e => !isStar e) = true) (ha : PA X xs (concA G W t)) :
    PE X (.Call (.Name x p) xs [] q) (conc G W (dCallV C.lam i t)) := by
  match xs, hx, hs, ha with
  | e :: es, _, hs, ha =>
  rw [List.all_cons, Bool.and_eq_true] at hs
  unfold locOk at h
  simp only [Bool.and_eq_true, Bool.or_eq_true, decide_eq_true_eq] at h
  obtain ⟨⟨⟨h1, h2⟩, h3⟩, h4⟩ := h
  refine pe_imp (pe_callV (CX := L2N.CX X.prog X.w) (E := WE W) (i := i) (by rw [ok.hN]; exact h1) (by unfold Vis; rw [ok.sc]; exact or_assoc.mp h4) (by simpa using h2) (by simpa using h3) ok.g.unseen (fun σ => L2N.passAt ok.tk σ) ha (star_cons (by simpa using hs.1)) (star_none hs.2))
    fun vs H Qv ⟨σ, L, Q, E, S, en, ⟨k, n, sp, hv, hl, q1⟩, kd, kx⟩ => ?_
  obtain ⟨u, hu, eu⟩ := en.2 _ _ hv
  obtain ⟨j, LG, hr⟩ := ok.g.lam k n sp hl
  rw [← ok.hK] at LG
  cases eu with
  | @lam a c' _ F hF nO nO' hf hc =>
    refine ⟨a, c', F, j, n, spOf G n sp, hu, LG F hF, hr, hf, ?_⟩
    refine conc_bindA (R := fun xs L1 => xs.length = n ∧ sp xs L1 (Cl Q) (ClX (E σ))) S en kx q1 fun us H1 ys L1 p S1 e1 en1 kx1 ⟨hn, q2⟩ => ?_
    exact ⟨(p.keep hf nO (by intro _ z; unfold LamD.O at z; cases z)).1, (p.keep hc nO' (fun _ => LamX.codeO_ne _)).1, by rw [e1.len]; exact hn, ys, L1, Cl Q, ClX (E σ), hn, S1, e1, Cl.up, ClX.up, q2, (kd.back p).cl, ke_of en1 kx1⟩
end
end DM
set_option Elab.async false
set_option linter.all false
set_option maxRecDepth 100000
namespace DM
open PySem L2 PyProof.Rows
section
variable {G : Gw} {C : Ct} {N : List Str} {nm : Nat → Str × Str}
theorem lm_chain {p p2 : CmpOp} {y z : Expr} (h1 : (!isSet y) = true) (h2 : (!isSet z) = true) : lastMarks [p, p2] [y, z] = false := by
  cases z <;> first | rfl | (simp [isSet] at h2; done) | (cases y <;> first | rfl | (simp [isSet] at h1; done))
theorem sound_call {sc : Scope} {X : Cx} {W : WX} (ok : COk G C N nm sc X W) {x : Str} {p q : Pos} {xs : List Expr} {k : Nat} {t : DTA} (hg : glOk sc x = true) (hs : (xs.all fun e => !isStar e) = true) (ha : PA X xs (concA G W t)) (h0 : xs = [] → t = dNil) {n : Nat} {sp : DSp} {dv : List D} {id : Nat} (hi : decide (nm id = (("" : Str), x)) = true) (hf : C.fn id k = some (n, sp, dv)) :
    PE X (.Call (.Name x p) xs [] q) (conc G W (dCall n sp dv t)) := by
  obtain ⟨j, f, fd, ps, ds, dvs, h2, h3, h4, h5, h6, h7', hx1, _, _⟩ := ok.g.fn id k n sp dv hf
  have h1 := hx1 x (of_decide_eq_true hi)
  have h7 := h7'.mono (Nat.le_succ j)
  obtain ⟨g1, g2, g3⟩ := ok.gl hg
  have hK := ok.hK
  rw [← hK] at h2 h3 h4
  match xs, hs, ha, h0 with
  | [], hs, ha, h0 =>
    rw [h0 rfl]
    refine ce_call h6 (pe_imp (t := tCallSD (spOf G n sp) dvs (WE W) tNil) ⟨fun pins s σ H Q I h => ?_⟩ fun vs H Q ⟨σ, L, Q1, E, S, en, q1, k1, kx⟩ => k1 [] H [] L (Pers.refl _ _) S .nil q1)
    exact wpAny_Call_Name_kw (ld_glob I g1 h1 (PySem.W.callWith_K0 I.kIn h2 (FnQ.here (E := WE W) (us := []) (vs := []) h3 ok.g.unseen h7 h4 h5 (L2N.passAt ok.tk σ) I .nil h)) g2)
  | e :: es, hs, ha, h0 =>
    rw [List.all_cons, Bool.and_eq_true] at hs
    exact ce_call h6 (pe_callQ h3 ok.g.unseen h7 g1 h1 h2 h4 h5 (fun σ => L2N.passAt ok.tk σ) ha g2 (star_cons (by simpa using hs.1)) (star_none hs.2))
theorem sound_make {sc : Scope} {X : Cx} {W : WX} (ok : COk G C N nm sc X W) {x : Str} {p q : Pos} {xs : List Expr} {k : Nat} {t : DTA} (hg : glOk sc x = true) (hx : xs ≠ []) (hs : (xs.all fun e => !isStar e) = true) (ha : PA X xs (concA G W t)) {n : Nat} {sp : DSp} {dv : List D} {id : Nat} (hi : decide (nm id = (x, ("__init__" : Str))) = true) (hf : C.fn id k = some (n, sp, dv)) :
    PE X (.Call (.Name x p) xs [] q) (conc G W (dMake x n sp dv t)) := by
  obtain ⟨j, f, fd, ps, ds, dvs, _, h4, h5, h6, h7, h8, _, hx1, _⟩ := ok.g.fn id k n sp dv hf
  obtain ⟨c, h1, h2, h3⟩ := hx1 x (of_decide_eq_true hi)
  obtain ⟨g1, g2, g3⟩ := ok.gl hg
  have hK := ok.hK
  rw [← hK] at h3 h4 h5
  match xs, hs, ha, hx with
  | e :: es, hs, ha, _ => exact ce_make h2 h7 (pe_makeX h3 h4 ok.g.unseen h8 g1 h1 h5 h6 (fun σ => L2N.passAt ok.tk σ) ha g2 hs)
theorem sound_meth {sc : Scope} {X : Cx} {W : WX} (ok : COk G C N nm sc X W) {c m : Str} {o : Expr} {ap p : Pos} {xs : List Expr} {k : Nat} {to : DTE} {t : DTA} (h0 : (!isCall0 o) = true) (hl : (ap.endLine == p.line) = true) (hz : xs.length < 19) (hs : (xs.all fun e => !isStar e) = true)
    (ho : PE X o (conc G W to)) (ha : PA X xs (concA G W t)) (hn : xs = [] → t = dNil) {n : Nat} {sp : DSp} {dv : List D} {id : Nat} (hi : decide (nm id = (c, m)) = true) (hc0 : c ≠ "") (hf : C.fn id k = some (n, sp, dv)) : PE X (.Call (.Attribute o m ap) xs [] p) (conc G W (dMeth c m n sp dv to t)) := by
  obtain ⟨j, f, fd, ps, ds, dvs, _, h4, h5, h6, h7, h8', _, _, hx1⟩ := ok.g.fn id k n sp dv hf
  obtain ⟨a, h1, h2, h3⟩ := hx1 c m (of_decide_eq_true hi) hc0
  have h8 := h8'.mono (Nat.le_succ j)
  have hK := ok.hK
  rw [← hK] at h2 h3 h4 h5
  have h0' : isCall0 o = false := by simpa using h0
  match xs, hs, ha, hn, hz with
  | [], hs, ha, hn, hz =>
    rw [hn rfl]
    exact ce_meth h1 h7 (pe_imp (pe_methX0 ho h2 h3 h4 ok.g.unseen h8 h5 h6 (fun σ => L2N.passAt ok.tk σ) h0' hl) fun vs H Q ⟨σ, L, Q1, E, S, en, q1, k1, kx⟩ => ⟨σ, L, Q1, E, S, en, q1, fun v H' d L' pp S' e' q' => by
      obtain ⟨a1, dx, fs, e1, e2, e3, σ2, L2, Q2, E2, S2, en2, q2, k2, kx2⟩ := k1 v H' d L' pp S' e' q'
      exact ⟨a1, dx, fs, e1, e2, e3, k2 [] H' [] L2 (Pers.refl _ _) S2 .nil q2⟩, kx⟩)
  | e :: es, hs, ha, hn, hz => exact ce_meth h1 h7 (pe_methX ho h2 h3 h4 ok.g.unseen h8 h5 h6 (fun σ => L2N.passAt ok.tk σ) ha h0' hs (by omega) hl)
theorem sound_sortm {sc : Scope} {X : Cx} {W : WX} (ok : COk G C N nm sc X W) {c m : Str} {e o : Expr} {p ap kp q : Pos} {ta to : DTE} (hg : glOk sc "sorted" = true) (hs : (!isStar e) = true) (he : PE X e (conc G W ta)) (ho : PE X o (conc G W to)) (h0 : isCall0 o = false)
    {n : Nat} {sp : DSp} {dv : List D} {id : Nat} (hi : decide (nm id = (c, m)) = true) (hc0 : c ≠ "") (cp : PySem.W.copiedNames.contains m = false) (hf : C.fn id 1 = some (n, sp, dv)) :
    PE X (.Call (.Name "sorted" p) [e] [⟨some "key", .Attribute o m ap, kp⟩] q) (conc G W (dSortB c m n sp dv ta to)) := by
  obtain ⟨j, f, fd, ps, ds, dvs, _, h4, h5, h6, h7, h8', _, _, hx1⟩ := ok.g.fn id 1 n sp dv hf
  obtain ⟨a, h1, h2, h3⟩ := hx1 c m (of_decide_eq_true hi) hc0
  have hK := ok.hK
  rw [← hK] at h2 h3 h4 h5
  have hs1 : ([e].all fun e => !isStar e) = true := by
    rw [List.all_cons, hs]
    rfl
  have hs2 : (([] : List Expr).all fun e => !isStar e) = true := rfl
  obtain ⟨g1, g2, g3⟩ := ok.gl hg
  have hr2 : Room j X.A.in1.in1 := ⟨h8'.hd, by have := h8'.dp; show X.A.depth + 3 * j + 5 < _; omega, by have := h8'.un; show X.A.units + 1 + 1 + 16 * j + 200 < _; omega⟩
  refine ce_sortB (g := f) h1 hK h7 (pe_callBK (cr_sortB (CX := L2N.CX X.prog X.w) (fun s H us vs Q E e0 r h => ?_) ok.hu fun outer H s e s' z => ?_) g1 (ok.g.free .sorted) (show bootBuiltins "sorted" = some (.builtin "sorted") by decide +kernel) (pa_cons he pa_nil (star_cons (by simpa using hs))) (pk_cons (pe_bnd ho h2 h3 cp (base_of h0)) pk_nil) g3 g2
    (by rw [star_cons (by simpa using hs)]; rfl) (by rw [star_cons (by simpa using hs)]; rfl))
  · have r2 : Vals (vs ++ dvs) (us ++ ds) := r.append h6
    have hl : (us ++ ds).length = ps.length := by rw [← r2.length]; exact h4.arity h
    exact h4.does (args := ⟨us, []⟩) ok.g.unseen hr2 h r2 (h5 s us (e0.mod.kin.keeps fun b o e => (e0.bs b o e).1) hl) e0
  · obtain ⟨_, _, _, _, _, _, _, _, _, _, _, _, w⟩ := z
    exact w
theorem nil_of {sc : Scope} {es : Exs} {xs : List Expr} (h : chEs N nm sc es xs = true) (e : xs = []) : wpA C es = dNil := by
  subst e
  cases es with
  | nil => unfold wpA; rfl
  | cons a b => unfold chEs at h; cases h
theorem op_imp {W : WX} {da db : DTE} {R : D → D → HL → Qd → Prop} {r : R2} (hr : OpD G R r) : ∀ vs H Qv, conc G W (dOp R da db) vs H Qv → tOp r (conc G W da) (conc G W db) vs H Qv :=
  fun vs H Qv ⟨σ, L, Q, E, S, en, q, k, kx⟩ => conc_bind (R := fun x L1 => db σ L1 (fun y L2 => R x y L2 Q) E) S en kx q fun v H1 x L1 p S1 e1 en1 kx1 q1 => conc_bind (R := fun y L2 => R x y L2 Q) S1 en1 kx1 q1 fun u H2 y L2 p2 S2 e2 en2 kx2 q2 =>
    hr S2 (e1.pers p2) e2 ((k.back p).back p2) q2
theorem pts_imp {X : Cx} {ifs : List Expr} {t t' : TT} (h : PTs X ifs t) (f : ∀ vs H Q, t' vs H Q → t vs H Q) : PTs X ifs t' := ⟨fun pins s σ H Q I q => h.run pins s σ H Q I (f _ _ _ q)⟩
theorem sound_ifs {X : Cx} {W : WX} {sc : Scope} {tt : Tx} {ifs : List Expr} (f : ∀ {c : Expr}, chT N nm sc tt c = true → PT X c (concT G W (wpT C tt))) (h : (match ifs with | [] => isYes tt | [c] => chT N nm sc tt c | _ => false) = true) : PTs X ifs (concT G W (wpT C tt)) := by
  match ifs, h with
  | [], h =>
    cases tt <;> first | (cases h; done) | skip
    exact pts_imp pts_nil fun vs H Qv ⟨σ, L, Q, E, S, en, q, k, kx⟩ => k.here S (by unfold wpT at q; exact q)
  | [c], h => exact pts_one (f h)
theorem sound_target {sc scope : Scope} {X : Cx} {W : WX} (ok : COk G C N nm sc X W) {x : Str} {j : Nat} {p : Pos} {s : Shared} {H : Hp} {Ca : Addr} {cl : List (Str × Addr)} {fp : List Addr} (hj : N[j]? = some x)
    (h : (decide ((relS scope sc).names.lookup x = some .local) || (decide ((relS scope sc).names.lookup x = some .cell) && (scope.names.lookup x == some .cell))) = true) :
    PG (X.blk s H scope (compEnvC scope cl Ca X.env) fp) (.Name x p) (gName j) := by
  have e : (compEnvC scope cl Ca X.env).scope = relS scope sc := by rw [← ok.sc]; rfl
  refine pg_name (by show X.N.Nodup; rw [ok.hN]; exact ok.nd) (by show X.N[j]? = _; rw [ok.hN]; exact hj) ?_ ?_
  · show Loc (compEnvC scope cl Ca X.env).scope x
    rw [e]
    simp only [Bool.or_eq_true, Bool.and_eq_true, decide_eq_true_eq] at h
    exact h.imp id fun q => q.1
  · show (scope.names.lookup x == some .cell) = true ∨ (compEnvC scope cl Ca X.env).scope.names.lookup x = some .local
    rw [e]
    simp only [Bool.or_eq_true, Bool.and_eq_true, decide_eq_true_eq] at h
    exact h.elim .inr fun q => .inl q.2
theorem chKs_inv {k : Str} {ks : List Str} {ke : Option Expr} {keys : List (Option Expr)} (h : chKs (k :: ks) (ke :: keys) = true) : ∃ j p, ke = some (.Constant (.str k) j p) ∧ chKs ks keys = true := by
  unfold chKs at h
  split at h
  · rename_i e1 e2; cases e1
  · rename_i e1 e2
    cases e1
    cases e2
    rw [Bool.and_eq_true] at h
    obtain ⟨h1, h2⟩ := h
    have h1 := of_decide_eq_true h1
    subst h1
    exact ⟨_, _, rfl, h2⟩
  · cases h
theorem chKs_len : ∀ {ks : List Str} {keys : List (Option Expr)}, chKs ks keys = true → ks.length = keys.length
  | [], [], _ => rfl
  | k :: ks, x :: r, h => by
    obtain ⟨_, _, _, h2⟩ := chKs_inv h
    exact congrArg (· + 1) (chKs_len h2)
  | [], _ :: _, h => by unfold chKs at h; cases h
  | _ :: _, [], h => by unfold chKs at h; cases h
theorem chKs_some : ∀ {ks : List Str} {keys : List (Option Expr)}, chKs ks keys = true → keys.all (·.isSome) = true
  | [], [], _ => rfl
  | k :: ks, x :: r, h => by
    obtain ⟨_, _, rfl, h2⟩ := chKs_inv h
    rw [List.all_cons, chKs_some h2]
    rfl
  | [], _ :: _, h => by unfold chKs at h; cases h
  | _ :: _, [], h => by unfold chKs at h; cases h
mutual
theorem sE : ∀ (ir : Ex) {sc : Scope} {X : Cx} {W : WX}, COk G C N nm sc X W → ∀ {e : Expr}, chE N nm sc ir e = true → PE X e (conc G W (wpE C ir))
  | .var i, sc, X, W, ok, e, h => by
    obtain ⟨x, p, rfl, h1⟩ := i_var h
    exact conc_var (ok.var h1)
  | .lit l, sc, X, W, ok, e, h => by
    obtain ⟨c, k, p, rfl, h1⟩ := i_lit h
    exact sound_lit h1
  | .glb x, sc, X, W, ok, e, h => by
    obtain ⟨p, rfl, h1⟩ := i_glb h
    obtain ⟨g1, g2, g3⟩ := ok.gl h1
    unfold wpE
    split
    · rename_i d hd
      obtain ⟨u, v, q1, q2, q3⟩ := ok.g.con x d hd
      exact conc_c q3 (pe_glob g1 q1 q2 g2)
    · exact dNo_pe (L := [])
  | .ty n, sc, X, W, ok, e, h => by
    obtain ⟨p, rfl, h1, h2⟩ := i_ty h
    refine sound_ty ok h1 h2 ?_
    unfold tyOk at h2
    have hm := List.contains_iff_mem.mp h2
    simp only [List.mem_cons, List.not_mem_nil, or_false] at hm
    rcases hm with rfl | rfl | rfl | rfl | rfl
    · exact ok.g.free .int
    · exact ok.g.bool
    · exact ok.g.free .str
    · exact ok.g.free .list
    · exact ok.g.free .tuple
  | .bin o a b, sc, X, W, ok, e, h => by
    obtain ⟨x, p, y, q, rfl, h1, h2, h3⟩ := i_bin h
    obtain ⟨r, q1, q2⟩ := sound_bo ok.hK h1
    exact conc_op q2 (pe_op q1 (sE a ok h2) (sE b ok h3))
  | .neg a, sc, X, W, ok, e, h => by
    obtain ⟨x, q, rfl, h1⟩ := i_neg h
    exact sound_neg (sE a ok h1)
  | .cmp o a b, sc, X, W, ok, e, h => by
    obtain ⟨x, p, y, q, rfl, h1, h2, h3, h4⟩ := i_cmp h
    obtain ⟨r, q1, q2⟩ := sound_co ok.hK ok.hu h1
    exact conc_op q2 (pe_cmpR q1 (sE a ok h3) (sE b ok h4) (nomk h2))
  | .bool true es, sc, X, W, ok, e, h => by
    obtain ⟨xs, q, rfl, h1, h2⟩ := i_and h
    exact sBa es ok h1 (ne_empty h2)
  | .bool false es, sc, X, W, ok, e, h => by
    obtain ⟨xs, q, rfl, h1, h2⟩ := i_or h
    exact sBo es ok h1 (ne_empty h2)
  | .not_ a, sc, X, W, ok, e, h => by
    obtain ⟨x, q, rfl, h1⟩ := i_not h
    exact ce_not (pe_not (sE a ok h1))
  | .ite c a b, sc, X, W, ok, e, h => by
    obtain ⟨z, x, y, q, rfl, h1, h2, h3⟩ := i_ite h
    exact ce_ite (pe_ifExp (sT c ok h1) (sE a ok h2) (sE b ok h3))
  | .idx a b, sc, X, W, ok, e, h => by
    obtain ⟨x, y, q, rfl, h1, h2, h3⟩ := i_idx h
    exact conc_op od_ix (ok.hK ▸ pe_ix ix_seq (sE a ok h2) (sE b ok h3) (plain_ix h1))
  | .get a f, sc, X, W, ok, e, h => by
    obtain ⟨x, k, p, q, rfl, h1⟩ := i_get h
    exact conc_get (pe_dget (by have := ok.hu; omega) (sE a ok h1) pe_str (fun _ _ => rfl))
  | .slc a lo hi, sc, X, W, ok, e, h => by
    obtain ⟨x, l, u, p, q, rfl, h1, h2, h3⟩ := i_slc h
    exact conc_sl (ok.hK ▸ pe_slice sl_v (sE a ok h1) (sO lo ok h2) (sO hi ok h3))
  | .fld a f, sc, X, W, ok, e, h => by
    obtain ⟨x, q, rfl, h1, h2⟩ := i_fld h
    exact conc_fld ok.g.fds (ok.hK ▸ pe_fld (sE a ok h2) (base_of (by simpa using h1)))
  | .tup es, sc, X, W, ok, e, h => by
    obtain ⟨xs, k, q, rfl, h1⟩ := i_tup h
    exact conc_tup (pe_tup (sA es ok h1))
  | .lst es, sc, X, W, ok, e, h => by
    obtain ⟨xs, q, rfl, h1⟩ := i_lst h
    exact conc_lst (pe_lst (sA es ok h1))
  | .blt b es, sc, X, W, ok, e, h => by
    obtain ⟨p, xs, q, rfl, h1, h2, h3⟩ := i_blt h
    exact sound_bf ok.hK ok.calm ok.g.unseen ok.hu (ok.gl h1).1 (ok.g.free b) (ne_empty h2) (chEs_star h3).1 (sA es ok h3)
  | .mth m o es, sc, X, W, ok, e, h => by
    obtain ⟨x, ap, xs, p, rfl, h1, h2, h3, h4, h5⟩ := i_mth h
    exact sound_mf ok.hK ok.calm ok.hu (sE o ok h4) (sA es ok h5) h1 h2 (of_decide_eq_true h3) (chEs_star h5).1 (nil_of h5)
  | .lenset a, sc, X, W, ok, e, h => by
    obtain ⟨l, p, t, p2, x, q, pos, rfl, h1, h2, h3, h4, h5, h6⟩ := i_lenset h
    have h1 := of_decide_eq_true h1
    have h2 := of_decide_eq_true h2
    subst h1 h2
    exact ce_lenset (ok.hK ▸ pe_lens ok.calm (ok.gl h3).1 (ok.g.free .len) (ok.gl h4).1 ok.g.set (sE a ok h6) (star_cons (by simpa using h5)))
  | .lrev a, sc, X, W, ok, e, h => by
    obtain ⟨l, p, t, p2, x, q, pos, rfl, h1, h2, h3, h4, h5, h6⟩ := i_lrev h
    have h1 := of_decide_eq_true h1
    have h2 := of_decide_eq_true h2
    subst h1 h2
    exact ce_lrev (ok.hK ▸ pe_lrev ok.calm (ok.gl h3).1 (ok.g.free .list) (ok.gl h4).1 (ok.g.free .rev) (sE a ok h6) (star_cons (by simpa using h5)))
  | .lrng a, sc, X, W, ok, e, h => by
    obtain ⟨l, p, t, p2, x, q, pos, rfl, h1, h2, h3, h4, h5, h6⟩ := i_lrng h
    have h1 := of_decide_eq_true h1
    have h2 := of_decide_eq_true h2
    subst h1 h2
    exact ce_lrng (pe_listRg ok.calm (ok.gl h3).1 (ok.g.free .list) (prg_1 (ok.gl h4).1 ok.g.range (sE a ok h6) (star_cons (by simpa using h5))))
  | .rvs a, sc, X, W, ok, e, h => by
    obtain ⟨x, i, j1, p1, p2, p3, q, rfl, h1, h2⟩ := i_rvs h
    obtain rfl := of_decide_eq_true h1
    exact ce_revS (ok.hK ▸ pe_revL (sE a ok h2))
  | .dct1 k v, sc, X, W, ok, e, h => by
    obtain ⟨x, y, p, rfl, h1, h2⟩ := i_dct1 h
    exact conc_dct1 (pe_disp (pps_cons (sE k ok h1) (sE v ok h2) pps_nil) rfl rfl (fun z => nomatch z) (by show 1 ≤ 15; decide))
  | .dct0, sc, X, W, ok, e, h => by
    obtain ⟨p, rfl, _⟩ := i_dct0 h
    exact conc_dct0 pe_dnewK
  | .dct ks es, sc, X, W, ok, e, h => by
    obtain ⟨keys, vals, p, rfl, h1, h2, h3, h4, h5, h6⟩ := i_dct h
    have h3 := of_decide_eq_true h3
    have h4 := of_decide_eq_true h4
    have h5 := of_decide_eq_true h5
    obtain ⟨trs, g1, g2⟩ := sP es ok p h1 h3 h6
    have hk := chKs_len h1
    exact conc_dct (of_decide_eq_true h2) (by omega) g2 (pe_disp g1 (chKs_some h1) h3 (fun z => by rw [z] at h4; cases h4) h5)
  | .repl x o y z, sc, X, W, ok, e, h => by
    obtain ⟨x1, j1, p1, e1, g, ap, y1, j2, p2, z1, j3, p3, p, q, rfl, h1, h2, h3, h4, h5, h6, h7, h8, h9⟩ := i_repl h
    have h1 := of_decide_eq_true h1
    have h2 := of_decide_eq_true h2
    have h3 := of_decide_eq_true h3
    have h4 := of_decide_eq_true h4
    have h6 := of_decide_eq_true h6
    subst h1 h2 h3 h4
    obtain ⟨r, q1, q2⟩ := sound_bo (G := G) (o := .add) (p := .Add) (X := X) ok.hK rfl
    exact conc_repl q2 (by have : (1000 : Nat) ≤ sizeLine := by decide
                           omega) (pe_lrep (sE o ok h9) q1 (by simpa using h5) (base_of (by simpa using h7)) h8)
  | .or2 a b, sc, X, W, ok, e, h => by
    obtain ⟨x, y, q, rfl, h1, h2⟩ := i_or2 h
    exact ce_or2 ok.hK (pe_orT (sE a ok h1) (pe_one (sE b ok h2)))
  | .callv i es, sc, X, W, ok, e, h => by
    obtain ⟨x, p, xs, q, rfl, h1, h2, h3⟩ := i_callv h
    exact sound_callv ok h1 (ne_empty h2) (chEs_star h3).1 (sA es ok h3)
  | .exc0 .., sc, X, W, ok, e, h => dNo_pe (L := [])
  | .exc1 .., sc, X, W, ok, e, h => dNo_pe (L := [])
  | .exca .., sc, X, W, ok, e, h => dNo_pe (L := [])
  | .isx .., sc, X, W, ok, e, h => dNo_pe (L := [])
  | .xat .., sc, X, W, ok, e, h => dNo_pe (L := [])
  | .call f id es, sc, X, W, ok, e, h => by
    obtain ⟨p, xs, q, rfl, hi, h1, h2⟩ := i_call h
    unfold wpE
    split
    · rename_i n sp dv hf
      exact sound_call ok h1 (chEs_star h2).1 (sA es ok h2) (nil_of h2) hi hf
    · exact dNo_pe (L := [])
  | .make f id es, sc, X, W, ok, e, h => by
    obtain ⟨p, xs, q, rfl, hi, h1, h2, h3⟩ := i_make h
    unfold wpE
    split
    · rename_i n sp dv hf
      exact sound_make ok h1 (ne_empty h2) (chEs_star h3).1 (sA es ok h3) hi hf
    · exact dNo_pe (L := [])
  | .meth c m id o es, sc, X, W, ok, e, h => by
    obtain ⟨x, ap, xs, p, rfl, hi, h1, h2, h3, h4, h5⟩ := i_meth h
    unfold wpE
    split
    · rename_i n sp dv hf
      by_cases hc0 : c = ""
      · exact ⟨fun _ _ _ _ _ _ ⟨_, _, _, _, _, _, q, _⟩ => (q.1 hc0).elim⟩
      · exact pe_imp (sound_meth ok h1 h2 (of_decide_eq_true h3) (chEs_star h5).1 (sE o ok h4) (sA es ok h5) (nil_of h5) hi hc0 hf) fun vs H Qv ⟨σ, L, Q, E, S, en, q, k, kx⟩ => ⟨σ, L, Q, E, S, en, q.2, k, kx⟩
    · exact dNo_pe (L := [])
  | .sortm c m id a i, sc, X, W, ok, e, h => by
    obtain ⟨f, x, k, y, p1, g, p2, p3, p4, q, rfl, h1, h2, h3, h4, h5, h6, h7, h8, h9, h10⟩ := i_sortm h
    have h1 := of_decide_eq_true h1
    have h2 := of_decide_eq_true h2
    have h3 := of_decide_eq_true h3
    subst h1 h2 h3
    unfold wpE
    split
    · rename_i n sp dv hf
      exact sound_sortm ok h7 h8 (sE a ok h9) (conc_var (ok.var h10)) rfl h4 (by simpa using h5) (by simpa using h6) hf
    · exact dNo_pe (L := [])
  | .lc it j tt te, sc, X, W, ok, e, h => by
    obtain ⟨elt, x, p, iter, ifs, scope, q, rfl, h1, h2, h3, h4, h5, h6, h7⟩ := i_lc h
    refine ce_lc (List.mem_singleton.mpr rfl) (pe_lc (own := [(x, j)]) ok.calm (by rw [ok.hN]; exact ok.nd) (sI it ok h2) (by rw [ok.hN, ok.sc]; exact blkOk_by h3)
      (fun s H Ca cl fp => sound_target ok (of_decide_eq_true h4) h5) (fun s H Ca cl fp => sound_ifs (fun hh => sT tt (ok.blk s H scope Ca cl fp) hh) h6) (fun s H Ca cl fp => sE te (ok.blk s H scope Ca cl fp) h7) (fold_set h1))
  | .lcp it j1 j2 te, sc, X, W, ok, e, h => by
    obtain ⟨elt, x, px, y, py, k, pt, iter, scope, q, rfl, h1, h2, h3, h4, h5, h6, h7, h8⟩ := i_lcp h
    have scB : ∀ (C : Addr) (cl : List (Str × Addr)), (compEnvC scope cl C X.env).scope = relS scope sc := fun C cl => by rw [← ok.sc]; rfl
    have lo : ∀ {z : Str} (C : Addr) (cl : List (Str × Addr)), decide ((relS scope sc).names.lookup z = some .local) = true → (compEnvC scope cl C X.env).scope.names.lookup z = some .local := fun C cl h => by rw [scB]; exact of_decide_eq_true h
    have hNX : X.N.Nodup := by rw [ok.hN]; exact ok.nd
    refine ce_lcp ?_
    rw [← ok.hK]
    exact pe_lc (own := [(x, j1), (y, j2)]) ok.calm hNX (sI it ok h2) (by rw [ok.hN, ok.sc]; exact blkOk_by h3)
      (fun s H Ca cl fp => pg_tup (X := X.blk s H scope (compEnvC scope cl Ca X.env) fp) (n := 2) ok.calm
        (pgs_cons (pg_name (X := X.blk s H scope (compEnvC scope cl Ca X.env) fp) hNX (by show X.N[j1]? = _; rw [ok.hN]; exact of_decide_eq_true h4) (.inl (lo Ca cl h6)) (.inr (lo Ca cl h6)))
          (pgs_cons (pg_name (X := X.blk s H scope (compEnvC scope cl Ca X.env) fp) hNX (by show X.N[j2]? = _; rw [ok.hN]; exact of_decide_eq_true h5) (.inl (lo Ca cl h7)) (.inr (lo Ca cl h7))) pgs_nil)))
      (fun s H Ca cl fp => pts_imp pts_nil fun vs H Qv ⟨σ, L, Q, E, S, en, q, k, kx⟩ => k.here S q) (fun s H Ca cl fp => sE te (ok.blk s H scope Ca cl fp) h8) (fold_set h1)
theorem sP : ∀ (es : Exs) {sc : Scope} {X : Cx} {W : WX}, COk G C N nm sc X W → ∀ (pos : Pos) {ks : List Str} {keys : List (Option Expr)} {vals : List Expr}, chKs ks keys = true → keys.length = vals.length → chEs N nm sc es vals = true →
    ∃ trs, PPs X pos keys vals trs ∧ ∀ vs H R, concA G W (wpA C es) vs H (fun us H2 => R ((ks.map V.str).zip us) H2) → tPairs trs vs H R
  | .nil, sc, X, W, ok, pos, [], [], [], h, hl, h2 => ⟨[], pps_nil, fun vs H R ⟨σ, L, Q, E, S, en, q, k, kx⟩ => k [] H [] L (Pers.refl _ _) S .nil q⟩
  | .cons e es, sc, X, W, ok, pos, k0 :: ks, ke :: keys, v :: vals, h, hl, h2 => by
    obtain ⟨j1, p1, rfl, hks⟩ := chKs_inv h
    unfold chEs at h2
    simp only [Bool.and_eq_true] at h2
    obtain ⟨trs, g1, g2⟩ := sP es ok pos hks (by simpa using hl) h2.2
    refine ⟨_, pps_cons pe_str (sE e ok h2.1.2) g1, fun vs H R ⟨σ, L, Q, E, S, en, q, k, kx⟩ => ?_⟩
    exact conc_bind (R := fun x L1 => wpA C es σ L1 (fun xs L2 => Q (x :: xs) L2) E) S en kx q fun v H1 x L1 p S1 e1 en1 kx1 q1 =>
      g2 vs H1 (fun ps H3 => R ((V.str k0, v) :: ps) H3) ⟨σ, L1, _, E, S1, en1, q1, fun us H2 xs L2 p2 S2 e2 q2 => k (v :: us) H2 (x :: xs) L2 (p.trans p2) S2 (.cons (e1.pers p2) e2) q2, kx1⟩
  | .nil, sc, X, W, ok, pos, _, _, _ :: _, h, hl, h2 => by unfold chEs at h2; cases h2
  | .cons _ _, sc, X, W, ok, pos, _, _, [], h, hl, h2 => by unfold chEs at h2; cases h2
  | .nil, sc, X, W, ok, pos, _ :: _, [], [], h, hl, h2 => by unfold chKs at h; cases h
  | .nil, sc, X, W, ok, pos, _, _ :: _, [], h, hl, h2 => by cases hl
  | .cons _ _, sc, X, W, ok, pos, _, [], _ :: _, h, hl, h2 => by cases hl
  | .cons _ _, sc, X, W, ok, pos, [], _ :: _, _ :: _, h, hl, h2 => by unfold chKs at h; cases h
theorem sA : ∀ (ir : Exs) {sc : Scope} {X : Cx} {W : WX}, COk G C N nm sc X W → ∀ {es : List Expr}, chEs N nm sc ir es = true → PA X es (concA G W (wpA C ir))
  | .nil, sc, X, W, ok, [], h => conc_nil pa_nil
  | .cons e es, sc, X, W, ok, x :: xs, h => by
    unfold chEs at h
    simp only [Bool.and_eq_true] at h
    exact conc_cons (pa_cons (sE e ok h.1.2) (sA es ok h.2) (star_cons (by simpa using h.1.1)))
  | .nil, sc, X, W, ok, _ :: _, h => by unfold chEs at h; cases h
  | .cons _ _, sc, X, W, ok, [], h => by unfold chEs at h; cases h
theorem sBa : ∀ (ir : Exs) {sc : Scope} {X : Cx} {W : WX}, COk G C N nm sc X W → ∀ {es : List Expr} {q : Pos}, chEs N nm sc ir es = true → es ≠ [] → PE X (.BoolOp .And es q) (conc G W (wpB C true ir))
  | .nil, sc, X, W, ok, [], q, h, h0 => (h0 rfl).elim
  | .cons e .nil, sc, X, W, ok, [x], q, h, h0 => by
    unfold chEs at h
    simp only [Bool.and_eq_true] at h
    exact pe_one (sE e ok h.1.2)
  | .cons e (.cons e2 es), sc, X, W, ok, x :: y :: xs, q, h, h0 => by
    unfold chEs at h
    simp only [Bool.and_eq_true] at h
    exact ce_and (pe_and (sE e ok h.1.2) (sBa (.cons e2 es) ok h.2 (List.cons_ne_nil _ _)))
  | .nil, sc, X, W, ok, _ :: _, q, h, h0 => by unfold chEs at h; cases h
  | .cons _ _, sc, X, W, ok, [], q, h, h0 => (h0 rfl).elim
  | .cons _ .nil, sc, X, W, ok, _ :: _ :: _, q, h, h0 => by
    unfold chEs at h
    simp only [Bool.and_eq_true] at h
    have := h.2
    unfold chEs at this
    cases this
  | .cons _ (.cons _ _), sc, X, W, ok, [_], q, h, h0 => by
    unfold chEs at h
    simp only [Bool.and_eq_true] at h
    have := h.2
    unfold chEs at this
    cases this
theorem sBo : ∀ (ir : Exs) {sc : Scope} {X : Cx} {W : WX}, COk G C N nm sc X W → ∀ {es : List Expr} {q : Pos}, chEs N nm sc ir es = true → es ≠ [] → PE X (.BoolOp .Or es q) (conc G W (wpB C false ir))
  | .nil, sc, X, W, ok, [], q, h, h0 => (h0 rfl).elim
  | .cons e .nil, sc, X, W, ok, [x], q, h, h0 => by
    unfold chEs at h
    simp only [Bool.and_eq_true] at h
    exact pe_one (sE e ok h.1.2)
  | .cons e (.cons e2 es), sc, X, W, ok, x :: y :: xs, q, h, h0 => by
    unfold chEs at h
    simp only [Bool.and_eq_true] at h
    exact ce_or (pe_or (sE e ok h.1.2) (sBo (.cons e2 es) ok h.2 (List.cons_ne_nil _ _)))
  | .nil, sc, X, W, ok, _ :: _, q, h, h0 => by unfold chEs at h; cases h
  | .cons _ _, sc, X, W, ok, [], q, h, h0 => (h0 rfl).elim
  | .cons _ .nil, sc, X, W, ok, _ :: _ :: _, q, h, h0 => by
    unfold chEs at h
    simp only [Bool.and_eq_true] at h
    have := h.2
    unfold chEs at this
    cases this
  | .cons _ (.cons _ _), sc, X, W, ok, [_], q, h, h0 => by
    unfold chEs at h
    simp only [Bool.and_eq_true] at h
    have := h.2
    unfold chEs at this
    cases this
theorem sO : ∀ (ir : Eo) {sc : Scope} {X : Cx} {W : WX}, COk G C N nm sc X W → ∀ {x : Option Expr}, chO N nm sc ir x = true → PO X x (concO G W (wpO C ir))
  | .none, sc, X, W, ok, none, h => conc_noPart
  | .some e, sc, X, W, ok, some x, h => conc_part (sE e ok (by unfold chO at h; exact h))
  | .none, sc, X, W, ok, some _, h => by unfold chO at h; cases h
  | .some _, sc, X, W, ok, none, h => by unfold chO at h; cases h
theorem sT : ∀ (ir : Tx) {sc : Scope} {X : Cx} {W : WX}, COk G C N nm sc X W → ∀ {e : Expr}, chT N nm sc ir e = true → PT X e (concT G W (wpT C ir))
  | .yes, sc, X, W, ok, e, h => by
    unfold chT at h
    cases h
  | .val a, sc, X, W, ok, e, h => ct_test (pt_val (sE a ok (i_tval h).2) (test_val (i_tval h).1))
  | .cmp o a b, sc, X, W, ok, e, h => by
    obtain ⟨x, p, y, q, rfl, h1, h2, h3, h4⟩ := i_tcmp h
    obtain ⟨r, q1, q2⟩ := sound_co (G := G) ok.hK ok.hu h1
    have e1 := pe_cmpR (pos := q) q1 (sE a ok h3) (sE b ok h4) (nomk h2)
    refine ct_test (pt_imp (pt_cmpR q1 (sE a ok h3) (sE b ok h4) (nomk h2)) fun vs H Q hq => ?_)
    exact op_imp q2 vs H _ hq
  | .bool true ts, sc, X, W, ok, e, h => by
    obtain ⟨xs, q, rfl, h1, h2⟩ := i_tand h
    exact (sTa ts ok h1 (ne_empty h2)).pt
  | .bool false ts, sc, X, W, ok, e, h => by
    obtain ⟨xs, q, rfl, h1, h2⟩ := i_tor h
    exact (sTo ts ok h1 (ne_empty h2)).pt
  | .chain o o2 a b c, sc, X, W, ok, e, h => by
    obtain ⟨x, p, p2, y, z, q, rfl, h1, h2, h3, h4, h5, h6, h7⟩ := i_tchain h
    obtain ⟨r, q1, q2⟩ := sound_co (G := G) ok.hK ok.hu h1
    obtain ⟨r', q1', q2'⟩ := sound_co (G := G) ok.hK ok.hu h2
    exact ct_chain q2 q2' (pt_chain q1 q1' (sE a ok h5) (sE b ok h6) (sE c ok h7) (lm_chain h3 h4))
  | .not_ t, sc, X, W, ok, e, h => by
    obtain ⟨x, q, rfl, h1⟩ := i_tnot h
    exact ct_not (pt_not (sT t ok h1))
theorem sTa : ∀ (ir : Txs) {sc : Scope} {X : Cx} {W : WX}, COk G C N nm sc X W → ∀ {es : List Expr} {q : Pos}, chTs N nm sc ir es = true → es ≠ [] → PW X (.BoolOp .And es q) (concT G W (wpTs C true ir))
  | .nil, sc, X, W, ok, [], q, h, h0 => (h0 rfl).elim
  | .cons e .nil, sc, X, W, ok, [x], q, h, h0 => by
    unfold chTs at h
    simp only [Bool.and_eq_true] at h
    exact pw_and1 (sT e ok h.1)
  | .cons e (.cons e2 es), sc, X, W, ok, x :: y :: xs, q, h, h0 => by
    unfold chTs at h
    simp only [Bool.and_eq_true] at h
    exact cw_and (pw_and (sT e ok h.1) (sTa (.cons e2 es) ok h.2 (List.cons_ne_nil _ _)))
  | .nil, sc, X, W, ok, _ :: _, q, h, h0 => by unfold chTs at h; cases h
  | .cons _ _, sc, X, W, ok, [], q, h, h0 => (h0 rfl).elim
  | .cons _ .nil, sc, X, W, ok, _ :: _ :: _, q, h, h0 => by
    unfold chTs at h
    simp only [Bool.and_eq_true] at h
    have := h.2
    unfold chTs at this
    cases this
  | .cons _ (.cons _ _), sc, X, W, ok, [_], q, h, h0 => by
    unfold chTs at h
    simp only [Bool.and_eq_true] at h
    have := h.2
    unfold chTs at this
    cases this
theorem sTo : ∀ (ir : Txs) {sc : Scope} {X : Cx} {W : WX}, COk G C N nm sc X W → ∀ {es : List Expr} {q : Pos}, chTs N nm sc ir es = true → es ≠ [] → PW X (.BoolOp .Or es q) (concT G W (wpTs C false ir))
  | .nil, sc, X, W, ok, [], q, h, h0 => (h0 rfl).elim
  | .cons e .nil, sc, X, W, ok, [x], q, h, h0 => by
    unfold chTs at h
    simp only [Bool.and_eq_true] at h
    exact pw_or1 (sT e ok h.1)
  | .cons e (.cons e2 es), sc, X, W, ok, x :: y :: xs, q, h, h0 => by
    unfold chTs at h
    simp only [Bool.and_eq_true] at h
    exact cw_or (pw_or (sT e ok h.1) (sTo (.cons e2 es) ok h.2 (List.cons_ne_nil _ _)))
  | .nil, sc, X, W, ok, _ :: _, q, h, h0 => by unfold chTs at h; cases h
  | .cons _ _, sc, X, W, ok, [], q, h, h0 => (h0 rfl).elim
  | .cons _ .nil, sc, X, W, ok, _ :: _ :: _, q, h, h0 => by
    unfold chTs at h
    simp only [Bool.and_eq_true] at h
    have := h.2
    unfold chTs at this
    cases this
  | .cons _ (.cons _ _), sc, X, W, ok, [_], q, h, h0 => by
    unfold chTs at h
    simp only [Bool.and_eq_true] at h
    have := h.2
    unfold chTs at this
    cases this
theorem sI : ∀ (ir : Ix) {sc : Scope} {X : Cx} {W : WX}, COk G C N nm sc X W → ∀ {tg e : Expr}, chI N nm sc ir e = true → PI X tg e (concI G W (wpI C ir))
  | .of a, sc, X, W, ok, tg, e, h => conc_iter (ok.hK ▸ pi_any (sE a ok (by unfold chI at h; exact h)))
  | .rng es, sc, X, W, ok, tg, e, h => by
    obtain ⟨p, xs, q, rfl, h1, h3, h2⟩ := i_rng h
    exact sR es ok h1 (of_decide_eq_true h3) h2
theorem sR : ∀ (ir : Exs) {sc : Scope} {X : Cx} {W : WX}, COk G C N nm sc X W → ∀ {tg : Expr} {p q : Pos} {xs : List Expr}, glOk sc "range" = true → (0 < ir.len ∧ ir.len ≤ 3) → chEs N nm sc ir xs = true → PI X tg (.Call (.Name "range" p) xs [] q) (concI G W (wpI C (.rng ir)))
  | .cons a .nil, sc, X, W, ok, tg, p, q, [x], hg, hn, h => by
    unfold chEs at h
    simp only [Bool.and_eq_true] at h
    have s1 : starEach [x] X.env = (false, eval x X.env) :: starEach [] X.env := star_cons (by simpa using h.1.1)
    exact conc_rng1 (pi_range1 (ok.gl hg).1 ok.g.range (pa_cons (sE a ok h.1.2) pa_nil s1) s1)
  | .cons a (.cons b .nil), sc, X, W, ok, tg, p, q, [x, y], hg, hn, h => by
    unfold chEs at h
    simp only [Bool.and_eq_true] at h
    have h2 := h.2
    unfold chEs at h2
    simp only [Bool.and_eq_true] at h2
    have s2 : starEach [y] X.env = (false, eval y X.env) :: starEach [] X.env := star_cons (by simpa using h2.1.1)
    have s1 : starEach [x, y] X.env = (false, eval x X.env) :: starEach [y] X.env := star_cons (by simpa using h.1.1)
    exact conc_rng2 (pi_range2 (ok.gl hg).1 ok.g.range (pa_cons (sE a ok h.1.2) (pa_cons (sE b ok h2.1.2) pa_nil s2) s1) (s1.trans (by rw [s2]; rfl)) (hs2 := s2))
  | .cons a (.cons b (.cons c .nil)), sc, X, W, ok, tg, p, q, [x, y, z], hg, hn, h => by
    unfold chEs at h
    simp only [Bool.and_eq_true] at h
    have h2 := h.2
    unfold chEs at h2
    simp only [Bool.and_eq_true] at h2
    have h3 := h2.2
    unfold chEs at h3
    simp only [Bool.and_eq_true] at h3
    have s3 : starEach [z] X.env = (false, eval z X.env) :: starEach [] X.env := star_cons (by simpa using h3.1.1)
    have s2 : starEach [y, z] X.env = (false, eval y X.env) :: starEach [z] X.env := star_cons (by simpa using h2.1.1)
    have s1 : starEach [x, y, z] X.env = (false, eval x X.env) :: starEach [y, z] X.env := star_cons (by simpa using h.1.1)
    exact conc_rng3 (pi_range3 (ok.gl hg).1 ok.g.range (pa_cons (sE a ok h.1.2) (pa_cons (sE b ok h2.1.2) (pa_cons (sE c ok h3.1.2) pa_nil s3) s2) s1) s1 (by rw [s2, s3]; rfl))
  | .nil, sc, X, W, ok, tg, p, q, xs, hg, hn, h => absurd hn.1 (Nat.lt_irrefl 0)
  | .cons _ (.cons _ (.cons _ (.cons _ _))), sc, X, W, ok, tg, p, q, xs, hg, hn, h => by
    have := hn.2
    simp only [Exs.len] at this
    omega
  | .cons a .nil, sc, X, W, ok, tg, p, q, [], hg, hn, h => by unfold chEs at h; cases h
  | .cons a .nil, sc, X, W, ok, tg, p, q, _ :: _ :: _, hg, hn, h => by
    unfold chEs at h
    simp only [Bool.and_eq_true] at h
    have := h.2
    unfold chEs at this
    cases this
  | .cons a (.cons b .nil), sc, X, W, ok, tg, p, q, [], hg, hn, h => by unfold chEs at h; cases h
  | .cons a (.cons b .nil), sc, X, W, ok, tg, p, q, [_], hg, hn, h => by
    unfold chEs at h
    simp only [Bool.and_eq_true] at h
    have := h.2
    unfold chEs at this
    cases this
  | .cons a (.cons b .nil), sc, X, W, ok, tg, p, q, _ :: _ :: _ :: _, hg, hn, h => by
    unfold chEs at h
    simp only [Bool.and_eq_true] at h
    have := h.2
    unfold chEs at this
    simp only [Bool.and_eq_true] at this
    have := this.2
    unfold chEs at this
    cases this
  | .cons a (.cons b (.cons c .nil)), sc, X, W, ok, tg, p, q, [], hg, hn, h => by unfold chEs at h; cases h
  | .cons a (.cons b (.cons c .nil)), sc, X, W, ok, tg, p, q, [_], hg, hn, h => by
    unfold chEs at h
    simp only [Bool.and_eq_true] at h
    have := h.2
    unfold chEs at this
    cases this
  | .cons a (.cons b (.cons c .nil)), sc, X, W, ok, tg, p, q, [_, _], hg, hn, h => by
    unfold chEs at h
    simp only [Bool.and_eq_true] at h
    have := h.2
    unfold chEs at this
    simp only [Bool.and_eq_true] at this
    have := this.2
    unfold chEs at this
    cases this
  | .cons a (.cons b (.cons c .nil)), sc, X, W, ok, tg, p, q, _ :: _ :: _ :: _ :: _, hg, hn, h => by
    unfold chEs at h
    simp only [Bool.and_eq_true] at h
    have := h.2
    unfold chEs at this
    simp only [Bool.and_eq_true] at this
    have := this.2
    unfold chEs at this
    simp only [Bool.and_eq_true] at this
    have := this.2
    unfold chEs at this
    cases this
end
end
end DM
set_option Elab.async false
set_option linter.all false
set_option maxRecDepth 100000
namespace DM
open PySem L2 PyProof.Rows
section
variable {G : Gw} {C : Ct} {N : List Str} {nm : Nat → Str × Str}
/-- what the making of the lambda named q asks of the def that makes it -/
structure LmF (G : Gw) (C : Ct) (nm : Nat → Str × Str) (X : Cx) (P : Addr) (q : Str) : Prop where
  code : ∃ c, X.env.code = .ref c ∧ LamX.TabB X.base X.mg c P
  qual : X.env.qual ++ "<lambda>" = q
  mem : (P, q) ∈ G.T
  uniq : ∀ p ∈ G.T, p.1 = P → p.2 = q
  gok : ∀ e : Env, GOk G C nm X.prog X.w X.mg X.base (X.A.in1.in1.deeper e)
  hd : X.A.handled = none
  dp : X.A.depth < recursionLimit
  un : X.A.units + 70 < cLine
def LmOk (G : Gw) (C : Ct) (N : List Str) (nm : Nat → Str × Str) (X : Cx) : Prop := ∀ q ∈ N, isLam q = true → ∃ P, LmF G C nm X P q
theorem LmOk.tr {X : Cx} {pn : List (Addr × Obj)} {xe : Value → Shared → Prop} (h : LmOk G C N nm X) : LmOk G C N nm (X.tr pn xe) := fun q m e => by
  obtain ⟨P, f⟩ := h q m e
  exact ⟨P, ⟨f.code, f.qual, f.mem, f.uniq, f.gok, f.hd, f.dp, f.un⟩⟩
theorem i_lam {sc : Scope} {q : Str} {a : Ex} {j : Nat} {te : Ex} {v : Expr} (h : chLam N nm sc q a j te v = true) : ∃ f p x k y py body scope lp kp q1, v = .Call (.Name f p) [x] [⟨some k, .Lambda ⟨[], [⟨y, none, py⟩], none, [], [], none, []⟩ body scope lp, kp⟩] q1 ∧
    f = ("sorted" : Str) ∧ k = ("key" : Str) ∧ glOk sc f = true ∧ (!isStar x) = true ∧ q ∈ N ∧ isLam q = true ∧ N[j]? = some y ∧ lamS1B sc scope y = true ∧ chE N nm sc a x = true ∧ chE N nm scope te body = true := by
  unfold chLam at h
  split at h
  · simp only [Bool.and_eq_true, decide_eq_true_eq] at h
    obtain ⟨⟨⟨⟨⟨⟨⟨⟨h1, h2⟩, h3⟩, h4⟩, h5, h5b⟩, h6⟩, h7⟩, h8⟩, h9⟩ := h
    exact ⟨_, _, _, _, _, _, _, _, _, _, _, rfl, h1, h2, h3, h4, h5, h5b, h6, h7, h8, h9⟩
  · cases h
theorem bind1 {q y : Str} {py : Pos} {body : Expr} {scope : Scope} {cl : List (Str × Addr)} {pm cv ctv u : Value} : bindArgs (PySem.W.kla_fn "<lambda>" q ⟨[], [⟨y, none, py⟩], none, [], [], none, []⟩ body scope cl pm cv ctv) ⟨[u], []⟩ = pure [(y, u)] := by
  unfold bindArgs
  simp [PySem.W.kla_fn, seqItems?, List.lookup, List.zip]
  rfl
theorem sound_sortL {sc : Scope} {X : Cx} {W : WX} (ok : COk G C N nm sc X W) (stk : X.stack = X.env :: X.outer) (frm : X.env.frame = some X.env.locals) (lm : LmOk G C N nm X) {q : Str} {a te : Ex} {j : Nat} {v : Expr} (h : chLam N nm sc q a j te v = true) : PE X v (conc G W (dSortL (wpE C te) j (wpE C a))) := by
  obtain ⟨f, p, x, k, y, py, body, scope, lp, kp, q1, rfl, rfl, rfl, h3, h4, h5, h5b, h6, h7, h8, h9⟩ := i_lam h
  obtain ⟨P, F⟩ := lm q h5 h5b
  obtain ⟨c, hc, TB⟩ := F.code
  obtain ⟨g1, g2, g3⟩ := ok.gl h3
  have L : LamS1 X.env.scope scope y := by
    rw [ok.sc]
    exact lamS1_by h7
  have hm := F.mem
  have hu := F.uniq
  rw [← F.qual] at hm hu
  refine ce_sortL ok.hK (pe_callBKS (cr_sortL (fun pins σ s H f c' v u Q I hf hc rv hq => ?_) ok.hu) g1 (ok.g.free .sorted) (show bootBuiltins "sorted" = some (.builtin "sorted") by decide +kernel) (pa_cons (sE a ok h8) pa_nil (star_cons (by simpa using h4))) (pk_cons (pe_lamV TB hc hm hu rfl L) pk_nil) g3 g2
    (by rw [star_cons (by simpa using h4)]; rfl) (by rw [star_cons (by simpa using h4)]; rfl))
  refine lam_call (tb := conc G W0 (wpE C te)) I L I.env0.in1.in1 F.hd (show X.A.depth < _ from F.dp) hf hc (fun _ _ _ _ _ => bind1) (by rw [ok.hN]; exact ok.nd) (by rw [ok.hN]; exact h6) rv ?_ hq
  have ok2 : COk G C N nm scope (LamX.lamCx X X.A.in1.in1 X.stack s H NoX scope f c') W0 := ⟨ok.hK, ok.hN, rfl, ok.nd, rfl, (fun _ _ x => by obtain ⟨_, _, _, _, _, _, _, _, _, _, _, _, _, _, _, _, w⟩ := x; exact w.elim), by
    have := F.un
    show X.A.units + 1 + 1 + 3 + 65 < cLine
    omega, F.gok _⟩
  exact sE te ok2 h9
/-- a lambda of two parameters as a value -/
theorem lamChk_p {ns : List Str} {ir : Ex} {F : LamD} (h : lamChk nm ns ir F = true) : ∃ y1 y2 p1 p2, F.params = ⟨[], [⟨y1, none, p1⟩, ⟨y2, none, p2⟩], none, [], [], none, []⟩ ∧ ns = [y1, y2] ∧ FnScope ns ns F.scope ∧ chE ns nm F.scope ir F.body = true := by
  unfold lamChk at h
  split at h
  · rename_i y1 p1 y2 p2 e
    simp only [Bool.and_eq_true, decide_eq_true_eq] at h
    obtain ⟨⟨h1, h2⟩, h3⟩ := h
    unfold fnSc at h2
    simp only [Bool.and_eq_true, Bool.not_eq_true', decide_eq_true_eq, decide_eq_false_iff_not, List.all_eq_true] at h2
    obtain ⟨⟨⟨⟨⟨a1, a2⟩, a3⟩, a4⟩, a5⟩, a6⟩ := h2
    exact ⟨_, _, _, _, e, h1, ⟨a1, a2, a3, a4, by rw [List.take_length], fun x m => .inl (a5 x m), a6⟩, h3⟩
  · cases h
theorem clo_nil {cells : List (Str × Addr)} : ∀ {names : List (Str × NameKind)}, (∀ y ∈ names, y.2 ≠ .free) → cloFrom cells names [] = []
  | [], _ => rfl
  | (x, k) :: r, h => by
    have h1 := h (x, k) (.head _)
    have h2 := clo_nil (cells := cells) (names := r) fun y m => h y (.tail _ m)
    cases k <;> first | exact absurd rfl h1 | exact h2
theorem sound_lamv {sc : Scope} {X : Cx} {W : WX} (ok : COk G C N nm sc X W) (lm : LmOk G C N nm X) {q : Str} {i : Nat} {ns : List Str} {ir : Ex} {params : Arguments} {body : Expr} {scope : Scope} {p : Pos} (hq : q ∈ N) (hl : isLam q = true) (h : lamChk nm ns ir ⟨q, params, body, scope⟩ = true) :
    PE X (.Lambda params body scope p) (conc G W (dLamv C.lamt i ns ir)) := by
  obtain ⟨P, F⟩ := lm q hq hl
  obtain ⟨c, hc, TB⟩ := F.code
  obtain ⟨y1, y2, p1, p2, e1, e2, S0, e4⟩ := lamChk_p h
  constructor
  rintro pins s vs H Q I ⟨σ, L, Qd, E, S, en, ⟨hlt, hq⟩, kd, kx⟩
  have dfl : defaultsOf params X.env = ([], []) := by
    have e1 : params = _ := e1
    rw [e1]
    rfl
  refine lam_make3 (F := ⟨q, params, body, scope⟩) I TB hc F.qual.symm F.mem F.uniq S.tb dfl S0.nofree (clo_nil S0.nofree) fun f k H1 s' I1 g T1 h1 h2 => ?_
  have S1 : Sat G H1 L := S.grown g T1
  exact ⟨.ref f, H1, I1, rfl, kd (.ref f) H1 (.lam i) L (g.pers _) S1 (.lam (ok.g.lamt i ns ir hlt _ h) (sat_noext S1 h1) (sat_noext S1 h2) h1 h2) hq⟩
theorem sound_cv {sc : Scope} {X : Cx} {W : WX} (ok : COk G C N nm sc X W) (lm : LmOk G C N nm X) : ∀ {c : Cv} {e : Expr}, chCV N nm sc c e = true → PE X e (conc G W (wpCV C c)) := by
  intro c e h
  unfold chCV at h
  split at h
  · rename_i f id q i ns ir es x p params body scope lp xs q1
    simp only [Bool.and_eq_true, decide_eq_true_eq] at h
    obtain ⟨⟨⟨⟨⟨h1, h2⟩, h3⟩, h4, h5⟩, h6⟩, h7⟩ := h
    subst h1
    show PE X _ (conc G W (match C.fn id (es.len + 1) with
      | some (n, sp, dv) => dCall n sp dv (dCons (dLamv C.lamt i ns ir) (wpA C es))
      | none => dNo))
    split
    · rename_i n sp dv hf
      refine sound_call ok h3 (by rw [List.all_cons, (chEs_star h7).1]; rfl) (conc_cons (pa_cons (sound_lamv ok lm h4 h5 h6) (sA es ok h7) (star_cons rfl))) (fun z => by cases z) (decide_eq_true h2) hf
    · exact dNo_pe (L := [])
  · cases h
/-- a body's context: all cells are its own, what is raised passes its own frame -/
structure TOk (G : Gw) (C : Ct) (N : List Str) (nm : Nat → Str × Str) (sc : Scope) (X : Cx) (W : WX) : Prop extends COk G C N nm sc X W where
  fn : ∀ x, X.fn x = true
  po : PassesOwn (model X.prog X.w) X.A X.env X.xe
  stk : X.stack = X.env :: X.outer
  frm : X.env.frame = some X.env.locals
theorem loc_of {sc : Scope} {X : Cx} {W : WX} (ok : TOk G C N nm sc X W) {x : Str} (h : (decide (sc.names.lookup x = some .local) || decide (sc.names.lookup x = some .cell)) = true) : Loc X.env.scope x := by
  rw [ok.sc]
  simp only [Bool.or_eq_true, decide_eq_true_eq] at h
  exact h
theorem chGs_star {sc : Scope} : ∀ {es : Tgs} {xs : List Expr}, chGs N nm sc es xs = true → (xs.all fun e => !isStar e) = true ∧ xs.length = es.len
  | .nil, [], _ => ⟨rfl, rfl⟩
  | .cons e es, x :: xs, h => by
    unfold chGs at h
    simp only [Bool.and_eq_true] at h
    obtain ⟨h1, h2⟩ := chGs_star h.2
    exact ⟨by rw [List.all_cons, h.1.1, h1]; rfl, by show xs.length + 1 = es.len + 1; rw [h2]⟩
  | .nil, _ :: _, h => by unfold chGs at h; cases h
  | .cons _ _, [], h => by unfold chGs at h; cases h
mutual
theorem sG : ∀ (ir : Tg) {sc : Scope} {X : Cx} {W : WX}, TOk G C N nm sc X W → ∀ {e : Expr}, chG N nm sc ir e = true → PG X e (concG G W (wpG C ir))
  | .name i, sc, X, W, ok, e, h => by
    obtain ⟨x, p, rfl, h1, h2⟩ := i_gname h
    exact cg_name (pg_name (by rw [ok.hN]; exact ok.nd) (by rw [ok.hN]; exact of_decide_eq_true h1) (loc_of ok h2) (.inl (ok.fn x)))
  | .sub o i, sc, X, W, ok, e, h => by
    obtain ⟨x, y, q, rfl, h1, h2, h3⟩ := i_gsub h
    exact cg_sub (pg_sub (sE o ok.toCOk h2) (sE i ok.toCOk h3) (pset_v (by have := ok.hu; omega)) (sub_assign h1))
  | .tup gs, sc, X, W, ok, e, h => by
    obtain ⟨xs, k, q, rfl, h1⟩ := i_gtup h
    obtain ⟨h2, h3⟩ := chGs_star h1
    have h4 : (assignEach xs X.env).length = gs.len := assign_len.trans h3
    exact cg_tup (ok.hK ▸ pg_any (pg_tup ok.calm (sGs gs ok h1) h4 (assign_nostar h2)) (pg_lst ok.calm (sGs gs ok h1) h4 (assign_nostar h2)))
  | .fld o f, sc, X, W, ok, e, h => by
    obtain ⟨x, q, rfl, h1⟩ := i_gfld h
    exact cg_fld ok.g.fds (ok.hK ▸ pg_fld (sE o ok.toCOk h1))
theorem sGs : ∀ (ir : Tgs) {sc : Scope} {X : Cx} {W : WX}, TOk G C N nm sc X W → ∀ {es : List Expr}, chGs N nm sc ir es = true → PGs X es (concGs G W (wpGs C ir))
  | .nil, sc, X, W, ok, [], h => cg_nil pgs_nil
  | .cons g gs, sc, X, W, ok, x :: xs, h => by
    unfold chGs at h
    simp only [Bool.and_eq_true] at h
    exact cg_cons (pgs_cons (sG g ok h.1.2) (sGs gs ok h.2) (assign_cons (by simpa using h.1.1)))
  | .nil, sc, X, W, ok, _ :: _, h => by unfold chGs at h; cases h
  | .cons _ _, sc, X, W, ok, [], h => by unfold chGs at h; cases h
end
theorem g_star {sc : Scope} {ir : Tg} {x : Expr} (h : chG N nm sc ir x = true) : isStar x = false := by
  cases ir with
  | name i =>
    obtain ⟨_, _, rfl, _⟩ := i_gname h
    rfl
  | sub o i =>
    obtain ⟨_, _, _, rfl, _⟩ := i_gsub h
    rfl
  | tup gs =>
    obtain ⟨_, _, _, rfl, _⟩ := i_gtup h
    rfl
  | fld o f =>
    obtain ⟨_, _, rfl, _⟩ := i_gfld h
    rfl
theorem sound_setlc {sc : Scope} {X : Cx} {W : WX} (ok : TOk G C N nm sc X W) {i j : Nat} {it : Ix} {tt : Tx} {te : Ex} {y : Str} {p q r : Pos} {elt : Expr} {gens : List Comprehension} {scope : Scope}
    (h : chG N nm sc (.name i) (.Name y p) = true) (h' : chE N nm sc (.lc it j tt te) (.ListComp elt gens scope q) = true) : PS X (.Assign [.Name y p] (.ListComp elt gens scope q) r) (concS G W (dAsg (wpE C (.lc it j tt te)) (wpG C (.name i)))) := by
  obtain ⟨x1, p1, e1, g1, g2⟩ := i_gname h
  cases e1
  obtain ⟨elt, x, p2, iter, ifs, scope', q', e2, h1, h2, h3, h4, h5, h6, h7⟩ := i_lc h'
  cases e2
  have nd : X.N.Nodup := by rw [ok.hN]; exact ok.nd
  have hi : X.N[i]? = some y := by rw [ok.hN]; exact of_decide_eq_true g1
  have e : ∀ l, swapsWith (.ListComp elt [⟨.Name x p2, iter, ifs, 0⟩] scope q) (some (.Name y p)) l X.env = pure (X.env.blockKind == .function && X.env.kindOf y == some .local && p.line == (Expr.ListComp elt [⟨.Name x p2, iter, ifs, 0⟩] scope q).pos.line && !(scope.names.any fun (n, k) => n == y && (k == .local || k == .cell))) := fun l => rfl
  cases hsw : (X.env.blockKind == .function && X.env.kindOf y == some .local && p.line == (Expr.ListComp elt [⟨.Name x p2, iter, ifs, 0⟩] scope q).pos.line && !(scope.names.any fun (n, k) => n == y && (k == .local || k == .cell))) with
  | false =>
    exact cs_asg (ps_asg (sE _ ok.toCOk h') (sG _ ok h) (by
      show swapsWith (.ListComp elt [⟨.Name x p2, iter, ifs, 0⟩] scope q) (some (.Name y p)) r.line X.env = pure false
      rw [e, hsw]) (no_swaps rfl) rfl)
  | true =>
    have hl : X.env.scope.names.lookup y = some .local := by
      have : (X.env.kindOf y == some .local) = true := by
        simp only [Bool.and_eq_true] at hsw
        exact hsw.1.1.2
      exact eq_of_beq this
    exact cs_setLc (List.mem_singleton.mpr rfl) (ps_setLc (own := [(x, j)]) ok.calm nd hi hl (by rw [e, hsw]) (sI it ok.toCOk h2) (by rw [ok.hN, ok.sc]; exact blkOk_by h3)
      (fun s H Ca cl fp => sound_target ok.toCOk (of_decide_eq_true h4) h5) (fun s H Ca cl fp => sound_ifs (fun hh => sT tt (ok.blk s H scope Ca cl fp) hh) h6) (fun s H Ca cl fp => sE te (ok.blk s H scope Ca cl fp) h7) (fold_set h1))
theorem sound_raise {sc : Scope} {X : Cx} {W : WX} (ok : COk G C N nm sc X W) {x m : Str} {k : Nat} {p p2 q r : Pos} (hg : glOk sc x = true) (hx : x ∈ C.exn) : PS X (.Raise (some (.Call (.Name x p) [.Constant (.str m) k p2] [] q)) none r) (concS G W (dRaise (x, none))) := by
  obtain ⟨c, h1, h2, h3, h4, h5, h6⟩ := ok.g.exn x hx
  obtain ⟨g1, g2, g3⟩ := ok.gl hg
  rw [← ok.hK] at h3 h4 h5 h6
  exact cs_raise h1 (L2N.ps_raise ok.calm ok.tk (L2N.pmk_own PySem.F.excBase_ValueError h3 h2 h4 (raises_own h5 h6) g1 g2))
theorem sound_raiseX {sc : Scope} {X : Cx} {W : WX} (ok : COk G C N nm sc X W) {x : Str} {a : Ex} {e : Expr} {p q r : Pos} (hg : glOk sc x = true) (hs : isStar e = false) (he : PE X e (conc G W (wpE C a))) (hx : x ∈ C.exa) : PS X (.Raise (some (.Call (.Name x p) [e] [] q)) none r) (concS G W (dRaiseX x (wpE C a))) := by
  obtain ⟨⟨c, fI, fd, h1, h2, T, xf, hno, iC, tI, F, hb⟩, hr⟩ := ok.g.exa x hx
  obtain ⟨g1, g2, g3⟩ := ok.gl hg
  rw [← ok.hK] at T hno iC tI F hb
  exact cs_raiseX h1 T hno (L2N.ps_raise ok.calm ok.tk (pmk_oexN T iC tI F hr hb .nil (L2N.passes_call ok.tk (fun _ _ _ _ h => h.elim)) g1 h2 (pa_cons he pa_nil (star_cons hs)) g2 (star_cons hs) (star_none rfl)))
theorem i_asg {sc : Scope} {g : Tg} {a : Ex} {st : Stmt} (h : chS N nm sc (.asg g a) st = true) :
    (∃ x v r, st = .Assign [x] v r ∧ (!isTup v || !isTL x) = true ∧ (!isComp v || isTL x) = true ∧ chG N nm sc g x = true ∧ chE N nm sc a v = true) ∨
    (∃ i it j tt te y p elt gens scope q r, g = .name i ∧ a = .lc it j tt te ∧ st = .Assign [.Name y p] (.ListComp elt gens scope q) r ∧ chG N nm sc (.name i) (.Name y p) = true ∧ chE N nm sc (.lc it j tt te) (.ListComp elt gens scope q) = true) ∨
    ∃ i j e1 e2 x y px py kt pt va vb k2 pt2 r, g = .tup (.cons (.name i) (.cons (.name j) .nil)) ∧ a = .tup (.cons e1 (.cons e2 .nil)) ∧ st = .Assign [.Tuple [.Name x px, .Name y py] kt pt] (.Tuple [va, vb] k2 pt2) r ∧ parOk N sc i j x y px py va vb = true ∧ chE N nm sc e1 va = true ∧ chE N nm sc e2 vb = true := by
  unfold chS at h
  split at h <;> first | (cases h; done) | (rename_i q; cases q; done) | skip
  · rename_i q1 q2
    cases q2
    simp only [Bool.and_eq_true] at h
    exact .inr (.inl ⟨_, _, _, _, _, _, _, _, _, _, _, _, rfl, rfl, rfl, h.1, h.2⟩)
  · rename_i q1 q2
    cases q2
    simp only [Bool.and_eq_true] at h
    exact .inr (.inr ⟨_, _, _, _, _, _, _, _, _, _, _, _, _, _, _, rfl, rfl, rfl, h.1.1, h.1.2, h.2⟩)
  · rename_i q1 q2
    cases q2
    simp only [Bool.and_eq_true, and_assoc] at h
    exact .inl ⟨_, _, _, rfl, h⟩
theorem cs_par {X : Cx} {W : WX} {i j : Nat} {st : Stmt} {ta : DTA} (h : PS X st (tPar i j (concA G W ta))) : PS X st (concS G W (dAsg (dTup ta) (dgTup 2 (dgCons (dName i) (dgCons (dName j) dgNil))))) := ps_imp h fun Dv vs H ⟨σ, L, D, S, en, q, k, kr, kx⟩ =>
  conc_bindA (R := fun xs L1 => xs.length ≤ sizeLine ∧ dgTup 2 (dgCons (dName i) (dgCons (dName j) dgNil)) (.tup xs) σ L1 D.nx D.ex) S en kx q fun us H1 xs L1 p S1 e1 en1 kx1 q1 => by
    obtain ⟨_, q1⟩ := q1
    have q1 : oUnp 2 (.tup xs) L1 fun ds => dgCons (dName i) (dgCons (dName j) dgNil) ds σ L1 D.nx D.ex := q1
    cases q1 with
    | tup hl q2 =>
      obtain ⟨d1, r1, rfl, q2⟩ := q2
      obtain ⟨d2, r2, rfl, rfl, q2⟩ := q2
      cases e1 with
      | @cons v vs' _ _ ev r =>
        cases r with
        | @cons w ws' _ _ ew r2 =>
          cases r2
          exact ⟨v, w, rfl, (k.back p).here S1 ((en1.set ev i).set ew j) q2⟩
    | lst hl _ _ => cases hl
theorem sound_par {sc : Scope} {X : Cx} {W : WX} (ok : TOk G C N nm sc X W) {i j : Nat} {e1 e2 : Ex} {x y : Str} {px py pt pt2 r : Pos} {kt k2} {va vb : Expr} (h : parOk N sc i j x y px py va vb = true) (h1 : chE N nm sc e1 va = true) (h2 : chE N nm sc e2 vb = true) :
    PS X (.Assign [.Tuple [.Name x px, .Name y py] kt pt] (.Tuple [va, vb] k2 pt2) r) (concS G W (wpS C (.asg (.tup (.cons (.name i) (.cons (.name j) .nil))) (.tup (.cons e1 (.cons e2 .nil)))))) := by
  have h0 := h
  unfold parOk at h
  simp only [Bool.and_eq_true, decide_eq_true_eq] at h
  obtain ⟨⟨⟨⟨⟨⟨⟨⟨⟨⟨p1, p2⟩, p3⟩, p4⟩, p5⟩, p6⟩, p7⟩, p8⟩, p9⟩, p10⟩, p11⟩ := h
  have a1 : isStar va = false := by simpa using p8
  have a2 : isStar vb = false := by simpa using p9
  have pa : PA X [va, vb] (concA G W (wpA C (.cons e1 (.cons e2 .nil)))) := sA (.cons e1 (.cons e2 .nil)) ok.toCOk (by unfold chEs; unfold chEs; unfold chEs; simp [a1, a2, h1, h2])
  cases hb : X.env.blockKind == .function with
  | true =>
    exact cs_par (ps_par ok.calm (by rw [ok.hN]; exact ok.nd) (by rw [ok.hN]; exact p1) (by rw [ok.hN]; exact p2) p3 (by rw [ok.sc]; exact p4) (by rw [ok.sc]; exact p5) pa (par_swaps (by rw [ok.sc]; exact h0) hb))
  | false =>
    have g1 : chG N nm sc (.name i) (.Name x px) = true := by unfold chG; simp [p1, p4]
    have g2 : chG N nm sc (.name j) (.Name y py) = true := by unfold chG; simp [p2, p5]
    have hg : chG N nm sc (.tup (.cons (.name i) (.cons (.name j) .nil))) (.Tuple [.Name x px, .Name y py] kt pt) = true := by
      unfold chG
      unfold chGs
      unfold chGs
      unfold chGs
      simp [g1, g2, isStar]
    exact cs_asg (ps_asg (conc_tup (pe_tup pa)) (sG _ ok hg) rfl (par_swaps0 hb) rfl)
theorem EncS.clear {G : Gw} {O : Addr → Prop} {H : Hp} {vs : Sv} {σ : Sl} (en : EncS G O H vs σ) (i : Nat) : EncS G O H (vs.set i Option.none) (σ.set i Option.none) := by
  refine ⟨by rw [List.length_set, List.length_set]; exact en.1, fun k d e => ?_⟩
  by_cases h : i = k
  · subst h
    rw [List.getElem?_set] at e
    rw [if_pos rfl] at e
    split at e <;> cases e
  · rw [List.getElem?_set_ne h] at e
    obtain ⟨v, e1, e2⟩ := en.2 k d e
    exact ⟨v, by rw [List.getElem?_set_ne h]; exact e1, e2⟩
def tsCl (G : Gw) (C : Ct) (cl : Cla) : Sui := fun a cls d Dv vs H => ∃ y od, (∃ c0, G.ca y = some c0 ∧ cls = .ref c0) ∧ ((cl.h.plain = true ∨ d = none) ∧ (cl.h.isAt = true → y ∈ C.exa)) ∧ (∀ n : Int, od = some (DM.D.int n) → ∃ dx, d = some dx ∧ H dx = some (.xd [("at", .int n)])) ∧ concS G W0 (dSeq (dSu (fun c => C.isx c y) (fun f => C.hot f y) cl.nm od a cl.i cl.h) dNext) Dv vs H
inductive ClsOk (G : Gw) (C : Ct) : List Cla → List Cls3 → Prop
  | nil : ClsOk G C [] []
  | cons {cl : Cla} {v : Value} {r : List Cla} {l : List Cls3} : (∀ y b c0, C.sub cl.c y = some b → G.ca y = some c0 → PySem.W.exmOne G.K (.ref c0) v = some b) → ClsOk G C r l → ClsOk G C (cl :: r) ((v, cl.nm, tsCl G C cl) :: l)
section
variable {G : Gw} {X : Cx} {st : Stmt} {W Wout : WX} {C : Ct}
theorem mix_ok {cs : List Cla} {l : List Cls3} (T : ClsOk G C cs l) {L L' : HL} {H H' : Hp} {D : DE} {Dv : Ends} {vs' : Sv} {σ' : Sl} {cls : Value} {d : Option Addr} {x : DX} (k : KS G L H D.nx Dv.nx) (kr : Kd G L H D.rt Dv.rt) (kx : Kx G L H D.ex Wout)
    (p : Pers (dom L) H (dom L') H') (S' : Sat G H' L') (en' : EncS G (dom L') H' vs' σ') (xi : XIs G (dom L') H' cls d x) : dMany C D cs σ' x L' → wMix G.K Wout Dv l cls d vs' H' := by
  induction T with
  | nil => exact fun q => kx _ _ _ _ _ _ _ p S' en' xi q
  | @cons cl v r l hv T ih =>
    intro ⟨b, hb, h1, h2⟩
    obtain ⟨c0, hC, rfl, h3⟩ := id xi
    refine ⟨b, hv _ _ _ hb hC, fun e a ha => ?_, fun e => ih (h2 e)⟩
    obtain ⟨⟨hp, hat⟩, h1⟩ := h1 e
    have hp2 : cl.h.plain = true ∨ d = none := by
      rcases hp with hp | hp
      · exact .inl hp
      · rcases h3 with h3 | ⟨e1, _, _, h4, _⟩
        · exact .inr h3.2
        · rw [hp] at h4; cases h4
    have hod : ∀ n : Int, x.2 = some (DM.D.int n) → ∃ dx, d = some dx ∧ H' dx = some (.xd [("at", .int n)]) := fun n hn => by
      rcases h3 with h3 | ⟨e1, v1, dx, h4, h5, _, h6, h7⟩
      · rw [h3.1] at hn; cases hn
      · rw [h4] at hn
        cases hn
        cases h7
        exact ⟨dx, h5, h6⟩
    refine ⟨x.1, x.2, ⟨c0, hC, rfl⟩, ⟨hp2, hat⟩, hod, dSlot cl.nm a σ', L', dEnds cl.nm D, S', ?_, h1 a, ?_, ?_, ?_⟩
    · cases hn : cl.nm with
      | none => exact en'
      | some j => exact en'.set (.ref a) j
    · cases hn : cl.nm with
      | none => exact k.back p
      | some j => exact fun vs2 H2 σ2 L2 p2 S2 en2 q2 => (k.back p) _ _ _ _ p2 S2 (en2.clear j) q2
    · cases hn : cl.nm with
      | none => exact kr.back p
      | some j => exact kr.back p
    · cases hn : cl.nm with
      | none => exact fun _ _ _ _ _ _ _ _ _ _ _ q => q.elim
      | some j => exact fun _ _ _ _ _ _ _ _ _ _ _ q => q.elim
theorem cs_mix {cs : List Cla} {l : List Cls3} {tb : DTS} (T : ClsOk G C cs l) (h : PS X st (fun D vs H => concS G (wMix G.K Wout D l) tb D vs H)) : PS X st (concS G Wout (dTryM C cs tb)) :=
  ps_imp h fun Dv vs H ⟨σ, L, D, S, en, q, k, kr, kx⟩ => ⟨σ, L, ⟨D.nx, D.rt, dMany C D cs⟩, S, en, q, k, kr, fun cls d vs' H' σ' x L' p S' en' xi q' => mix_ok T k kr kx p S' en' xi q'⟩
end
section
variable {G : Gw} {C : Ct} {N : List Str} {nm : Nat → Str × Str} {sc : Scope} {X : Cx} {W W2 : WX}
theorem TOk.varS (ok : TOk G C N nm sc X W) {a : Addr} {pn : List (Addr × Obj)} {i : Nat} {x : Str} {pos : Pos} (h : locOk N sc i x = true) : PE (X.suite a pn) (.Name x pos) (tVar i) := by
  unfold locOk at h
  simp only [Bool.and_eq_true, Bool.or_eq_true, decide_eq_true_eq] at h
  obtain ⟨⟨⟨h1, h2⟩, h3⟩, h4⟩ := h
  refine pe_var (by show X.N[i]? = _; rw [ok.hN]; exact h1) ?_ (by simpa using h2) (by simpa using h3)
  unfold Vis
  show (X.env.scope.names.lookup x = _ ∨ _)
  rw [ok.sc]
  exact or_assoc.mp h4
theorem sound_ib (ok : TOk G C N nm sc X W) {j : Nat} {a c0 : Addr} {ob : Obj} {pn : List (Addr × Obj)} {y : Str} (hC : G.ca y = some c0) (hz : Zc (.ref c0) none ob) (hf : ∃ fs, ob.data = .fields fs) :
    ∀ (b : Ib) {e : Expr}, chIb N sc j b e = true → PE (X.suite a ((a, ob) :: pn)) e (conc G W2 (wpIb (fun c => C.isx c y) j a b))
  | .isa c, e, h => by
    unfold chIb at h
    split at h <;> first | (cases h; done) | (rename_i q; cases q; done) | skip
    rename_i c f p1 e1 p2 x p3 p4 q
    cases q
    simp only [Bool.and_eq_true, decide_eq_true_eq] at h
    obtain ⟨⟨⟨⟨rfl, h2⟩, rfl⟩, h4⟩, h5⟩ := h
    cases hi : C.isx c y with
    | none => exact ⟨fun _ _ _ _ _ _ ⟨_, _, _, _, _, _, ⟨_, b, hb, _⟩, _⟩ => by have hb : C.isx c y = some b := hb; rw [hi] at hb; cases hb⟩
    | some b =>
      obtain ⟨v, w, m, r1, r2, r3⟩ := ok.g.isx c y b hi
      obtain ⟨ec, kt⟩ := r3 c0 hC
      rw [← ok.hK] at ec kt
      obtain ⟨g1, g2, g3⟩ := ok.gl h4
      have pn2 : PE (X.suite a ((a, ob) :: pn)) (.Name c p3) (tC w) := by
        rcases m with m | ⟨m1, m2, m3⟩
        · exact pe_glob (X := X.suite a ((a, ob) :: pn)) g1 m r1 g2
        · exact pe_bltn (X := X.suite a ((a, ob) :: pn)) g1 m1 m2 r1 g3 g2
      refine pe_imp (pe_callB (call_isE (X := X) ec hz hf) (ok.gl h2).1 (ok.g.free .isi) (by decide +kernel) (pa_cons (ok.varS h5) (pa_cons pn2 pa_nil))) fun vs H Qv ⟨σ, L, Q, E, S, en, ⟨hj, b', hb, q⟩, k, kx⟩ => ?_
      have hb : C.isx c y = some b' := hb
      rw [hi] at hb
      cases hb
      obtain ⟨u, hu, eu⟩ := en.2 _ _ hj
      cases eu
      exact ⟨_, hu, w, v, b, rfl, r2, kt, k.here S (.bl b) q⟩
  | .not_ b, e, h => by
    unfold chIb at h
    split at h <;> first | (cases h; done) | (rename_i q; cases q; done) | skip
    rename_i q
    cases q
    exact ce_not (pe_not (sound_ib ok hC hz hf b h))
  | .and_ b1 b2, e, h => by
    unfold chIb at h
    split at h <;> first | (cases h; done) | (rename_i q; cases q; done) | skip
    rename_i q
    cases q
    rw [Bool.and_eq_true] at h
    exact ce_and (pe_and (sound_ib ok hC hz hf b1 h.1) (pe_one (sound_ib ok hC hz hf b2 h.2)))
theorem sound_iv (ok : TOk G C N nm sc X W) {j : Nat} {a c0 : Addr} {ob : Obj} {pn : List (Addr × Obj)} {y : Str} (hC : G.ca y = some c0) (hz : Zc (.ref c0) none ob) (hf : ∃ fs, ob.data = .fields fs) :
    ∀ (v : Iv) {e : Expr}, chIv N sc j v e = true → PE (X.suite a ((a, ob) :: pn)) e (conc G W2 (wpIv (fun c => C.isx c y) j a v))
  | .int b, e, h => by
    unfold chIv at h
    split at h <;> first | (cases h; done) | (rename_i q; cases q; done) | skip
    rename_i q
    cases q
    simp only [Bool.and_eq_true, decide_eq_true_eq] at h
    obtain ⟨⟨⟨rfl, h2⟩, h3⟩, h4⟩ := h
    have s1 := star_cons (env := (X.suite a ((a, ob) :: pn)).env) (es := []) (by simpa using h3)
    refine pe_imp (pe_callTy call_int1 (ok.gl h2).1 (ok.g.free .int) boot_int (pa_cons (sound_ib (W2 := W2) ok hC hz hf b h4) pa_nil s1) (he := s1)) fun vs H Qv ⟨σ, L, Q, E, S, en, q, k, kx⟩ => ?_
    exact conc_bind (R := fun d L1 => ∃ b, d = .bl b ∧ Q (.int (if b then 1 else 0)) L1) S en kx q fun v1 H1 d L1 p S1 e1 en1 kx1 ⟨b', hd, q1⟩ => by
      subst hd
      cases e1
      exact .inr ⟨b', rfl, (k.back p).here S1 (.int _) q1⟩
  | .lit n, e, h => by
    unfold chIv at h
    split at h <;> first | (cases h; done) | (rename_i q; cases q; done) | skip
    rename_i q
    cases q
    have h := of_decide_eq_true h
    subst h
    exact conc_c (fun _ _ => .int _) pe_int
  | .add a1 b1, e, h => by
    unfold chIv at h
    split at h <;> first | (cases h; done) | (rename_i q; cases q; done) | skip
    rename_i q
    cases q
    rw [Bool.and_eq_true] at h
    obtain ⟨r, q1, q2⟩ := sound_bo (G := G) (o := .add) (p := .Add) (X := X.suite a ((a, ob) :: pn)) ok.hK rfl
    exact conc_op q2 (pe_op q1 (sound_iv ok hC hz hf a1 h.1) (sound_iv ok hC hz hf b1 h.2))
  | .mul a1 b1, e, h => by
    unfold chIv at h
    split at h <;> first | (cases h; done) | (rename_i q; cases q; done) | skip
    rename_i q
    cases q
    rw [Bool.and_eq_true] at h
    obtain ⟨r, q1, q2⟩ := sound_bo (G := G) (o := .mul) (p := .Mult) (X := X.suite a ((a, ob) :: pn)) ok.hK rfl
    exact conc_op q2 (pe_op q1 (sound_iv ok hC hz hf a1 h.1) (sound_iv ok hC hz hf b1 h.2))
theorem lits_ok {Y : Cx} : ∀ {ls : List Lt} {xs : List Expr}, chLs ls xs = true → PA Y xs (concA G W2 (dLits ls))
  | [], [], _ => conc_nil pa_nil
  | l :: ls, x :: xs, h => by
    unfold chLs at h
    split at h
    · rename_i e1 e2; cases e1
    · rename_i e1 e2
      cases e1
      cases e2
      rw [Bool.and_eq_true] at h
      exact conc_cons (pa_cons (sound_lit h.1) (lits_ok h.2))
    · cases h
  | [], _ :: _, h => by unfold chLs at h; cases h
  | _ :: _, [], h => by unfold chLs at h; cases h
theorem sound_hotV (ok : TOk G C N nm sc X W) {j : Nat} {a c0 : Addr} {dd : Option Addr} {ob : Obj} {pn : List (Addr × Obj)} {y : Str} (hC : G.ca y = some c0) (hzn : L2N.Zn (.ref c0) dd ob) (hex : decide (y ∈ C.exa) = true ∨ dd = none) (hf : ∃ fs, ob.data = .fields fs) {f : Str} {e : Expr}
    (q : chH N sc (some j) (.hot f) e = true) : PE (X.suite a ((a, ob) :: pn)) e (fun σ H Q => σ[j]? = some (some (.ref a)) ∧ HasD dd H ∧ LamX.Tabs G.T H ∧ ∃ l, C.hot f y = some l ∧ ∀ v H', HotR G.T l H v H' → Q v H') := by
  unfold chH at q
  split at q <;> first | (cases q; done) | (rename_i z; cases z; done) | skip
  rename_i z
  cases z
  simp only [Bool.and_eq_true] at q
  obtain ⟨⟨q1, q2⟩, q3⟩ := q
  have q1 := of_decide_eq_true q1
  subst q1
  cases hh : C.hot f y with
  | none => exact ⟨fun _ _ _ _ _ _ ⟨_, _, _, _, hl, _⟩ => by cases hl⟩
  | some l =>
    obtain ⟨fa, fd, x, c1, h1, h2, h3, h4, h5, h6⟩ := ok.g.hot f y l hh
    rw [hC] at h4
    cases h4
    rw [← ok.hK] at h2 h3 h5
    obtain ⟨g1, g2, _⟩ := ok.gl q2
    refine pe_imp (pe_callE (dd := dd) h5 hex h6 ok.g.unseen hzn hf g1 h1 h2 h3 (ok.varS q3) g2 (star_cons rfl) rfl) fun vs H Qv ⟨hj, hD, hT, l', hl, q⟩ => ?_
    cases hl
    exact ⟨hj, hD, hT, q⟩
theorem sound_hot0 (ok : TOk G C N nm sc X W) {oj : Option Nat} {a c0 : Addr} {ob : Obj} {pn : List (Addr × Obj)} {y : Str} (hC : G.ca y = some c0) (hzn : L2N.Zn (.ref c0) none ob) (hf : ∃ fs, ob.data = .fields fs) {f : Str} {e : Expr}
    (q : chH N sc oj (.hot f) e = true) : PE (X.suite a ((a, ob) :: pn)) e (conc G W2 (dHot (fun f => C.hot f y) oj a f)) := by
  cases oj with
  | none =>
    unfold chH at q
    split at q <;> first | (cases q; done) | (rename_i z; cases z; done) | skip
    rename_i z
    cases z
    simp only [Bool.and_eq_true] at q
    cases q.2
  | some j =>
    refine pe_imp (sound_hotV ok hC hzn (.inr rfl) hf q) fun vs H Qv ⟨σ, L, Q, E, S, en, ⟨hj, l, hl, q⟩, k, kx⟩ => ?_
    obtain ⟨u, hu, eu⟩ := en.2 _ _ hj
    cases eu
    exact ⟨hu, HasD.nil, S.tb, l, hl, fun v H' hr => k v H' _ _ (hr.1.pers) (hr.1.sat S) (hr.enc S) q⟩
theorem sound_h (ok : TOk G C N nm sc X W) {oj : Option Nat} {od : Option D} {a c0 : Addr} {ob : Obj} {d : Option Addr} {pn : List (Addr × Obj)} {y : Str} (hC : G.ca y = some c0) (hzn : L2N.Zn (.ref c0) d ob) (hf : ∃ fs, ob.data = .fields fs) {h : Hx} (hp : h.plain = true ∨ d = none) (hna : h.isAt = false) {e : Expr}
    (q : chH N sc oj h e = true) : PE (X.suite a ((a, ob) :: pn)) e (conc G W2 (wpH (fun c => C.isx c y) (fun f => C.hot f y) oj od a h)) := by
  have hz := hzn.zc
  cases h with
  | lit l =>
    cases e <;> first | (cases q; done) | skip
    exact sound_lit q
  | nil =>
    cases e <;> first | (cases q; done) | skip
    rename_i es p
    cases es with
    | nil => exact conc_lst (pe_lst (conc_nil pa_nil))
    | cons => cases q
  | fat => cases hna
  | hota => cases hna
  | dead => cases e <;> cases q
  | joins => cases e <;> cases q
  | hot f =>
    have hd : d = none := by
      rcases hp with hp | hp
      · cases hp
      · exact hp
    subst hd
    exact sound_hot0 ok hC hzn hf q
  | hotd k f =>
    have hd : d = none := by
      rcases hp with hp | hp
      · cases hp
      · exact hp
    subst hd
    unfold chH at q
    split at q <;> first | (cases q; done) | (rename_i z; cases z; done) | skip
    rename_i z
    cases z
    rw [Bool.and_eq_true] at q
    have q0 := q.1
    rw [Bool.and_eq_true] at q0
    have q1 := of_decide_eq_true q0.1
    have q2 : k.length ≤ sizeLine := Nat.le_trans (of_decide_eq_true q0.2) (by decide)
    subst q1
    exact conc_dct1 (pe_disp (pps_cons (conc_c (v := .str k) (d := .str k) (fun _ _ => .str q2) pe_str) (sound_hot0 ok hC hzn hf (by unfold chH; exact q.2)) pps_nil) rfl rfl (fun z => nomatch z) (by show 1 ≤ 15; decide))
  | cmpi i n =>
    unfold chH at q
    split at q <;> first | (cases q; done) | (rename_i z; cases z; done) | skip
    rename_i z
    cases z
    rw [Bool.and_eq_true] at q
    have q1 := of_decide_eq_true q.1
    subst q1
    obtain ⟨r, r1, r2⟩ := sound_co (G := G) (X := X.suite a ((a, ob) :: pn)) (o := .eq) (p := .Eq) ok.hK ok.hu rfl
    exact conc_op r2 (pe_cmpR r1 (conc_var (ok.varS q.2)) (conc_c (fun _ _ => .int _) pe_int) rfl)
  | pick ls v =>
    have hd : d = none := by
      rcases hp with hp | hp
      · cases hp
      · exact hp
    subst hd
    unfold chH at q
    split at q <;> first | (cases q; done) | (rename_i z; cases z; done) | skip
    rename_i z
    cases z
    simp only [Bool.and_eq_true] at q
    obtain ⟨⟨q1, q2⟩, q3⟩ := q
    cases oj with
    | none => cases q3
    | some j =>
      have := sound_iv (W2 := W2) (a := a) (pn := pn) ok hC hz hf v q3
      exact conc_op od_ix ((show (X.suite a ((a, ob) :: pn)).K = G.K from ok.hK) ▸ pe_ix ix_seq (conc_lst (pe_lst (lits_ok q2))) this (plain_ix q1))
theorem h_plain {oj : Option Nat} {h : Hx} {e : Expr} (q : chH N sc oj h e = true) : (!isComp e) = true ∧ (!isTup e) = true := by
  cases h <;> cases e <;> first | (cases q; done) | exact ⟨rfl, rfl⟩
theorem h_sole {oj : Option Nat} {h : Hx} {v : Expr} {x : Str} {p : Pos} {l : Nat} {env : Env} (q : chH N sc oj h v = true) : swapsWithSole [.Name x p] v l env = pure false := by
  cases h <;> cases v <;> first | (cases q; done) | rfl
theorem sound_su (ok : TOk G C N nm sc X W) {cl : Cla} {st : Stmt} (q : chSu N sc cl.nm cl.i cl.h st = true) : SuOk X [st] (tsCl G C cl) := fun a ob cls d pn hzn hf => ⟨fun pins s vs H Dv I hw => by
  have hz := hzn.zc
  obtain ⟨y, od, ⟨c0, hC, rfl⟩, ⟨hp, hat⟩, hod, hq⟩ := hw
  cases hdd : cl.h.isDead with
  | true =>
    have e : cl.h = .dead := by
      cases hc : cl.h <;> rw [hc] at hdd <;> first | rfl | cases hdd
    rw [e] at hq
    obtain ⟨_, _, _, _, _, hw, _⟩ := hq
    exact (show False from hw).elim
  | false =>
  unfold chSu at q
  rw [hdd, Bool.false_or] at q
  unfold chSu0 at q
  split at q
  · simp only [Bool.and_eq_true] at q
    obtain ⟨⟨h1, h2⟩, h3⟩ := q
    obtain ⟨p1, p2⟩ := h_plain h3
    have pn0 := pg_name (X := X.suite a ((a, ob) :: pn)) (pos := default) (by show X.N.Nodup; rw [ok.hN]; exact ok.nd) (by show X.N[cl.i]? = _; rw [ok.hN]; exact of_decide_eq_true h1) (loc_of ok h2) (.inl (ok.fn _))
    cases hh : cl.h.isAt with
    | false =>
      exact (css_cons (pss_cons (cs_asg (ps_asg (sound_h ok hC hzn hf hp hh h3) (cg_name (pg_name (by show X.N.Nodup; rw [ok.hN]; exact ok.nd) (by show X.N[cl.i]? = _; rw [ok.hN]; exact of_decide_eq_true h1) (loc_of ok h2) (.inl (ok.fn _)))) (h_sole h3) (no_swaps (by rw [p2]; rfl)) (assign_one rfl))) (css_nil pss_nil))).run pins s vs H Dv I hq
    | true =>
      have hx := hat hh
      obtain ⟨⟨c, fI, fd, k1, k2, T, xf, hno, _⟩, _⟩ := ok.g.exa y hx
      rw [hC] at k1
      cases k1
      rw [← ok.hK] at xf hno
      rcases (show cl.h = .fat ∨ ∃ f, cl.h = .hota f by
        cases hc : cl.h <;> rw [hc] at hh <;> first | exact .inl rfl | exact .inr ⟨_, rfl⟩ | cases hh) with hat' | ⟨f, hat'⟩
      rotate_left
      · rw [hat'] at h3 hq
        unfold chH at h3
        split at h3 <;> first | (cases h3; done) | (rename_i z; cases z; done) | skip
        rename_i g q1 e q2 q3 e2 q4 f2 q5 q6 z
        cases z
        rw [Bool.and_eq_true] at h3
        obtain ⟨g1, g2⟩ := h3
        rw [Bool.and_eq_true] at g1
        have hf3 := of_decide_eq_true g1.1
        subst hf3
        cases hj : cl.nm with
        | none => rw [hj] at g1; cases g1.2
        | some j =>
          rw [hj] at g1 g2 hq
          obtain ⟨σ, L, D0, S, en, hw, kn, kr, kx⟩ := hq
          cases od with
          | none => exact (show False from hw).elim
          | some o =>
            cases o with
            | int n =>
              obtain ⟨hσ, l, hl, hw⟩ : σ[j]? = some (some (.ref a)) ∧ ∃ l, C.hot f y = some l ∧ D0.nx (σ.set cl.i (some (.lst [l, .int n]))) L := hw
              obtain ⟨dx, rfl, hdx⟩ := hod n rfl
              obtain ⟨u, hu, eu⟩ := en.2 _ _ hσ
              cases eu
              have hcall := sound_hotV (a := a) (pn := pn) (e := .Call (.Name g q1) [.Name e q2] [] q3) ok hC hzn (.inl (decide_eq_true hx)) hf (f := f) (by unfold chH; exact g2)
              refine (pss_cons (ps_asg (pe_lst (pa_cons hcall (pa_cons (pe_xf xf hno hz hf (ok.varS g1.2)) pa_nil (star_cons rfl)) (star_cons rfl))) (pg_name (by show X.N.Nodup; rw [ok.hN]; exact ok.nd) (by show X.N[cl.i]? = _; rw [ok.hN]; exact of_decide_eq_true h1) (loc_of ok h2) (.inl (ok.fn _))) (by rfl) (no_swaps (by rfl)) (assign_one rfl)) pss_nil).run pins s vs H Dv I ?_
              refine ⟨hu, fun dx' ed => ⟨_, by cases ed; exact hdx⟩, S.tb, l, hl, fun v H' hr => ?_⟩
              refine ⟨V.ref a, hu, rfl, rfl, dx, _, .int n, rfl, hr.1.keep hdx, rfl, by show 2 ≤ sizeLine; decide, fun p hp => ?_⟩
              have pp : Pers (dom L) H (dom L) (upd H' p (.lst [v, .int n])) := hr.1.pers.trans (Pers.new hp)
              have S2 : Sat G (upd H' p (.lst [v, .int n])) L := (hr.1.sat S).new hp
              have e2 : Enc G (dom L) (upd H' p (.lst [v, .int n])) (.ref p) (.lst [l, .int n]) := .lst (fun hd => by
                obtain ⟨o, eo⟩ := S.dom_some hd
                rw [hr.1.there hp] at eo
                cases eo) upd_same (by show 2 ≤ sizeLine; decide) (.cons ((hr.enc S).pers (Pers.new hp)) (.cons (.int n) .nil))
              exact kn _ _ _ _ pp S2 ((en.pers pp).set e2 cl.i) hw
            | _ => exact (show False from hw).elim
      rw [hat'] at h3 hq
      unfold chH at h3
      split at h3 <;> first | (cases h3; done) | (rename_i z; cases z; done) | skip
      rename_i e p3 f p4 z
      rw [Bool.and_eq_true] at h3
      have hf3 := of_decide_eq_true h3.1
      subst hf3
      cases hj : cl.nm with
      | none => rw [hj] at h3; cases h3.2
      | some j =>
        rw [hj] at h3 hq
        obtain ⟨σ, L, D0, S, en, hw, kn, kr, kx⟩ := hq
        cases od with
        | none => exact (show False from hw).elim
        | some o =>
          cases o with
          | int n =>
            obtain ⟨hσ, hw⟩ : σ[j]? = some (some (.ref a)) ∧ D0.nx (σ.set cl.i (some (.int n))) L := hw
            obtain ⟨dx, rfl, hdx⟩ := hod n rfl
            obtain ⟨u, hu, eu⟩ := en.2 _ _ hσ
            cases eu
            refine (pss_cons (ps_asg (pe_xf xf hno hz hf (ok.varS h3.2)) (pg_name (by show X.N.Nodup; rw [ok.hN]; exact ok.nd) (by show X.N[cl.i]? = _; rw [ok.hN]; exact of_decide_eq_true h1) (loc_of ok h2) (.inl (ok.fn _))) (by rfl) (no_swaps (by rfl)) (assign_one rfl)) pss_nil).run pins s vs H Dv I ?_
            exact ⟨V.ref a, hu, rfl, rfl, dx, _, .int n, rfl, hdx, rfl, kn.here S (en.set (.int n) cl.i) hw⟩
          | _ => exact (show False from hw).elim
  · cases q⟩
theorem sound_suL (ok : TOk G C N nm sc X W) {cl : Cla} {sts : List Stmt} (q : chSuL N sc cl.nm cl.i cl.h sts = true) : ∃ st r, sts = st :: r ∧ SuOk X (st :: r) (tsCl G C cl) := by
  unfold chSuL at q
  split at q
  · exact ⟨_, _, rfl, sound_su ok q⟩
  · have e : ∃ i ja jb ls, cl.h = .joins i ja jb ls := by
      unfold chJ at q
      split at q
      · rename_i e; exact ⟨_, _, _, _, e⟩
      · cases q
    obtain ⟨i, ja, jb, ls, e⟩ := e
    exact ⟨_, _, rfl, fun a ob cls d pn hzn hf => ⟨fun pins s vs H Dv I hw => by
      obtain ⟨y, _, _, _, _, hq⟩ := hw
      rw [e] at hq
      obtain ⟨_, _, _, _, _, hw, _⟩ := hq
      exact (show False from hw).elim⟩⟩
  · cases q
theorem cls_ok (ok : TOk G C N nm sc X W) : ∀ {cs : List Cla} {hs : List ExceptHandler}, chCls N sc cs hs = true → subAll C cs = true → ∃ l, ClsOk G C cs l ∧ MixOk X hs l
  | [], [], _, _ => ⟨[], .nil, .nil⟩
  | cl :: cs, .ExceptHandler t on body p :: hs, h, hs2 => by
    unfold chCls at h
    rw [Bool.and_eq_true] at h
    obtain ⟨h1, h2⟩ := h
    unfold subAll at hs2
    rw [List.all_cons, Bool.and_eq_true] at hs2
    obtain ⟨s1, s2⟩ := hs2
    obtain ⟨l, T, M⟩ := cls_ok ok h2 s2
    unfold chCl at h1
    split at h1 <;> first | (cases h1; done) | skip
    rename_i e
    cases e
    simp only [Bool.and_eq_true] at h1
    obtain ⟨⟨⟨g1, g2⟩, g3⟩, g4⟩ := h1
    have g1 := of_decide_eq_true g1
    subst g1
    split at s1
    · rename_i hsub
      obtain ⟨v, hv, hv2⟩ := ok.g.sub _ _ _ hsub
      obtain ⟨n1, n2, _⟩ := ok.gl g2
      obtain ⟨st0, r0, rfl, hsu⟩ := sound_suL ok g4
      refine ⟨(v, cl.nm, tsCl G C cl) :: l, .cons (fun y b c0 e1 e2 => ?_) T, .cons ⟨n1, n2, .inl hv⟩ ?_ hsu M⟩
      · obtain ⟨v', hv', hv3⟩ := ok.g.sub _ _ _ e1
        rw [hv] at hv'
        cases hv'
        exact hv3 c0 e2
      · split at g3
        · rename_i z1
          show NmOk X cl.nm none
          rw [z1]
          trivial
        · rename_i j n z1
          show NmOk X cl.nm (some n)
          rw [z1]
          rw [Bool.and_eq_true] at g3
          refine ⟨by rw [ok.hN]; exact of_decide_eq_true g3.1, ?_⟩
          show X.env.scope.names.lookup n = _
          rw [ok.sc]
          exact of_decide_eq_true g3.2
        · cases g3
    · cases s1
  | [], _ :: _, h, _ => by unfold chCls at h; cases h
  | _ :: _, [], h, _ => by unfold chCls at h; cases h
end
mutual
theorem sS : ∀ (ir : Stm) {sc : Scope} {X : Cx} {W : WX}, TOk G C N nm sc X W → LmOk G C N nm X → ∀ {st : Stmt}, chS N nm sc ir st = true → PS X st (concS G W (wpS C ir))
  | .asg g a, sc, X, W, ok, lm, st, h => by
    rcases i_asg h with ⟨x, v, r, rfl, h1, h2, h3, h4⟩ | ⟨i, it, j, tt, te, y, p, elt, gens, scope, q, r, rfl, rfl, rfl, h1, h2⟩ | ⟨i, j, e1, e2, x, y, px, py, kt, pt, va, vb, k2, pt2, r, rfl, rfl, rfl, h1, h2, h3⟩
    · exact cs_asg (ps_asg (sE a ok.toCOk h4) (sG g ok h3) (no_swap1 h2) (no_swaps h1) (assign_one (g_star h3)))
    · exact sound_setlc ok h1 h2
    · exact sound_par ok h1 h2 h3
  | .fld o f a, sc, X, W, ok, lm, st, h => by
    obtain ⟨x, q, v, r, rfl, h1, h2, h3⟩ := i_sfld h
    exact cs_fld ok.g.fds (ok.hK ▸ ps_fld (sE o ok.toCOk h2) (sE a ok.toCOk h3) (no_swap h1))
  | .drop a, sc, X, W, ok, lm, st, h => by
    obtain ⟨v, r, rfl, h1, h2⟩ := i_sdrop h
    exact cs_drop (ps_expr (sE a ok.toCOk h2) (no_swap h1))
  | .ret a, sc, X, W, ok, lm, st, h => by
    obtain ⟨v, r, rfl, h1⟩ := i_sret h
    exact cs_ret (ps_ret (sE a ok.toCOk h1))
  | .retX .., sc, X, W, ok, lm, st, h => ⟨fun _ _ _ _ _ _ ⟨_, _, _, _, _, q, _⟩ => (show False from q).elim⟩
  | .ite c a b, sc, X, W, ok, lm, st, h => by
    obtain ⟨z, x, y, r, rfl, h1, h2, h3⟩ := i_site h
    exact cs_if (ps_if (sT c ok.toCOk h1) (sSs a ok lm h2) (sSs b ok lm h3))
  | .for_ g it b, sc, X, W, ok, lm, st, h => by
    obtain ⟨x, y, z, r, rfl, h1, h2, h3, h4⟩ := i_sfor h
    exact cs_for (ps_for ok.po ok.calm (sI it ok.toCOk h3) (sG g ok h2) (sSs b ok lm h4) (fold_set h1))
  | .forE g a b, sc, X, W, ok, lm, st, h => by
    obtain ⟨x, f, p, y, q, z, r, rfl, h1, h2, h3, h4, h5, h6, h7⟩ := i_sforE h
    have h1 := of_decide_eq_true h1
    subst h1
    have s1 : starEach [y] X.env = (false, eval y X.env) :: starEach [] X.env := star_cons (by simpa using h4)
    cases x with
    | Tuple elts kk tpos => exact cs_for (ps_for ok.po ok.calm (conc_enumA (ok.hK ▸ pi_enumA (ok.gl h2).1 (ok.g.free .enum) (pa_cons (sE a ok.toCOk h6) pa_nil s1) s1)) (sG g ok h5) (sSs b ok lm h7) (fun _ => rfl))
    | _ => cases h3
  | .tryM b cs, sc, X, W, ok, lm, st, h => by
    obtain ⟨z, hs, r, rfl, h1, h2, h3⟩ := i_stryM h
    by_cases ha : subAll C cs = true
    · obtain ⟨l, T, M⟩ := cls_ok ok h2 ha
      cases hs with
      | nil => cases h1
      | cons e0 es =>
        refine ps_imp (cs_mix (tb := wpSs C b) T ?_) fun Dv vs H ⟨σ, L, D, S, en, q, k, kr, kx⟩ => ⟨σ, L, D, S, en, q.2, k, kr, kx⟩
        have := ps_try_mix (p := r) (z := z) (tb := fun W => concS G W (wpSs C b)) ok.stk ok.frm (by rw [ok.hN]; exact ok.nd) ok.tk
          (fun W pn xe tk po => sSs b (X := X.tr pn xe) (W := W) { hK := ok.hK, hN := ok.hN, sc := ok.sc, nd := ok.nd, calm := ok.calm, tk := tk, hu := ok.hu, g := ok.g, fn := ok.fn, po := po, stk := ok.stk, frm := ok.frm } lm.tr h3) M
        rw [ok.hK] at this
        exact this
    · exact ⟨fun _ _ _ _ _ _ ⟨_, _, _, _, _, q, _⟩ => (ha q.1).elim⟩
  | .while_ c b, sc, X, W, ok, lm, st, h => by
    obtain ⟨x, z, r, rfl, h1, h2⟩ := i_swhile h
    exact cs_while (ps_while ok.po (sT c ok.toCOk h1) (sSs b ok lm h2))
  | .raise x, sc, X, W, ok, lm, st, h => by
    obtain ⟨m, k, p, p2, q, r, rfl, h1⟩ := i_sraise h
    by_cases hx : x ∈ C.exn
    · exact ps_imp (sound_raise ok.toCOk h1 hx) fun Dv vs H ⟨σ, L, D, S, en, q, k, kr, kx⟩ => ⟨σ, L, D, S, en, q.2, k, kr, kx⟩
    · exact ⟨fun _ _ _ _ _ _ ⟨_, _, _, _, _, q, _⟩ => (hx q.1).elim⟩
  | .raiseX x a, sc, X, W, ok, lm, st, h => by
    obtain ⟨e, p, q, r, rfl, h1, h2, h3⟩ := i_sraiseX h
    by_cases hx : x ∈ C.exa
    · exact ps_imp (sound_raiseX ok.toCOk h1 (by simpa using h2) (sE a ok.toCOk h3) hx) fun Dv vs H ⟨σ, L, D, S, en, q, k, kr, kx⟩ => ⟨σ, L, D, S, en, q.2, k, kr, kx⟩
    · exact ⟨fun _ _ _ _ _ _ ⟨_, _, _, _, _, q, _⟩ => (hx q.1).elim⟩
  | .pass, sc, X, W, ok, lm, st, h => by
    obtain ⟨p, rfl, _⟩ := i_spass h
    exact cs_next ps_pass
  | .sortL none q a j te, sc, X, W, ok, lm, st, h => by
    obtain ⟨v, r, rfl, h1⟩ := i_ssortR h
    exact cs_ret (ps_ret (sound_sortL ok.toCOk ok.stk ok.frm lm h1))
  | .sortL (some i) q a j te, sc, X, W, ok, lm, st, h => by
    obtain ⟨x, p, v, r, rfl, h1, h2, h3⟩ := i_ssortA h
    obtain ⟨f, p1, x1, k, y, py, body, scope, lp, kp, q1, e, _⟩ := i_lam h3
    exact cs_asg (ps_asg (sound_sortL ok.toCOk ok.stk ok.frm lm h3) (cg_name (pg_name (by rw [ok.hN]; exact ok.nd) (by rw [ok.hN]; exact of_decide_eq_true h1) (loc_of ok h2) (.inl (ok.fn x)))) (no_swap1 (by rw [e]; rfl)) (no_swaps (by rw [e]; rfl)) (assign_one rfl))
  | .iteV c o b x y, sc, X, W, ok, lm, st, h => by
    obtain ⟨z, p, w, p2, s, t, r, rfl, h1, h2, h3, h4, h5, h6⟩ := i_siteV h
    obtain ⟨r1, q1, q2⟩ := sound_co (G := G) ok.hK ok.hu h2
    refine cs_if (ps_if (ct_test (pt_imp (pt_cmpR q1 (sound_cv ok.toCOk lm h1) (sE b ok.toCOk h4) (nomk h3)) fun vs H Q hq => ?_)) (sSs x ok lm h5) (sSs y ok lm h6))
    exact op_imp q2 vs H _ hq
  | .retV c o b, sc, X, W, ok, lm, st, h => by
    obtain ⟨z, p, w, p2, r, rfl, h1, h2, h3, h4⟩ := i_sretV h
    obtain ⟨r1, q1, q2⟩ := sound_co (G := G) ok.hK ok.hu h2
    exact cs_ret (ps_ret (conc_op q2 (pe_cmpR q1 (sound_cv ok.toCOk lm h1) (sE b ok.toCOk h4) (nomk h3))))
theorem sSs : ∀ (ir : Stms) {sc : Scope} {X : Cx} {W : WX}, TOk G C N nm sc X W → LmOk G C N nm X → ∀ {st : List Stmt}, chSs N nm sc ir st = true → PSs X st (concS G W (wpSs C ir))
  | .nil, sc, X, W, ok, lm, [], h => css_nil pss_nil
  | .cons s ss, sc, X, W, ok, lm, x :: xs, h => by
    unfold chSs at h
    simp only [Bool.and_eq_true] at h
    exact css_cons (pss_cons (sS s ok lm h.1) (sSs ss ok lm h.2))
  | .nil, sc, X, W, ok, lm, _ :: _, h => by unfold chSs at h; cases h
  | .cons _ _, sc, X, W, ok, lm, [], h => by unfold chSs at h; cases h
end
end
end DM
set_option Elab.async false
set_option linter.all false
set_option maxRecDepth 100000
namespace DM
open PySem L2 PyProof.Rows
section
variable {G : Gw} {C : Ct} {N ps : List Str} {nm : Nat → Str × Str} {P : Program} {w : World} {mg : Str → Option Value} {base : Heap} {H : Hp} {L : HL}
theorem start_enc {vs : List V} {ds : List D} {O : Addr → Prop} (n : Nat) (r : EncL G O H vs ds) : EncS G O H (vs.map some ++ List.replicate (n - vs.length) none) (DM.start n ds) := by
  unfold DM.start
  refine ⟨by rw [List.length_append, List.length_append, List.length_map, List.length_map, List.length_replicate, List.length_replicate, r.len], fun i d h => ?_⟩
  have hi : i < ds.length := by
    by_cases q : i < ds.length
    · exact q
    · rw [List.getElem?_append_right (by rw [List.length_map]; omega), List.getElem?_replicate] at h
      split at h <;> cases h
  rw [List.getElem?_append_left (by rw [List.length_map]; exact hi), List.getElem?_map] at h
  cases e : ds[i]? with
  | none => rw [e] at h; cases h
  | some x =>
    rw [e] at h
    cases h
    obtain ⟨v, h1, h2⟩ := r.getD e
    exact ⟨v, by rw [List.getElem?_append_left (by rw [List.length_map, r.len]; exact hi), List.getElem?_map, h1]; rfl, h2⟩
/-- the owned heap in any order -/
def permS (sp : DSp) : DSp := fun ds L Q E => ∃ L', L.Perm L' ∧ sp ds L' Q E
theorem spOf_perm {n : Nat} {sp : DSp} {vs : List V} {H : Hp} {Q : VK} {E : XK} (h : spOf G n (permS sp) vs H Q E) : spOf G n sp vs H Q E := by
  obtain ⟨ds, L, Qd, Ed, hl, S0, en, uq, ue, ⟨L', pm, hsp⟩, kd, ke⟩ := h
  obtain ⟨S1, _, p1⟩ := (Le.perm (d := .non) pm).ok S0 .non
  exact ⟨ds, L', Qd, Ed, hl, S1, en.pers p1, uq, ue, hsp, kd.back p1, fun cls d H' x L2 p => ke cls d H' x L2 (p1.trans p)⟩
theorem LmOk.no {X : Cx} (h : (N.all fun q => !isLam q) = true) : LmOk G C N nm X := fun q m e => by
  have := List.all_eq_true.mp h q m
  rw [e] at this
  cases this
/-- where the lambdas' code objects stand, of the def at f -/
def LmAt (G : Gw) (mg : Str → Option Value) (base : Heap) (N : List Str) (qual : Str) (f : Addr) : Prop := ∀ q ∈ N, isLam q = true → ∃ (P c : Addr) (oc : Value) (od : Option Addr) (osl : Array (Option Value)) (fd : FuncData), (P, q) ∈ G.T ∧ (∀ p ∈ G.T, p.1 = P → p.2 = q) ∧
  G.K.lookup f = some ⟨oc, od, .func fd, osl⟩ ∧ fd.code = .ref c ∧ LamX.TabB base mg c P ∧ qual ++ ".<locals>." ++ "<lambda>" = q
/-- a def's body by the library's rule, with the def's own object at hand -/
theorem okG2 {K : PySem.W.Frag} {x qual : Str} {params : Arguments} {body : List Stmt} {scope : Scope} {dvs : List V} {kws : List (Str × V)} {f : Addr} {fd : FuncData} {CX : CXT} {k : Nat} {sp : _root_.L2.Sp} (F : FunD K x qual params body scope dvs kws f fd) (S : FnScope N ps scope) (len : ∀ vs H Q E, sp vs H Q E → vs.length = ps.length)
    (hbody : ∀ (cdv : Value) (A : Around) (outer : List Env) (s : Shared) (H : Hp) (vs : List V) (Q : VK) (E : XK), (∃ oc od osl fd1, K.lookup f = some ⟨oc, od, .func fd1, osl⟩ ∧ fd1.code = cdv) → Unseen A → Room k (A.deeper (envOfC qual scope s.heap.objs.size f cdv)) → sp vs H Q E →
      ∃ t, PSs (cxOf CX P w K mg base N qual scope f cdv A outer s H E) body t ∧ t { nx := fun _ H' => Q .non H', rt := Q } (_root_.L2.start N vs) H) : FnQ P w K mg base CX (k + 1) f fd ps sp := by
  obtain ⟨oc, od, dV, kV, doc, pm, an, cdv, ct, osl, e, obj, code, -, -⟩ := F.ex
  subst e
  exact ⟨fun q => len _ _ _ _ q, fun hgd hr q r bind e0 => LamX.run_ofS obj code S hr e0 bind r (len _ _ _ _ q) fun hr2 => hbody cdv _ _ _ _ _ _ _ ⟨_, _, _, _, obj, rfl⟩ hgd hr2 q⟩
/-- .. of a def's own context -/
theorem LmAt.ok {qual : Str} {scope : Scope} {f : Addr} {cdv : Value} {A : Around} {outer : List Env} {s : Shared} {H : Hp} {E : XK} {CX : CXT} {k : Nat} (h : LmAt G mg base N qual f) (hl : ∃ oc od osl fd1, G.K.lookup f = some (⟨oc, od, .func fd1, osl⟩ : Obj) ∧ fd1.code = cdv)
    (g : ∀ A : Around, Room k A → Unseen A → GOk G C nm P w mg base A) (hr : Room (k + 1) (A.deeper (envOfC qual scope s.heap.objs.size f cdv))) (hgd : Unseen A) : LmOk G C N nm (cxOf CX P w G.K mg base N qual scope f cdv A outer s H E) := fun q m e => by
  obtain ⟨P0, c, oc, od, osl, fd, h1, h2, h3, h4, h5, h6⟩ := h q m e
  obtain ⟨oc', od', osl', fd1, k1, k2⟩ := hl
  rw [h3] at k1
  cases k1
  refine ⟨P0, ⟨⟨c, by rw [← h4, k2] <;> rfl, h5⟩, h6, h1, h2, fun e => g _ ?_ hgd, hr.hd, ?_, ?_⟩⟩
  · refine ⟨hr.hd, ?_, ?_⟩
    · have := hr.dp
      show (A.deeper (envOfC qual scope s.heap.objs.size f cdv)).depth + 1 + 3 * k + 5 < _
      omega
    · have := hr.un
      show (A.deeper (envOfC qual scope s.heap.objs.size f cdv)).units + 1 + 1 + 3 + 16 * k + 200 < _
      omega
  · have := hr.dp
    show (A.deeper (envOfC qual scope s.heap.objs.size f cdv)).depth < _
    omega
  · have := hr.un
    show (A.deeper (envOfC qual scope s.heap.objs.size f cdv)).units + 70 < _
    omega
theorem def_ok {k : Nat} {ir : Stms} {sp : DSp} {x qual : Str} {params : Arguments} {body : List Stmt} {scope : Scope} {dvs : List V} {kws : List (Str × V)} {f : Addr} {fd : FuncData}
    (F : FunD G.K x qual params body scope dvs kws f fd) (S : FnScope N ps scope) (hc : chSs N nm scope ir body = true) (g : ∀ A : Around, Room k A → Unseen A → GOk G C nm P w mg base A) (vc : VC N.length ps.length sp (wpSs C ir)) (hl0 : (N.all fun q => !isLam q) = true) :
    FnQ P w G.K mg base (L2N.CX P w) (k + 1) f fd ps (spOf G ps.length (permS sp)) := by
  refine okG2 F S (fun vs H Q E h => spOf_len h) fun cdv A outer s H vs Q E _ hgd hr h => ?_
  obtain ⟨ds, L, Qd, Ed, hl, S0, en, uq, ue, hsp, kd, ke⟩ := spOf_perm h
  refine ⟨concS G (fun cls d _ H => E cls d H) (wpSs C ir), sSs ir ⟨⟨rfl, rfl, rfl, S.nd, rfl, L2N.takes_of rfl rfl rfl rfl, ?_, g _ hr hgd⟩, fun _ => rfl, passes_of rfl, rfl, rfl⟩ (LmOk.no hl0) hc, ?_⟩
  · have := hr.un
    show (A.deeper _).units + 65 < cLine
    omega
  · refine ⟨DM.start N.length ds, L, ⟨fun _ L' => Qd .non L', Qd, fun _ x L' => Ed x L'⟩, S0, start_enc _ en, vc ds L Qd Ed hl uq ue hsp, fun vs' H' σ' L' p S' en' q => ?_, kd, fun cls d vs' H' σ x L' p S' en' xi q => ?_⟩
    · exact kd .non H' .non L' p S' .non q
    · exact ke cls d H' x L' p S' xi q
end
end DM
namespace DM
open PySem L2
section
set_option Elab.async false
set_option linter.all false
set_option maxRecDepth 100000
open PySem PySem.Spec PyProof.Rows L2 LamX
end
end DM
set_option autoImplicit false
set_option Elab.async false
set_option linter.all false
set_option maxRecDepth 100000
namespace DM
open PySem L2 PyProof.Rows
/-- a def as it is called: id, arguments handed in, parameters, promise, defaults -/
structure Ent where
  id : Nat
  ar : Nat
  n : Nat
  sp : DSp
  dv : List D
def tab (es : List Ent) : Nat → Nat → Option (Nat × DSp × List D) := fun id k => match es with
  | [] => none
  | e :: es => if e.id = id ∧ e.ar = k then some (e.n, e.sp, e.dv) else tab es id k
section
variable {G : Gw} {nm : Nat → Str × Str} {P : Program} {w : World} {mg : Str → Option Value} {base : Heap}
/-- what is known of it -/
def EntOk (G : Gw) (nm : Nat → Str × Str) (P : Program) (w : World) (mg : Str → Option Value) (base : Heap) (e : Ent) (j : Nat) : Prop := ∃ f fd ps ds dvs, PySem.W.keepIn G.K (.ref f) = true ∧ FnQ P w G.K mg base (L2N.CX P w) j f fd ps (spOf G e.n e.sp) ∧ Binds G.K fd ps ds ∧ Vals dvs ds ∧ (∀ O H, EncL G O H dvs e.dv) ∧
    (∀ x, nm e.id = (("" : Str), x) → mg x = some (.ref f)) ∧
    (∀ c, nm e.id = (c, ("__init__" : Str)) → ∃ a, mg c = some (.ref a) ∧ G.ca c = some a ∧ Mk G.K a f) ∧
    (∀ c m, nm e.id = (c, m) → c ≠ "" → ∃ a, G.ca c = some a ∧ Cls G.K a ∧ Meth G.K a m f)
theorem tab_mem {id k : Nat} {r : Nat × DSp × List D} : ∀ {es : List Ent}, tab es id k = some r → ∃ e ∈ es, e.id = id ∧ r = (e.n, e.sp, e.dv)
  | [], h => by cases h
  | e :: es, h => by
    have h' : (if e.id = id ∧ e.ar = k then some (e.n, e.sp, e.dv) else tab es id k) = some r := h
    by_cases q : e.id = id ∧ e.ar = k
    · rw [if_pos q] at h'
      exact ⟨e, .head _, q.1, (Option.some.inj h').symm⟩
    · rw [if_neg q] at h'
      obtain ⟨e', m, z⟩ := tab_mem h'
      exact ⟨e', .tail _ m, z⟩
/-- what is known without the defs -/
structure Bs (G : Gw) (con : Str → Option D) (fds : Str → List Str) (exn : List Str) (sub isx : Str → Str → Option Bool) (mg : Str → Option Value) : Prop where
  con : ∀ x d, con x = some d → ∃ u v, mg x = some u ∧ RelV v u ∧ ∀ O H, Enc G O H v d
  free : ∀ b : Bf, mg (bfName b) = none
  range : mg "range" = none
  bool : mg "bool" = none
  set : mg "set" = none
  fds : Fds G fds
  sub : ∀ c y b, sub c y = some b → ∃ v, mg c = some v ∧ ∀ a, G.ca y = some a → PySem.W.exmOne G.K (.ref a) v = some b
  isx : ∀ c y b, isx c y = some b → ∃ v w, (mg c = some v ∨ (mg c = none ∧ bootBuiltins c = some v ∧ c ≠ "__name__")) ∧ RelV w v ∧ (∀ u, RelV w u → u = v) ∧ ∀ a, G.ca y = some a → ExcC G.K a ∧ PySem.W.kitOne G.K (.ref a) v = some b
  exn : ∀ x, x ∈ exn → ∃ c, G.ca x = some c ∧ mg x = some (.ref c) ∧ PySem.W.excIn G.K c [.type "ValueError", .type "Exception", .type "BaseException", .type "object"] "ValueError.__new__" = true ∧ PySem.W.keepIn G.K (.ref c) = true ∧
    PySem.W.subIn G.K (.ref c) (.type "BaseException") = some true ∧ PySem.W.typeIn G.K (.ref c) = some (.type "type")
def AllOk (G : Gw) (nm : Nat → Str × Str) (P : Program) (w : World) (mg : Str → Option Value) (base : Heap) (es : List Ent) (J : Nat) : Prop := ∀ e ∈ es, ∃ j, j ≤ J ∧ EntOk G nm P w mg base e j
theorem room_less {j k : Nat} {A : Around} (r : Room k A) (h : j ≤ k) : Room j A := ⟨r.hd, by have := r.dp; omega, by have := r.un; omega⟩
/-- what is known of the error classes with a field -/
def Bx (G : Gw) (P : Program) (w : World) (mg : Str → Option Value) (base : Heap) (exa : List Str) (hot : Str → Str → Option D) : Prop := (∀ x, x ∈ exa → NcOk G P w mg base x) ∧ ∀ f y l, hot f y = some l → ∃ fa fd x c0, mg f = some (.ref fa) ∧ PySem.W.keepIn G.K (.ref fa) = true ∧ Binds G.K fd [x] [] ∧ G.ca y = some c0 ∧ FnE P w G.K G.T mg base 1 fa fd x c0 l (decide (y ∈ exa))
theorem gokM {con : Str → Option D} {fds : Str → List Str} {exn exa : List Str} {sub isx : Str → Str → Option Bool} {lam : Nat → Option (Nat × DSp)} {lamt : Nat → Option (List Str × Ex)} {hot : Str → Str → Option D} {es : List Ent} {J : Nat} (B : Bs G con fds exn sub isx mg) (bx : Bx G P w mg base exa hot) (hJ : 1 ≤ J) (h : AllOk G nm P w mg base es J)
    (hl : ∀ i n sp, lam i = some (n, sp) → ∃ j, j ≤ J ∧ ∀ F, G.lams i F → LamG P w G.K mg base (L2N.CX P w) j F n (spOf G n sp)) (ht : ∀ i ns ir, lamt i = some (ns, ir) → ∀ F, lamChk nm ns ir F = true → G.lams i F) :
    ∀ A, Room (J + 1) A → Unseen A → GOk G ⟨con, tab es, fds, exn, sub, isx, lam, lamt, exa, hot⟩ nm P w mg base A := fun A r hgd => by
  refine ⟨B.con, B.free, hgd, B.range, B.bool, B.set, fun id k n sp dv e => ?_, B.fds, B.sub, B.isx, B.exn, fun i n sp e => ?_, ht, fun x m => ⟨bx.1 x m, room_less r (by omega)⟩, fun f y l h => ?_⟩
  · obtain ⟨en, m, rfl, q⟩ := tab_mem e
    cases q
    obtain ⟨j, hj, f, fd, ps, ds, dvs, h1, h2, h3, h4, h5, h6⟩ := h en m
    exact ⟨j, f, fd, ps, ds, dvs, h1, h2, h3, h4, h5, room_less r (by omega), h6⟩
  · obtain ⟨j, hj, q⟩ := hl i n sp e
    exact ⟨j, q, room_less r (by omega)⟩
  · obtain ⟨fa, fd, x, c0, h1, h2, h3, h4, h5⟩ := bx.2 f y l h
    exact ⟨fa, fd, x, c0, h1, h2, h3, h4, h5, room_less r (by omega)⟩
theorem gok {con : Str → Option D} {fds : Str → List Str} {exn exa : List Str} {sub isx : Str → Str → Option Bool} {hot : Str → Str → Option D} {es : List Ent} {J : Nat} (B : Bs G con fds exn sub isx mg) (bx : Bx G P w mg base exa hot) (hJ : 1 ≤ J) (h : AllOk G nm P w mg base es J) : ∀ A, Room (J + 1) A → Unseen A → GOk G ⟨con, tab es, fds, exn, sub, isx, fun _ => none, fun _ => none, exa, hot⟩ nm P w mg base A :=
  gokM B bx hJ h (fun _ _ _ e => nomatch e) fun _ _ _ e => nomatch e
theorem allNil {J : Nat} : AllOk G nm P w mg base [] J := fun _ m => nomatch m
theorem allCons {es : List Ent} {e : Ent} {J : Nat} (h : AllOk G nm P w mg base es J) (q : EntOk G nm P w mg base e (J + 2)) : AllOk G nm P w mg base (e :: es) (J + 2) := fun x m => by
  rcases List.mem_cons.mp m with rfl | m
  · exact ⟨_, Nat.le_refl _, q⟩
  · obtain ⟨j, hj, z⟩ := h x m
    exact ⟨j, by omega, z⟩
/-- the entry of a def -/
theorem ent {C : Ct} {J : Nat} {N ps : List Str} {ir : Stms} {sp : DSp} {x qual : Str} {params : Arguments} {body : List Stmt} {scope : Scope} {dvs : List V} {kws : List (Str × V)} {f : Addr} {fd : FuncData} {id ar : Nat} {dv : List D} {ds : List Value}
    (g : ∀ A, Room (J + 1) A → Unseen A → GOk G C nm P w mg base A) (F : FunD G.K x qual params body scope dvs kws f fd) (S : FnScope N ps scope) (hc : chSs N nm scope ir body = true) (vc : VC N.length ps.length sp (wpSs C ir)) (hl : (N.all fun q => !isLam q) = true)
    {us : List V} (hb : Binds G.K fd ps ds) (hv : Vals us ds) (he : ∀ O H, EncL G O H us dv)
    (hn : (∀ x, nm id = (("" : Str), x) → mg x = some (.ref f)) ∧ (∀ c, nm id = (c, ("__init__" : Str)) → ∃ a, mg c = some (.ref a) ∧ G.ca c = some a ∧ Mk G.K a f) ∧ (∀ c m, nm id = (c, m) → c ≠ "" → ∃ a, G.ca c = some a ∧ Cls G.K a ∧ Meth G.K a m f)) :
    EntOk G nm P w mg base ⟨id, ar, ps.length, permS sp, dv⟩ (J + 2) := ⟨f, fd, ps, ds, us, F.kp, def_ok F S hc g vc hl, hb, hv, he, hn⟩
end
section
variable {G : Gw} {nm : Nat → Str × Str} {mg : Str → Option Value}
theorem nmF {id : Nat} {x : Str} {f : Addr} (e : nm id = (("" : Str), x)) (h : mg x = some (.ref f)) (ne : x ≠ "__init__") : (∀ x, nm id = (("" : Str), x) → mg x = some (.ref f)) ∧ (∀ c, nm id = (c, ("__init__" : Str)) → ∃ a, mg c = some (.ref a) ∧ G.ca c = some a ∧ Mk G.K a f) ∧ (∀ c m, nm id = (c, m) → c ≠ "" → ∃ a, G.ca c = some a ∧ Cls G.K a ∧ Meth G.K a m f) := by
  refine ⟨fun y q => ?_, fun c q => ?_, fun c m q n => ?_⟩
  · rw [e] at q
    cases q
    exact h
  · rw [e] at q
    cases q
    exact (ne rfl).elim
  · rw [e] at q
    cases q
    exact (n rfl).elim
theorem nmM {id : Nat} {c m : Str} {a f : Addr} (e : nm id = (c, m)) (hc : c ≠ "") (hm : m ≠ "__init__") (h1 : G.ca c = some a) (h2 : Cls G.K a) (h3 : Meth G.K a m f) : (∀ x, nm id = (("" : Str), x) → mg x = some (.ref f)) ∧ (∀ c, nm id = (c, ("__init__" : Str)) → ∃ a, mg c = some (.ref a) ∧ G.ca c = some a ∧ Mk G.K a f) ∧ (∀ c m, nm id = (c, m) → c ≠ "" → ∃ a, G.ca c = some a ∧ Cls G.K a ∧ Meth G.K a m f) := by
  refine ⟨fun y q => ?_, fun c q => ?_, fun c m q n => ?_⟩
  · rw [e] at q
    cases q
    exact (hc rfl).elim
  · rw [e] at q
    cases q
    exact (hm rfl).elim
  · rw [e] at q
    cases q
    exact ⟨a, h1, h2, h3⟩
theorem nmI {id : Nat} {c : Str} {a f : Addr} (e : nm id = (c, ("__init__" : Str))) (hc : c ≠ "") (h0 : mg c = some (.ref a)) (h1 : G.ca c = some a) (h2 : Cls G.K a) (h3 : Meth G.K a "__init__" f) (h4 : Mk G.K a f) : (∀ x, nm id = (("" : Str), x) → mg x = some (.ref f)) ∧ (∀ c, nm id = (c, ("__init__" : Str)) → ∃ a, mg c = some (.ref a) ∧ G.ca c = some a ∧ Mk G.K a f) ∧ (∀ c m, nm id = (c, m) → c ≠ "" → ∃ a, G.ca c = some a ∧ Cls G.K a ∧ Meth G.K a m f) := by
  refine ⟨fun y q => ?_, fun c q => ?_, fun c m q n => ?_⟩
  · rw [e] at q
    cases q
    exact (hc rfl).elim
  · rw [e] at q
    cases q
    exact ⟨a, h0, h1, h4⟩
  · rw [e] at q
    cases q
    exact ⟨a, h1, h2, h3⟩
end
section
variable {G : Gw} {nm : Nat → Str × Str} {P : Program} {w : World} {mg : Str → Option Value} {base : Heap}
def spL (G : Gw) (n : Nat) (sp : DSp) : _root_.L2.Sp := fun vs H Q _ => ∃ ds L Qd, ds.length = n ∧ Sat G H L ∧ EncL G (dom L) H vs ds ∧ Up Qd ∧ sp ds L Qd (fun _ _ => False) ∧ Kd G L H Qd Q
theorem law_okL {C : Ct} {N ps : List Str} {k : Nat} {ir : Stms} {sp : DSp} {x qual : Str} {params : Arguments} {body : List Stmt} {scope : Scope} {dvs : List V} {kws : List (Str × V)} {f : Addr} {fd : FuncData}
    (F : FunD G.K x qual params body scope dvs kws f fd) (S : FnScope N ps scope) (hc : chSs N nm scope ir body = true) (g : ∀ A : Around, Room k A → Unseen A → GOk G C nm P w mg base A) (vc : VC N.length ps.length sp (wpSs C ir)) (hL : LmAt G mg base N qual f) :
    FnQ P w G.K mg base L2.CX0 (k + 2) f fd ps (spL G ps.length sp) := by
  refine okG2 F S (fun vs H Q E h => ?_) fun cdv A outer s H vs Q E hlk hgd hr h => ?_
  · obtain ⟨ds, L, Qd, hl, S0, en, _⟩ := h
    rw [en.len]
    exact hl
  · obtain ⟨ds, L, Qd, hl, S0, en, uq, hsp, kd⟩ := h
    refine ⟨concS G W0 (wpSs C ir), sSs ir ⟨⟨rfl, rfl, rfl, S.nd, rfl, (fun _ _ x => by obtain ⟨_, _, _, _, _, _, _, _, _, _, _, _, _, _, _, _, w⟩ := x; exact w.elim), ?_, g _ (hr.mono (Nat.le_succ k)) hgd⟩, fun _ => rfl, passes_of rfl, rfl, rfl⟩ (hL.ok hlk g hr hgd) hc, ?_⟩
    · have := hr.un
      show (A.deeper (envOfC qual scope s.heap.objs.size f cdv)).units + 65 < cLine
      omega
    · exact ⟨DM.start N.length ds, L, ⟨fun _ L' => Qd .non L', Qd, fun _ _ _ => False⟩, S0, start_enc _ en, vc ds L Qd (fun _ _ => False) hl uq (fun _ _ _ _ h => h) hsp, fun vs' H' σ' L' p S' en' q => kd .non H' .non L' p S' .non q, kd, fun cls d vs' H' σ x L' p S' en' xi q => q⟩
/-- the law's own argument; what else is tracked does not matter -/
theorem law_sp {sp : DSp} {H : Hp} {a : Addr} {ns : List Int} {E : XK} (hS : SqL G.K H a (ns.map V.int)) (hn : ns.length ≤ 63) (h : ∀ Q E, (∀ L, Q (.bl true) L) → sp [.frz ns] [] Q E) (hT : LamX.Tabs G.T H := by intro p h; exact absurd (show p ∈ ([] : List (Addr × Str)) from h) List.not_mem_nil) : spL G 1 sp [.ref a] H (fun v _ => v = .bl true) E := by
  refine ⟨[.frz ns], [], Cl fun d _ => d = .bl true, rfl, Sat.nil hT, .one (.frz (hS.imp (fun q => ⟨fun ⟨_, h⟩ => (nomatch h), q⟩) .inr) (Nat.le_trans hn (by decide))), Cl.up, h _ _ fun L => cl rfl, Kd.cl fun v H' d L' p S e q => ?_⟩
  subst q
  cases e
  rfl
end
end DM
set_option Elab.async false
set_option linter.all false
set_option maxRecDepth 100000
namespace DM
open PySem L2
section
variable {C : Ct} {D0 : DE} {σ : Sl} {L : HL} {Q : Qd} {E : Xd} {ss s1 s2 : Stms} {e a b : Ex}
theorem s_nil (h : D0.nx σ L) : wpSs C .nil D0 σ L := h
theorem s_asg {g : Tg} (h : wpE C e σ L (fun d L1 => wpG C g d σ L1 (fun σ2 L2 => wpSs C ss D0 σ2 L2) D0.ex) D0.ex) : wpSs C (.cons (.asg g e) ss) D0 σ L := h
theorem s_drop (h : wpE C e σ L (fun _ L1 => wpSs C ss D0 σ L1) D0.ex) : wpSs C (.cons (.drop e) ss) D0 σ L := h
theorem s_ret (h : wpE C e σ L D0.rt D0.ex) : wpSs C (.cons (.ret e) ss) D0 σ L := h
theorem s_pass (h : wpSs C ss D0 σ L) : wpSs C (.cons .pass ss) D0 σ L := h
theorem s_raise {x : Str} (m : x ∈ C.exn) (h : D0.ex σ (x, none) L) : wpSs C (.cons (.raise x) ss) D0 σ L := ⟨m, h⟩
theorem s_if {c : Tx} (h : wpT C c σ L (fun b L1 => cond b (wpSs C s1 ⟨fun σ2 L2 => wpSs C ss D0 σ2 L2, D0.rt, D0.ex⟩ σ L1) (wpSs C s2 ⟨fun σ2 L2 => wpSs C ss D0 σ2 L2, D0.rt, D0.ex⟩ σ L1)) D0.ex) : wpSs C (.cons (.ite c s1 s2) ss) D0 σ L := by
  have e : (fun (b : Bool) (L1 : HL) => cond b (wpSs C s1 ⟨fun σ2 L2 => wpSs C ss D0 σ2 L2, D0.rt, D0.ex⟩ σ L1) (wpSs C s2 ⟨fun σ2 L2 => wpSs C ss D0 σ2 L2, D0.rt, D0.ex⟩ σ L1)) = fun (b : Bool) (L1 : HL) => if b = true then wpSs C s1 ⟨fun σ2 L2 => wpSs C ss D0 σ2 L2, D0.rt, D0.ex⟩ σ L1 else wpSs C s2 ⟨fun σ2 L2 => wpSs C ss D0 σ2 L2, D0.rt, D0.ex⟩ σ L1 := by
    funext b L1
    cases b <;> rfl
  rw [e] at h
  exact h
theorem s_fld {o : Ex} {f : Str} (h : wpE C e σ L (fun d L1 => wpE C o σ L1 (fun o L2 => ∃ p c fs A B, o = .ref p ∧ Sp L2 p (.ins c fs) A B ∧ f ∈ C.fds c ∧ fs.length < 90 ∧ wpSs C ss D0 σ (A ++ (p, .ins c (putD f d fs)) :: B)) D0.ex) D0.ex) : wpSs C (.cons (.fld o f e) ss) D0 σ L := h
theorem s_for {g : Tg} {it : Ix} (h : wpI C it σ L (fun q L1 => ∃ W : Nat → Sl → HL → Prop, W 0 σ L1 ∧ FI q (wpG C g) (wpSs C s1) ⟨fun σ2 L2 => wpSs C ss D0 σ2 L2, D0.rt, D0.ex⟩ W) D0.ex) : wpSs C (.cons (.for_ g it s1) ss) D0 σ L := h
theorem e_var {i : Nat} {d : D} (h : σ[i]? = some (some d)) (q : Q d L) : wpE C (.var i) σ L Q E := ⟨d, h, q⟩
theorem e_lit {l : Lt} (q : Q l.d L) : wpE C (.lit l) σ L Q E := q
theorem e_ty {n : String} (q : Q (.ty n) L) : wpE C (.ty n) σ L Q E := q
theorem e_glb {x : Str} {d : D} (h : C.con x = some d) (q : Q d L) : wpE C (.glb x) σ L Q E := by
  show (match C.con x with | some d => dC d | none => dNo) σ L Q E
  rw [h]
  exact q
theorem e_bin {o : Bo} (q : wpE C a σ L (fun x L1 => wpE C b σ L1 (fun y L2 => wpBo o x y L2 Q) E) E) : wpE C (.bin o a b) σ L Q E := q
theorem e_cmp {o : Co} (q : wpE C a σ L (fun x L1 => wpE C b σ L1 (fun y L2 => wpCo o x y L2 Q) E) E) : wpE C (.cmp o a b) σ L Q E := q
theorem e_neg (q : wpE C a σ L (fun x L1 => oNeg x L1 Q) E) : wpE C (.neg a) σ L Q E := q
theorem e_not (q : wpE C a σ L (fun d L1 => ∃ c, d = .bl c ∧ Q (.bl (!c)) L1) E) : wpE C (.not_ a) σ L Q E := q
theorem e_bool1 {k : Bool} (q : wpE C a σ L Q E) : wpE C (.bool k (.cons a .nil)) σ L Q E := q
theorem e_and {e2 : Ex} {es : Exs} (q : wpE C a σ L (fun d L1 => ∃ c, d = .bl c ∧ cond c (wpE C (.bool true (.cons e2 es)) σ L1 Q E) (Q (.bl false) L1)) E) : wpE C (.bool true (.cons a (.cons e2 es))) σ L Q E := by
  have e : (fun (d : D) (L1 : HL) => ∃ c, d = .bl c ∧ cond c (wpE C (.bool true (.cons e2 es)) σ L1 Q E) (Q (.bl false) L1)) = fun (d : D) (L1 : HL) => ∃ c, d = .bl c ∧ if c = true then wpE C (.bool true (.cons e2 es)) σ L1 Q E else Q (.bl false) L1 := by
    funext d L1
    refine propext (exists_congr fun c => and_congr_right fun _ => ?_)
    cases c <;> exact Iff.rfl
  rw [e] at q
  exact q
theorem e_or {e2 : Ex} {es : Exs} (q : wpE C a σ L (fun d L1 => ∃ c, d = .bl c ∧ cond c (Q (.bl true) L1) (wpE C (.bool false (.cons e2 es)) σ L1 Q E)) E) : wpE C (.bool false (.cons a (.cons e2 es))) σ L Q E := by
  have e : (fun (d : D) (L1 : HL) => ∃ c, d = .bl c ∧ cond c (Q (.bl true) L1) (wpE C (.bool false (.cons e2 es)) σ L1 Q E)) = fun (d : D) (L1 : HL) => ∃ c, d = .bl c ∧ if c = true then Q (.bl true) L1 else wpE C (.bool false (.cons e2 es)) σ L1 Q E := by
    funext d L1
    refine propext (exists_congr fun c => and_congr_right fun _ => ?_)
    cases c <;> exact Iff.rfl
  rw [e] at q
  exact q
theorem e_ite {c : Tx} (q : wpT C c σ L (fun b0 L1 => cond b0 (wpE C a σ L1 Q E) (wpE C b σ L1 Q E)) E) : wpE C (.ite c a b) σ L Q E := by
  have e : (fun (b0 : Bool) (L1 : HL) => cond b0 (wpE C a σ L1 Q E) (wpE C b σ L1 Q E)) = fun (b0 : Bool) (L1 : HL) => if b0 = true then wpE C a σ L1 Q E else wpE C b σ L1 Q E := by
    funext b0 L1
    cases b0 <;> rfl
  rw [e] at q
  exact q
theorem e_idx (q : wpE C a σ L (fun x L1 => wpE C b σ L1 (fun y L2 => oIx x y L2 Q) E) E) : wpE C (.idx a b) σ L Q E := q
theorem e_get {f : Str} (q : wpE C a σ L (fun x L1 => ∃ p kvs d, x = .ref p ∧ (p, Ch.dct kvs) ∈ L1 ∧ kvs.lookup f = some d ∧ Q d L1) E) : wpE C (.get a f) σ L Q E := q
theorem e_slc {lo hi : Eo} (q : wpE C a σ L (fun x L1 => wpO C lo σ L1 (fun lo L2 => wpO C hi σ L2 (fun hi L3 => oSl x lo hi L3 Q) E) E) E) : wpE C (.slc a lo hi) σ L Q E := q
theorem o_none {R : Option Int → HL → Prop} (q : R none L) : wpO C .none σ L R E := q
theorem o_some {R : Option Int → HL → Prop} (q : wpE C a σ L (fun d L1 => ∃ i, d = .int i ∧ R (some i) L1) E) : wpO C (.some a) σ L R E := q
theorem e_fld {f : Str} (q : wpE C a σ L (fun x L1 => ∃ c fs d, IsI L1 x c fs ∧ f ∈ C.fds c ∧ fs.lookup f = some d ∧ Q d L1) E) : wpE C (.fld a f) σ L Q E := q
theorem a_nil {R : List D → HL → Prop} (q : R [] L) : wpA C .nil σ L R E := q
theorem a_cons {R : List D → HL → Prop} {es : Exs} (q : wpE C a σ L (fun x L1 => wpA C es σ L1 (fun xs L2 => R (x :: xs) L2) E) E) : wpA C (.cons a es) σ L R E := q
theorem e_tup {es : Exs} (q : wpA C es σ L (fun xs L1 => xs.length ≤ sizeLine ∧ Q (.tup xs) L1) E) : wpE C (.tup es) σ L Q E := q
theorem e_lst {es : Exs} (q : wpA C es σ L (fun xs L1 => xs.length ≤ sizeLine ∧ RetL xs L1 Q) E) : wpE C (.lst es) σ L Q E := q
theorem e_blt {f : Bf} {es : Exs} (q : wpA C es σ L (fun xs L1 => wpBf f xs L1 Q) E) : wpE C (.blt f es) σ L Q E := q
theorem e_mth {m : Mf} {es : Exs} (q : wpE C a σ L (fun x L1 => TyM L1 (mfT m) x ∧ wpA C es σ L1 (fun xs L2 => wpMf m x xs L2 Q) E) E) : wpE C (.mth m a es) σ L Q E := q
theorem e_lens (q : wpE C a σ L (fun x L1 => ∃ ns : List Str, IsS L1 x (ns.map D.str) ∧ ns.length ≤ 4000 ∧ Q (.int (dcount ns : Nat)) L1) E) : wpE C (.lenset a) σ L Q E := q
theorem e_call {x : Str} {id n : Nat} {sp : DSp} {dv : List D} {es : Exs} (h : C.fn id es.len = some (n, sp, dv)) (q : wpA C es σ L (fun xs L1 => (xs ++ dv).length = n ∧ sp (xs ++ dv) L1 (Cl Q) (ClX (E σ))) E) : wpE C (.call x id es) σ L Q E := by
  show (match C.fn id es.len with | some (n, sp, dv) => dCall n sp dv (wpA C es) | none => dNo) σ L Q E
  rw [h]
  exact q
theorem e_make {x : Str} {id n : Nat} {sp : DSp} {dv : List D} {es : Exs} (h : C.fn id es.len = some (n, sp, dv)) (q : wpA C es σ L (fun xs L1 => ∀ p, (D.ref p :: (xs ++ dv)).length = n ∧ sp (.ref p :: (xs ++ dv)) ((p, .ins x []) :: L1) (Cl fun d L2 => d = .non ∧ Cl Q (.ref p) L2) (ClX (E σ))) E) : wpE C (.make x id es) σ L Q E := by
  show (match C.fn id es.len with | some (n, sp, dv) => dMake x n sp dv (wpA C es) | none => dNo) σ L Q E
  rw [h]
  exact q
theorem e_meth {c m : Str} {id n : Nat} {sp : DSp} {dv : List D} {es : Exs} (h : C.fn id es.len = some (n, sp, dv)) (hc : c ≠ "") (q : wpE C a σ L (fun x L1 => ∃ fs, IsI L1 x c fs ∧ fs.lookup m = none ∧ wpA C es σ L1 (fun xs L2 => (x :: (xs ++ dv)).length = n ∧ sp (x :: (xs ++ dv)) L2 (Cl Q) (ClX (E σ))) E) E) : wpE C (.meth c m id a es) σ L Q E := by
  show (match C.fn id es.len with | some (n, sp, dv) => (fun σ L Q E => c ≠ "" ∧ dMeth c m n sp dv (wpE C a) (wpA C es) σ L Q E) | none => dNo) σ L Q E
  rw [h]
  exact ⟨hc, q⟩
theorem e_lcp {it : Ix} {j1 j2 : Nat} {te : Ex} (q : wpI C it σ L (fun q L1 => ∃ W : Nat → List D → HL → Prop, W 0 [] L1 ∧ LIp q j1 j2 (wpE C te) σ (fun acc L2 => RetL acc L2 Q) W) E) : wpE C (.lcp it j1 j2 te) σ L Q E := q
theorem e_lc {it : Ix} {j : Nat} {tt : Tx} {te : Ex} (q : wpI C it σ L (fun q L1 => ∃ W : Nat → List D → HL → Prop, W 0 [] L1 ∧ LI q j (wpT C tt) (wpE C te) [j] σ (fun acc L2 => RetL acc L2 Q) W) E) : wpE C (.lc it j tt te) σ L Q E := q
variable {R : Bool → HL → Prop}
theorem t_yes (q : R true L) : wpT C .yes σ L R E := q
theorem t_val (q : wpE C a σ L (fun d L1 => ∃ b, d = .bl b ∧ R b L1) E) : wpT C (.val a) σ L R E := q
theorem t_cmp {o : Co} (q : wpE C a σ L (fun x L1 => wpE C b σ L1 (fun y L2 => wpCo o x y L2 (fun d L3 => ∃ b, d = .bl b ∧ R b L3)) E) E) : wpT C (.cmp o a b) σ L R E := q
theorem t_not {t : Tx} (q : wpT C t σ L (fun c L1 => R (!c) L1) E) : wpT C (.not_ t) σ L R E := q
theorem t_one {k : Bool} {t : Tx} (q : wpT C t σ L R E) : wpT C (.bool k (.cons t .nil)) σ L R E := q
theorem t_and {t t2 : Tx} {ts : Txs} (q : wpT C t σ L (fun c L1 => cond c (wpT C (.bool true (.cons t2 ts)) σ L1 R E) (R false L1)) E) : wpT C (.bool true (.cons t (.cons t2 ts))) σ L R E := by
  have e : (fun (c : Bool) (L1 : HL) => cond c (wpT C (.bool true (.cons t2 ts)) σ L1 R E) (R false L1)) = fun (c : Bool) (L1 : HL) => if c = true then wpT C (.bool true (.cons t2 ts)) σ L1 R E else R false L1 := by
    funext c L1
    cases c <;> rfl
  rw [e] at q
  exact q
theorem t_or {t t2 : Tx} {ts : Txs} (q : wpT C t σ L (fun c L1 => cond c (R true L1) (wpT C (.bool false (.cons t2 ts)) σ L1 R E)) E) : wpT C (.bool false (.cons t (.cons t2 ts))) σ L R E := by
  have e : (fun (c : Bool) (L1 : HL) => cond c (R true L1) (wpT C (.bool false (.cons t2 ts)) σ L1 R E)) = fun (c : Bool) (L1 : HL) => if c = true then R true L1 else wpT C (.bool false (.cons t2 ts)) σ L1 R E := by
    funext c L1
    cases c <;> rfl
  rw [e] at q
  exact q
variable {S : Sq → HL → Prop} {T : Sl → HL → Prop} {d : D}
theorem i_of_ (q : wpE C a σ L (fun x L1 => oIter x L1 S) E) : wpI C (.of a) σ L S E := q
theorem i_rng_ {es : Exs} (q : wpA C es σ L (fun xs L1 => oRange xs L1 S) E) : wpI C (.rng es) σ L S E := q
theorem g_sub {o i : Ex} (q : wpE C o σ L (fun o L1 => wpE C i σ L1 (fun i L2 => oSet o i d L2 (fun L3 => T σ L3)) E) E) : wpG C (.sub o i) d σ L T E := q
theorem g_tup {gs : Tgs} (q : oUnp gs.len d L fun ds => wpGs C gs ds σ L T E) : wpG C (.tup gs) d σ L T E := q
theorem gs_nil (q : T σ L) : wpGs C .nil [] σ L T E := ⟨rfl, q⟩
theorem gs_cons {g : Tg} {gs : Tgs} {ds : List D} (q : wpG C g d σ L (fun σ1 L1 => wpGs C gs ds σ1 L1 T E) E) : wpGs C (.cons g gs) (d :: ds) σ L T E := ⟨d, ds, rfl, q⟩
end
end DM
set_option Elab.async false
set_option linter.all false
set_option maxRecDepth 100000
namespace DM
open PySem L2
mutual
def D.py : D → PyData
  | .bl b => .bool b
  | .int i => .int i
  | .str x => .str x
  | .tup ds => .tuple (pyAll ds)
  | .lst ds => .list (pyAll ds)
  | _ => .none
def pyAll : List D → List PyData
  | [] => []
  | d :: ds => d.py :: pyAll ds
end
mutual
def okq : Nat → D → Bool
  | _, .non => true
  | _, .int _ => true
  | _, .str x => PyData.strOk x
  | n + 1, .tup ds => okqs n ds
  | n + 1, .lst ds => okqs n ds
  | _, _ => false
def okqs : Nat → List D → Bool
  | _, [] => true
  | n, d :: ds => okq n d && okqs n ds
end
theorem okqs_iff {n : Nat} : ∀ {ds : List D}, okqs n ds = true ↔ ∀ d ∈ ds, okq n d = true
  | [] => by unfold okqs; simp
  | d :: ds => by
    unfold okqs
    rw [Bool.and_eq_true, okqs_iff]
    simp
mutual
theorem okq_py {L : HL} : ∀ {n : Nat} {d : D}, okq n d = true → Py L d d.py ∧ d.py.canLay0 = true ∧ d.py.depth ≤ n
  | n, .non, _ => ⟨.non, rfl, Nat.zero_le _⟩
  | n, .int i, _ => ⟨.int i, rfl, Nat.zero_le _⟩
  | n, .str x, h => ⟨.str x, by unfold okq at h; exact h, Nat.zero_le _⟩
  | n + 1, .tup ds, h => by
    unfold okq at h
    obtain ⟨h1, h2, h3⟩ := okqs_py (L := L) h
    exact ⟨.tup h1, h2, Nat.succ_le_succ h3⟩
  | n + 1, .lst ds, h => by
    unfold okq at h
    obtain ⟨h1, h2, h3⟩ := okqs_py (L := L) h
    exact ⟨.lst h1, h2, Nat.succ_le_succ h3⟩
  | 0, .tup _, h => by unfold okq at h; cases h
  | 0, .lst _, h => by unfold okq at h; cases h
  | 0, .bl _, h => by unfold okq at h; cases h
  | 0, .ty _, h => by unfold okq at h; cases h
  | 0, .ref _, h => by unfold okq at h; cases h
  | 0, .frz _, h => by unfold okq at h; cases h
  | 0, .ins _ _, h => by unfold okq at h; cases h
  | 0, .exc _ _, h => by unfold okq at h; cases h
  | 0, .lam _, h => by unfold okq at h; cases h
  | n + 1, .bl _, h => by unfold okq at h; cases h
  | n + 1, .ty _, h => by unfold okq at h; cases h
  | n + 1, .ref _, h => by unfold okq at h; cases h
  | n + 1, .frz _, h => by unfold okq at h; cases h
  | n + 1, .ins _ _, h => by unfold okq at h; cases h
  | n + 1, .exc _ _, h => by unfold okq at h; cases h
  | n + 1, .lam _, h => by unfold okq at h; cases h
theorem okqs_py {L : HL} : ∀ {n : Nat} {ds : List D}, okqs n ds = true → PyL L ds (pyAll ds) ∧ PyData.canLayAll0 (pyAll ds) = true ∧ PyData.depthAll (pyAll ds) ≤ n
  | n, [], _ => ⟨.nil, rfl, Nat.zero_le _⟩
  | n, d :: ds, h => by
    unfold okqs at h
    rw [Bool.and_eq_true] at h
    obtain ⟨a1, a2, a3⟩ := okq_py (L := L) h.1
    obtain ⟨b1, b2, b3⟩ := okqs_py (L := L) h.2
    refine ⟨.cons a1 b1, ?_, ?_⟩
    · show (d.py.canLay0 && PyData.canLayAll0 (pyAll ds)) = true
      rw [a2, b2]
      rfl
    · show max d.py.depth (PyData.depthAll (pyAll ds)) ≤ n
      exact Nat.max_le.mpr ⟨a3, b3⟩
end
mutual
theorem eqv_iff : ∀ {n m : Nat} {d e : D}, okq n d = true → okq m e = true → (PyData.eqv d.py e.py = true ↔ d = e)
  | n, m, .tup ds, .tup es, h, h' => by
    cases n <;> cases m <;> unfold okq at h h' <;> first | (cases h; done) | (cases h'; done) | skip
    have := eqvs_iff h h'
    show PyData.eqvAll (pyAll ds) (pyAll es) = true ↔ _
    rw [this]
    exact ⟨fun e => e ▸ rfl, fun e => by cases e; rfl⟩
  | n, m, .lst ds, .lst es, h, h' => by
    cases n <;> cases m <;> unfold okq at h h' <;> first | (cases h; done) | (cases h'; done) | skip
    have := eqvs_iff h h'
    show PyData.eqvAll (pyAll ds) (pyAll es) = true ↔ _
    rw [this]
    exact ⟨fun e => e ▸ rfl, fun e => by cases e; rfl⟩
  | n, m, .int i, .int j, h, h' => by
    show (i == j) = true ↔ _
    rw [beq_iff_eq]
    exact ⟨fun e => e ▸ rfl, fun e => by cases e; rfl⟩
  | n, m, .str i, .str j, h, h' => by
    show (i == j) = true ↔ _
    rw [beq_iff_eq]
    exact ⟨fun e => e ▸ rfl, fun e => by cases e; rfl⟩
  | n, m, .non, .non, h, h' => ⟨fun _ => rfl, fun _ => rfl⟩
  | n, m, .bl _, e, h, h' => by cases n <;> (unfold okq at h; cases h)
  | n, m, .ty _, e, h, h' => by cases n <;> (unfold okq at h; cases h)
  | n, m, .ref _, e, h, h' => by cases n <;> (unfold okq at h; cases h)
  | n, m, .frz _, e, h, h' => by cases n <;> (unfold okq at h; cases h)
  | n, m, .ins _ _, e, h, h' => by cases n <;> (unfold okq at h; cases h)
  | n, m, .exc _ _, e, h, h' => by cases n <;> (unfold okq at h; cases h)
  | n, m, .lam _, e, h, h' => by cases n <;> (unfold okq at h; cases h)
  | n, m, e, .bl _, h, h' => by cases m <;> (unfold okq at h'; cases h')
  | n, m, e, .ty _, h, h' => by cases m <;> (unfold okq at h'; cases h')
  | n, m, e, .ref _, h, h' => by cases m <;> (unfold okq at h'; cases h')
  | n, m, e, .frz _, h, h' => by cases m <;> (unfold okq at h'; cases h')
  | n, m, e, .ins _ _, h, h' => by cases m <;> (unfold okq at h'; cases h')
  | n, m, e, .exc _ _, h, h' => by cases m <;> (unfold okq at h'; cases h')
  | n, m, e, .lam _, h, h' => by cases m <;> (unfold okq at h'; cases h')
  | n, m, .non, .int _, h, h' => ⟨(by intro z; cases z), (by intro z; cases z)⟩
  | n, m, .non, .str _, h, h' => ⟨(by intro z; cases z), (by intro z; cases z)⟩
  | n, m, .non, .tup _, h, h' => ⟨(by intro z; cases z), (by intro z; cases z)⟩
  | n, m, .non, .lst _, h, h' => ⟨(by intro z; cases z), (by intro z; cases z)⟩
  | n, m, .int _, .non, h, h' => ⟨(by intro z; cases z), (by intro z; cases z)⟩
  | n, m, .int _, .str _, h, h' => ⟨(by intro z; cases z), (by intro z; cases z)⟩
  | n, m, .int _, .tup _, h, h' => ⟨(by intro z; cases z), (by intro z; cases z)⟩
  | n, m, .int _, .lst _, h, h' => ⟨(by intro z; cases z), (by intro z; cases z)⟩
  | n, m, .str _, .non, h, h' => ⟨(by intro z; cases z), (by intro z; cases z)⟩
  | n, m, .str _, .int _, h, h' => ⟨(by intro z; cases z), (by intro z; cases z)⟩
  | n, m, .str _, .tup _, h, h' => ⟨(by intro z; cases z), (by intro z; cases z)⟩
  | n, m, .str _, .lst _, h, h' => ⟨(by intro z; cases z), (by intro z; cases z)⟩
  | n, m, .tup _, .non, h, h' => ⟨(by intro z; cases z), (by intro z; cases z)⟩
  | n, m, .tup _, .int _, h, h' => ⟨(by intro z; cases z), (by intro z; cases z)⟩
  | n, m, .tup _, .str _, h, h' => ⟨(by intro z; cases z), (by intro z; cases z)⟩
  | n, m, .tup _, .lst _, h, h' => ⟨(by intro z; cases z), (by intro z; cases z)⟩
  | n, m, .lst _, .non, h, h' => ⟨(by intro z; cases z), (by intro z; cases z)⟩
  | n, m, .lst _, .int _, h, h' => ⟨(by intro z; cases z), (by intro z; cases z)⟩
  | n, m, .lst _, .str _, h, h' => ⟨(by intro z; cases z), (by intro z; cases z)⟩
  | n, m, .lst _, .tup _, h, h' => ⟨(by intro z; cases z), (by intro z; cases z)⟩
theorem eqvs_iff : ∀ {n m : Nat} {ds es : List D}, okqs n ds = true → okqs m es = true → (PyData.eqvAll (pyAll ds) (pyAll es) = true ↔ ds = es)
  | _, _, [], [], _, _ => ⟨fun _ => rfl, fun _ => rfl⟩
  | _, _, [], _ :: _, _, _ => ⟨(by intro z; cases z), (by intro z; cases z)⟩
  | _, _, _ :: _, [], _, _ => ⟨(by intro z; cases z), (by intro z; cases z)⟩
  | n, m, d :: ds, e :: es, h, h' => by
    unfold okqs at h h'
    rw [Bool.and_eq_true] at h h'
    have h1 := eqv_iff h.1 h'.1
    have h2 := eqvs_iff h.2 h'.2
    show (PyData.eqv d.py e.py && PyData.eqvAll (pyAll ds) (pyAll es)) = true ↔ _
    rw [Bool.and_eq_true, h1, h2, List.cons.injEq]
end
/-- what stands there, seen as data -/
inductive Vw (L : HL) : D → D → Prop
  | same (d : D) : Vw L d d
  | own {p : Addr} {ds : List D} : (p, Ch.lst ds) ∈ L → Vw L (.ref p) (.lst ds)
theorem Vw.py {L : HL} {x d : D} (h : Vw L x d) (o : okq 8 d = true) : Py L x d.py ∧ SeqAt.shaped d.py = true := by
  obtain ⟨h1, h2, h3⟩ := okq_py (L := L) o
  have s : SeqAt.shaped d.py = true := by
    unfold SeqAt.shaped
    rw [h2, Bool.true_and]
    exact decide_eq_true (by omega)
  refine ⟨?_, s⟩
  cases h with
  | same => exact h1
  | own m =>
    unfold okq at o
    exact .own m (okqs_py o).1
section
variable {L : HL} {Q : Qd}
theorem p_eq {x y d e : D} (h1 : Vw L x d) (h2 : Vw L y e) (o1 : okq 8 d = true) (o2 : okq 8 e = true) (q : ∀ b : Bool, (b = true ↔ d = e) → Q (.bl b) L) : wpCo .eq x y L Q := by
  obtain ⟨a1, a2⟩ := h1.py o1
  obtain ⟨b1, b2⟩ := h2.py o2
  exact .mk a1 b1 a2 b2 (q _ (eqv_iff o1 o2))
theorem p_ne {x y d e : D} (h1 : Vw L x d) (h2 : Vw L y e) (o1 : okq 8 d = true) (o2 : okq 8 e = true) (q : ∀ b : Bool, (b = true ↔ d ≠ e) → Q (.bl b) L) : wpCo .ne x y L Q := by
  obtain ⟨a1, a2⟩ := h1.py o1
  obtain ⟨b1, b2⟩ := h2.py o2
  refine .mk a1 b1 a2 b2 (q _ ?_)
  have := eqv_iff o1 o2
  cases e : PyData.eqv d.py _ <;> rw [e] at this <;> simp at this ⊢ <;> exact this
theorem any_pyAll {x : D} : ∀ {ys : List D}, (∀ y ∈ ys, okq 7 y = true) → okq 8 x = true → ((pyAll ys).any (fun z => PyData.eqv z x.py) = true ↔ x ∈ ys)
  | [], _, _ => by unfold pyAll; simp
  | y :: ys, h, hx => by
    unfold pyAll
    rw [List.any_cons, Bool.or_eq_true, any_pyAll (fun z m => h z (.tail _ m)) hx, eqv_iff (h y (.head _)) hx, List.mem_cons]
    exact or_congr_left eq_comm
theorem p_in {x y : D} {ys : List D} (h : Vw L y (.lst ys)) (o1 : okq 8 x = true) (o2 : ∀ z ∈ ys, okq 7 z = true) (q : ∀ b : Bool, (b = true ↔ x ∈ ys) → Q (.bl b) L) : wpCo .inn x y L Q := by
  obtain ⟨a1, a2⟩ := (Vw.same (L := L) x).py o1
  obtain ⟨b1, b2⟩ := h.py (d := .lst ys) (by unfold okq; exact okqs_iff.mpr o2)
  exact .deep a1 b1 a2 b2 (q _ (any_pyAll o2 o1))
theorem p_nin {x y : D} {ys : List D} (h : Vw L y (.lst ys)) (o1 : okq 8 x = true) (o2 : ∀ z ∈ ys, okq 7 z = true) (q : ∀ b : Bool, (b = true ↔ x ∉ ys) → Q (.bl b) L) : wpCo .nin x y L Q := by
  obtain ⟨a1, a2⟩ := (Vw.same (L := L) x).py o1
  obtain ⟨b1, b2⟩ := h.py (d := .lst ys) (by unfold okq; exact okqs_iff.mpr o2)
  refine .deep a1 b1 a2 b2 (q _ ?_)
  have := any_pyAll o2 o1
  cases e : (pyAll ys).any (fun z => PyData.eqv z x.py) <;> rw [e] at this <;> simp at this ⊢ <;> exact this
theorem p_add {i j : Int} (q : Q (.int (i + j)) L) : wpBo .add (.int i) (.int j) L Q := .int q
theorem p_cat {s t : Str} (z : s.length + t.length ≤ sizeLine) (q : Q (.str (s ++ t)) L) : wpBo .add (.str s) (.str t) L Q := .str z q
theorem p_ladd {x y : D} {xs ys : List D} (h1 : IsL L x xs) (h2 : IsL L y ys) (z : xs.length + ys.length ≤ sizeLine) (q : Q (.lst (xs ++ ys)) L) : wpBo .add x y L Q := .lst h1 h2 z (.inl q)
theorem p_sub {i j : Int} (q : Q (.int (i - j)) L) : wpBo .sub (.int i) (.int j) L Q := .mk trivial q
theorem p_mul {i j : Int} (c : i.natAbs.log2 + j.natAbs.log2 < 1000000) (q : Q (.int (i * j)) L) : wpBo .mul (.int i) (.int j) L Q := .int c q
theorem p_div {i j : Int} (c : 0 < j) (c2 : j.natAbs.log2 < 9000) (q : Q (.int (i / j)) L) : wpBo .div (.int i) (.int j) L Q := .mk ⟨c, c2⟩ q
theorem p_mod {i j : Int} (c : 0 < j) (q : Q (.int (i % j)) L) : wpBo .mod (.int i) (.int j) L Q := .mk c q
theorem p_pow {i j : Int} (c : 0 ≤ j ∧ j ≤ 1000000 ∧ i.natAbs < 2 ^ 64) (q : Q (.int (i ^ j.toNat)) L) : wpBo .pow (.int i) (.int j) L Q := .mk c q
theorem p_lt {i j : Int} (q : Q (.bl (decide (i < j))) L) : wpCo .lt (.int i) (.int j) L Q := .mk trivial q
theorem p_le {i j : Int} (q : Q (.bl (decide (i ≤ j))) L) : wpCo .le (.int i) (.int j) L Q := .mk trivial q
theorem p_gt {i j : Int} (q : Q (.bl (decide (j < i))) L) : wpCo .gt (.int i) (.int j) L Q := .mk trivial q
theorem p_ge {i j : Int} (q : Q (.bl (decide (j ≤ i))) L) : wpCo .ge (.int i) (.int j) L Q := .mk trivial q
theorem p_eqi {i j : Int} (q : Q (.bl (decide (i = j))) L) : wpCo .eq (.int i) (.int j) L Q := p_eq (.same _) (.same _) rfl rfl fun b h => by
  have : b = decide (i = j) := by cases b <;> simp_all
  exact this ▸ q
theorem p_nei {i j : Int} (q : Q (.bl (decide (i ≠ j))) L) : wpCo .ne (.int i) (.int j) L Q := p_ne (.same _) (.same _) rfl rfl fun b h => by
  have : b = decide (i ≠ j) := by cases b <;> simp_all
  exact this ▸ q
theorem p_eqs {i j : Str} (o1 : PyData.strOk i = true) (o2 : PyData.strOk j = true) (q : Q (.bl (decide (i = j))) L) : wpCo .eq (.str i) (.str j) L Q := p_eq (.same _) (.same _) o1 o2 fun b h => by
  have : b = decide (i = j) := by cases b <;> simp_all
  exact this ▸ q
theorem p_nes {i j : Str} (o1 : PyData.strOk i = true) (o2 : PyData.strOk j = true) (q : Q (.bl (decide (i ≠ j))) L) : wpCo .ne (.str i) (.str j) L Q := p_ne (.same _) (.same _) o1 o2 fun b h => by
  have : b = decide (i ≠ j) := by cases b <;> simp_all
  exact this ▸ q
theorem p_is {x : D} (q : Q (.bl (isNon x)) L) : wpCo .isa x .non L Q := .mk q
theorem p_isnt {x : D} (q : Q (.bl (!isNon x)) L) : wpCo .isnt x .non L Q := .mk q
theorem p_len {x : D} {ds : List D} (h : IsS L x ds) (q : Q (.int (ds.length : Int)) L) : wpBf .len [x] L Q := .seq h q
theorem p_lens {z : Str} (q : Q (.int (z.length : Int)) L) : wpBf .len [.str z] L Q := .str q
theorem p_list {x : D} {ds : List D} (h : IsS L x ds) (q : Q (.lst ds) L) : wpBf .list [x] L Q := .seq h (.inl q)
theorem p_listR {x : D} {ds : List D} (h : IsS L x ds) (q : ∀ p, Q (.ref p) ((p, .lst ds) :: L)) : wpBf .list [x] L Q := .seq h (.inr q)
theorem p_tupl {x : D} {ds : List D} (h : IsL L x ds) (q : Q (.tup ds) L) : wpBf .tuple [x] L Q := .lst h q
theorem p_tup {ds : List D} (q : Q (.tup ds) L) : wpBf .tuple [.tup ds] L Q := .tup q
theorem szl2 {n : Nat} (h : n ≤ 5000) : n ≤ sizeLine := Nat.le_trans h (by decide)
theorem p_all {x : D} {bs : List Bool} (h : IsL L x (bs.map D.bl)) (q : Q (.bl (bs.all id)) L) : wpBf .all [x] L Q := .mk h q
theorem p_any {x : D} {bs : List Bool} (h : IsL L x (bs.map D.bl)) (q : Q (.bl (bs.any id)) L) : wpBf .any [x] L Q := .mk h q
theorem p_max {i j : Int} (q : Q (.int (max i j)) L) : wpBf .max [.int i, .int j] L Q := .two (by
  have : (if j > i then j else i) = max i j := by split <;> omega
  rw [this]; exact q)
theorem p_min {i j : Int} (q : Q (.int (min i j)) L) : wpBf .min [.int i, .int j] L Q := .two (by
  have : (if j < i then j else i) = min i j := by split <;> omega
  rw [this]; exact q)
theorem p_abs {i : Int} (q : Q (.int (i.natAbs : Int)) L) : wpBf .abs [.int i] L Q := .mk (by
  have : (if i < 0 then -i else i) = (i.natAbs : Int) := by split <;> omega
  rw [this]; exact q)
theorem small_div {i j : Int} (h : j.natAbs.log2 < 9000) : Builtin.divisionGoesByPylong i j = false := by
  unfold Builtin.divisionGoesByPylong
  have : ¬ (if (j == 0) = true then 0 else j.natAbs.log2 / 30 + 1) > 300 := by split <;> omega
  simp only [Bool.and_eq_false_iff]
  exact .inl (decide_eq_false this)
theorem p_divmod {i j : Int} (c : 0 < j) (c2 : j.natAbs.log2 < 9000) (q : Q (.tup [.int (i / j), .int (i % j)]) L) : wpBf .divmod [.int i, .int j] L Q := .mk ⟨c, small_div c2⟩ q
theorem p_isi {x : D} {T n : String} (h : TyD L x T) (m : n ∈ ["int", "bool", "str", "list", "tuple"]) (q : Q (.bl (subB T n)) L) : wpBf .isi [x, .ty n] L Q := .one h m q
theorem p_isi2 {x : D} {T a b : String} (h : TyD L x T) (m : ∀ z ∈ [a, b], z ∈ ["int", "bool", "str", "list", "tuple"]) (q : Q (.bl (subB T a || subB T b)) L) : wpBf .isi [x, .tup [.ty a, .ty b]] L Q := .many (ns := [a, b]) h m (by simpa using q)
theorem p_isi3 {x : D} {T a b c : String} (h : TyD L x T) (m : ∀ z ∈ [a, b, c], z ∈ ["int", "bool", "str", "list", "tuple"]) (q : Q (.bl (subB T a || (subB T b || subB T c))) L) : wpBf .isi [x, .tup [.ty a, .ty b, .ty c]] L Q := .many (ns := [a, b, c]) h m (by simpa using q)
theorem c_t {p q : Prop} (h : p) : cond true p q := h
theorem c_f {p q : Prop} (h : q) : cond false p q := h
theorem c_b {b : Bool} {p q : Prop} (h1 : b = true → p) (h2 : b = false → q) : cond b p q := by
  cases b
  · exact h2 rfl
  · exact h1 rfl
end
end DM
set_option Elab.async false
set_option linter.all false
set_option maxRecDepth 100000
namespace DM
open PySem L2
section
variable {C : Ct} {D0 : DE} {σ : Sl} {L : HL} {Q : Qd} {E : Xd} {ss : Stms} {e : Ex} {d : D} {T : Sl → HL → Prop}
theorem e_v0  (q : Q d L) : wpE C (.var 0) (some d :: σ) L Q E := e_var rfl q
theorem s_n0 {x0 : Option D} (h : wpE C e (x0 :: σ) L (fun d L1 => wpSs C ss D0 (some d :: σ) L1) D0.ex) : wpSs C (.cons (.asg (.name 0) e) ss) D0 (x0 :: σ) L := h
theorem g_n0 {x0 : Option D} (q : T (some d :: σ) L) : wpG C (.name 0) d (x0 :: σ) L T E := q
theorem e_v1 {x0 : Option D} (q : Q d L) : wpE C (.var 1) (x0 :: some d :: σ) L Q E := e_var rfl q
theorem s_n1 {x0 x1 : Option D} (h : wpE C e (x0 :: x1 :: σ) L (fun d L1 => wpSs C ss D0 (x0 :: some d :: σ) L1) D0.ex) : wpSs C (.cons (.asg (.name 1) e) ss) D0 (x0 :: x1 :: σ) L := h
theorem g_n1 {x0 x1 : Option D} (q : T (x0 :: some d :: σ) L) : wpG C (.name 1) d (x0 :: x1 :: σ) L T E := q
theorem e_v2 {x0 x1 : Option D} (q : Q d L) : wpE C (.var 2) (x0 :: x1 :: some d :: σ) L Q E := e_var rfl q
theorem s_n2 {x0 x1 x2 : Option D} (h : wpE C e (x0 :: x1 :: x2 :: σ) L (fun d L1 => wpSs C ss D0 (x0 :: x1 :: some d :: σ) L1) D0.ex) : wpSs C (.cons (.asg (.name 2) e) ss) D0 (x0 :: x1 :: x2 :: σ) L := h
theorem g_n2 {x0 x1 x2 : Option D} (q : T (x0 :: x1 :: some d :: σ) L) : wpG C (.name 2) d (x0 :: x1 :: x2 :: σ) L T E := q
theorem e_v3 {x0 x1 x2 : Option D} (q : Q d L) : wpE C (.var 3) (x0 :: x1 :: x2 :: some d :: σ) L Q E := e_var rfl q
theorem s_n3 {x0 x1 x2 x3 : Option D} (h : wpE C e (x0 :: x1 :: x2 :: x3 :: σ) L (fun d L1 => wpSs C ss D0 (x0 :: x1 :: x2 :: some d :: σ) L1) D0.ex) : wpSs C (.cons (.asg (.name 3) e) ss) D0 (x0 :: x1 :: x2 :: x3 :: σ) L := h
theorem g_n3 {x0 x1 x2 x3 : Option D} (q : T (x0 :: x1 :: x2 :: some d :: σ) L) : wpG C (.name 3) d (x0 :: x1 :: x2 :: x3 :: σ) L T E := q
theorem e_v4 {x0 x1 x2 x3 : Option D} (q : Q d L) : wpE C (.var 4) (x0 :: x1 :: x2 :: x3 :: some d :: σ) L Q E := e_var rfl q
theorem s_n4 {x0 x1 x2 x3 x4 : Option D} (h : wpE C e (x0 :: x1 :: x2 :: x3 :: x4 :: σ) L (fun d L1 => wpSs C ss D0 (x0 :: x1 :: x2 :: x3 :: some d :: σ) L1) D0.ex) : wpSs C (.cons (.asg (.name 4) e) ss) D0 (x0 :: x1 :: x2 :: x3 :: x4 :: σ) L := h
theorem g_n4 {x0 x1 x2 x3 x4 : Option D} (q : T (x0 :: x1 :: x2 :: x3 :: some d :: σ) L) : wpG C (.name 4) d (x0 :: x1 :: x2 :: x3 :: x4 :: σ) L T E := q
theorem e_v5 {x0 x1 x2 x3 x4 : Option D} (q : Q d L) : wpE C (.var 5) (x0 :: x1 :: x2 :: x3 :: x4 :: some d :: σ) L Q E := e_var rfl q
theorem s_n5 {x0 x1 x2 x3 x4 x5 : Option D} (h : wpE C e (x0 :: x1 :: x2 :: x3 :: x4 :: x5 :: σ) L (fun d L1 => wpSs C ss D0 (x0 :: x1 :: x2 :: x3 :: x4 :: some d :: σ) L1) D0.ex) : wpSs C (.cons (.asg (.name 5) e) ss) D0 (x0 :: x1 :: x2 :: x3 :: x4 :: x5 :: σ) L := h
theorem g_n5 {x0 x1 x2 x3 x4 x5 : Option D} (q : T (x0 :: x1 :: x2 :: x3 :: x4 :: some d :: σ) L) : wpG C (.name 5) d (x0 :: x1 :: x2 :: x3 :: x4 :: x5 :: σ) L T E := q
theorem e_v6 {x0 x1 x2 x3 x4 x5 : Option D} (q : Q d L) : wpE C (.var 6) (x0 :: x1 :: x2 :: x3 :: x4 :: x5 :: some d :: σ) L Q E := e_var rfl q
theorem s_n6 {x0 x1 x2 x3 x4 x5 x6 : Option D} (h : wpE C e (x0 :: x1 :: x2 :: x3 :: x4 :: x5 :: x6 :: σ) L (fun d L1 => wpSs C ss D0 (x0 :: x1 :: x2 :: x3 :: x4 :: x5 :: some d :: σ) L1) D0.ex) : wpSs C (.cons (.asg (.name 6) e) ss) D0 (x0 :: x1 :: x2 :: x3 :: x4 :: x5 :: x6 :: σ) L := h
theorem g_n6 {x0 x1 x2 x3 x4 x5 x6 : Option D} (q : T (x0 :: x1 :: x2 :: x3 :: x4 :: x5 :: some d :: σ) L) : wpG C (.name 6) d (x0 :: x1 :: x2 :: x3 :: x4 :: x5 :: x6 :: σ) L T E := q
theorem e_v7 {x0 x1 x2 x3 x4 x5 x6 : Option D} (q : Q d L) : wpE C (.var 7) (x0 :: x1 :: x2 :: x3 :: x4 :: x5 :: x6 :: some d :: σ) L Q E := e_var rfl q
theorem s_n7 {x0 x1 x2 x3 x4 x5 x6 x7 : Option D} (h : wpE C e (x0 :: x1 :: x2 :: x3 :: x4 :: x5 :: x6 :: x7 :: σ) L (fun d L1 => wpSs C ss D0 (x0 :: x1 :: x2 :: x3 :: x4 :: x5 :: x6 :: some d :: σ) L1) D0.ex) : wpSs C (.cons (.asg (.name 7) e) ss) D0 (x0 :: x1 :: x2 :: x3 :: x4 :: x5 :: x6 :: x7 :: σ) L := h
theorem g_n7 {x0 x1 x2 x3 x4 x5 x6 x7 : Option D} (q : T (x0 :: x1 :: x2 :: x3 :: x4 :: x5 :: x6 :: some d :: σ) L) : wpG C (.name 7) d (x0 :: x1 :: x2 :: x3 :: x4 :: x5 :: x6 :: x7 :: σ) L T E := q
theorem e_v8 {x0 x1 x2 x3 x4 x5 x6 x7 : Option D} (q : Q d L) : wpE C (.var 8) (x0 :: x1 :: x2 :: x3 :: x4 :: x5 :: x6 :: x7 :: some d :: σ) L Q E := e_var rfl q
theorem s_n8 {x0 x1 x2 x3 x4 x5 x6 x7 x8 : Option D} (h : wpE C e (x0 :: x1 :: x2 :: x3 :: x4 :: x5 :: x6 :: x7 :: x8 :: σ) L (fun d L1 => wpSs C ss D0 (x0 :: x1 :: x2 :: x3 :: x4 :: x5 :: x6 :: x7 :: some d :: σ) L1) D0.ex) : wpSs C (.cons (.asg (.name 8) e) ss) D0 (x0 :: x1 :: x2 :: x3 :: x4 :: x5 :: x6 :: x7 :: x8 :: σ) L := h
theorem g_n8 {x0 x1 x2 x3 x4 x5 x6 x7 x8 : Option D} (q : T (x0 :: x1 :: x2 :: x3 :: x4 :: x5 :: x6 :: x7 :: some d :: σ) L) : wpG C (.name 8) d (x0 :: x1 :: x2 :: x3 :: x4 :: x5 :: x6 :: x7 :: x8 :: σ) L T E := q
theorem e_v9 {x0 x1 x2 x3 x4 x5 x6 x7 x8 : Option D} (q : Q d L) : wpE C (.var 9) (x0 :: x1 :: x2 :: x3 :: x4 :: x5 :: x6 :: x7 :: x8 :: some d :: σ) L Q E := e_var rfl q
theorem s_n9 {x0 x1 x2 x3 x4 x5 x6 x7 x8 x9 : Option D} (h : wpE C e (x0 :: x1 :: x2 :: x3 :: x4 :: x5 :: x6 :: x7 :: x8 :: x9 :: σ) L (fun d L1 => wpSs C ss D0 (x0 :: x1 :: x2 :: x3 :: x4 :: x5 :: x6 :: x7 :: x8 :: some d :: σ) L1) D0.ex) : wpSs C (.cons (.asg (.name 9) e) ss) D0 (x0 :: x1 :: x2 :: x3 :: x4 :: x5 :: x6 :: x7 :: x8 :: x9 :: σ) L := h
theorem g_n9 {x0 x1 x2 x3 x4 x5 x6 x7 x8 x9 : Option D} (q : T (x0 :: x1 :: x2 :: x3 :: x4 :: x5 :: x6 :: x7 :: x8 :: some d :: σ) L) : wpG C (.name 9) d (x0 :: x1 :: x2 :: x3 :: x4 :: x5 :: x6 :: x7 :: x8 :: x9 :: σ) L T E := q
theorem e_v10 {x0 x1 x2 x3 x4 x5 x6 x7 x8 x9 : Option D} (q : Q d L) : wpE C (.var 10) (x0 :: x1 :: x2 :: x3 :: x4 :: x5 :: x6 :: x7 :: x8 :: x9 :: some d :: σ) L Q E := e_var rfl q
theorem s_n10 {x0 x1 x2 x3 x4 x5 x6 x7 x8 x9 x10 : Option D} (h : wpE C e (x0 :: x1 :: x2 :: x3 :: x4 :: x5 :: x6 :: x7 :: x8 :: x9 :: x10 :: σ) L (fun d L1 => wpSs C ss D0 (x0 :: x1 :: x2 :: x3 :: x4 :: x5 :: x6 :: x7 :: x8 :: x9 :: some d :: σ) L1) D0.ex) : wpSs C (.cons (.asg (.name 10) e) ss) D0 (x0 :: x1 :: x2 :: x3 :: x4 :: x5 :: x6 :: x7 :: x8 :: x9 :: x10 :: σ) L := h
theorem g_n10 {x0 x1 x2 x3 x4 x5 x6 x7 x8 x9 x10 : Option D} (q : T (x0 :: x1 :: x2 :: x3 :: x4 :: x5 :: x6 :: x7 :: x8 :: x9 :: some d :: σ) L) : wpG C (.name 10) d (x0 :: x1 :: x2 :: x3 :: x4 :: x5 :: x6 :: x7 :: x8 :: x9 :: x10 :: σ) L T E := q
theorem e_v11 {x0 x1 x2 x3 x4 x5 x6 x7 x8 x9 x10 : Option D} (q : Q d L) : wpE C (.var 11) (x0 :: x1 :: x2 :: x3 :: x4 :: x5 :: x6 :: x7 :: x8 :: x9 :: x10 :: some d :: σ) L Q E := e_var rfl q
theorem s_n11 {x0 x1 x2 x3 x4 x5 x6 x7 x8 x9 x10 x11 : Option D} (h : wpE C e (x0 :: x1 :: x2 :: x3 :: x4 :: x5 :: x6 :: x7 :: x8 :: x9 :: x10 :: x11 :: σ) L (fun d L1 => wpSs C ss D0 (x0 :: x1 :: x2 :: x3 :: x4 :: x5 :: x6 :: x7 :: x8 :: x9 :: x10 :: some d :: σ) L1) D0.ex) : wpSs C (.cons (.asg (.name 11) e) ss) D0 (x0 :: x1 :: x2 :: x3 :: x4 :: x5 :: x6 :: x7 :: x8 :: x9 :: x10 :: x11 :: σ) L := h
theorem g_n11 {x0 x1 x2 x3 x4 x5 x6 x7 x8 x9 x10 x11 : Option D} (q : T (x0 :: x1 :: x2 :: x3 :: x4 :: x5 :: x6 :: x7 :: x8 :: x9 :: x10 :: some d :: σ) L) : wpG C (.name 11) d (x0 :: x1 :: x2 :: x3 :: x4 :: x5 :: x6 :: x7 :: x8 :: x9 :: x10 :: x11 :: σ) L T E := q
theorem e_v12 {x0 x1 x2 x3 x4 x5 x6 x7 x8 x9 x10 x11 : Option D} (q : Q d L) : wpE C (.var 12) (x0 :: x1 :: x2 :: x3 :: x4 :: x5 :: x6 :: x7 :: x8 :: x9 :: x10 :: x11 :: some d :: σ) L Q E := e_var rfl q
theorem s_n12 {x0 x1 x2 x3 x4 x5 x6 x7 x8 x9 x10 x11 x12 : Option D} (h : wpE C e (x0 :: x1 :: x2 :: x3 :: x4 :: x5 :: x6 :: x7 :: x8 :: x9 :: x10 :: x11 :: x12 :: σ) L (fun d L1 => wpSs C ss D0 (x0 :: x1 :: x2 :: x3 :: x4 :: x5 :: x6 :: x7 :: x8 :: x9 :: x10 :: x11 :: some d :: σ) L1) D0.ex) : wpSs C (.cons (.asg (.name 12) e) ss) D0 (x0 :: x1 :: x2 :: x3 :: x4 :: x5 :: x6 :: x7 :: x8 :: x9 :: x10 :: x11 :: x12 :: σ) L := h
theorem g_n12 {x0 x1 x2 x3 x4 x5 x6 x7 x8 x9 x10 x11 x12 : Option D} (q : T (x0 :: x1 :: x2 :: x3 :: x4 :: x5 :: x6 :: x7 :: x8 :: x9 :: x10 :: x11 :: some d :: σ) L) : wpG C (.name 12) d (x0 :: x1 :: x2 :: x3 :: x4 :: x5 :: x6 :: x7 :: x8 :: x9 :: x10 :: x11 :: x12 :: σ) L T E := q
theorem e_v13 {x0 x1 x2 x3 x4 x5 x6 x7 x8 x9 x10 x11 x12 : Option D} (q : Q d L) : wpE C (.var 13) (x0 :: x1 :: x2 :: x3 :: x4 :: x5 :: x6 :: x7 :: x8 :: x9 :: x10 :: x11 :: x12 :: some d :: σ) L Q E := e_var rfl q
theorem s_n13 {x0 x1 x2 x3 x4 x5 x6 x7 x8 x9 x10 x11 x12 x13 : Option D} (h : wpE C e (x0 :: x1 :: x2 :: x3 :: x4 :: x5 :: x6 :: x7 :: x8 :: x9 :: x10 :: x11 :: x12 :: x13 :: σ) L (fun d L1 => wpSs C ss D0 (x0 :: x1 :: x2 :: x3 :: x4 :: x5 :: x6 :: x7 :: x8 :: x9 :: x10 :: x11 :: x12 :: some d :: σ) L1) D0.ex) : wpSs C (.cons (.asg (.name 13) e) ss) D0 (x0 :: x1 :: x2 :: x3 :: x4 :: x5 :: x6 :: x7 :: x8 :: x9 :: x10 :: x11 :: x12 :: x13 :: σ) L := h
theorem g_n13 {x0 x1 x2 x3 x4 x5 x6 x7 x8 x9 x10 x11 x12 x13 : Option D} (q : T (x0 :: x1 :: x2 :: x3 :: x4 :: x5 :: x6 :: x7 :: x8 :: x9 :: x10 :: x11 :: x12 :: some d :: σ) L) : wpG C (.name 13) d (x0 :: x1 :: x2 :: x3 :: x4 :: x5 :: x6 :: x7 :: x8 :: x9 :: x10 :: x11 :: x12 :: x13 :: σ) L T E := q
theorem e_v14 {x0 x1 x2 x3 x4 x5 x6 x7 x8 x9 x10 x11 x12 x13 : Option D} (q : Q d L) : wpE C (.var 14) (x0 :: x1 :: x2 :: x3 :: x4 :: x5 :: x6 :: x7 :: x8 :: x9 :: x10 :: x11 :: x12 :: x13 :: some d :: σ) L Q E := e_var rfl q
theorem s_n14 {x0 x1 x2 x3 x4 x5 x6 x7 x8 x9 x10 x11 x12 x13 x14 : Option D} (h : wpE C e (x0 :: x1 :: x2 :: x3 :: x4 :: x5 :: x6 :: x7 :: x8 :: x9 :: x10 :: x11 :: x12 :: x13 :: x14 :: σ) L (fun d L1 => wpSs C ss D0 (x0 :: x1 :: x2 :: x3 :: x4 :: x5 :: x6 :: x7 :: x8 :: x9 :: x10 :: x11 :: x12 :: x13 :: some d :: σ) L1) D0.ex) : wpSs C (.cons (.asg (.name 14) e) ss) D0 (x0 :: x1 :: x2 :: x3 :: x4 :: x5 :: x6 :: x7 :: x8 :: x9 :: x10 :: x11 :: x12 :: x13 :: x14 :: σ) L := h
theorem g_n14 {x0 x1 x2 x3 x4 x5 x6 x7 x8 x9 x10 x11 x12 x13 x14 : Option D} (q : T (x0 :: x1 :: x2 :: x3 :: x4 :: x5 :: x6 :: x7 :: x8 :: x9 :: x10 :: x11 :: x12 :: x13 :: some d :: σ) L) : wpG C (.name 14) d (x0 :: x1 :: x2 :: x3 :: x4 :: x5 :: x6 :: x7 :: x8 :: x9 :: x10 :: x11 :: x12 :: x13 :: x14 :: σ) L T E := q
theorem e_v15 {x0 x1 x2 x3 x4 x5 x6 x7 x8 x9 x10 x11 x12 x13 x14 : Option D} (q : Q d L) : wpE C (.var 15) (x0 :: x1 :: x2 :: x3 :: x4 :: x5 :: x6 :: x7 :: x8 :: x9 :: x10 :: x11 :: x12 :: x13 :: x14 :: some d :: σ) L Q E := e_var rfl q
theorem s_n15 {x0 x1 x2 x3 x4 x5 x6 x7 x8 x9 x10 x11 x12 x13 x14 x15 : Option D} (h : wpE C e (x0 :: x1 :: x2 :: x3 :: x4 :: x5 :: x6 :: x7 :: x8 :: x9 :: x10 :: x11 :: x12 :: x13 :: x14 :: x15 :: σ) L (fun d L1 => wpSs C ss D0 (x0 :: x1 :: x2 :: x3 :: x4 :: x5 :: x6 :: x7 :: x8 :: x9 :: x10 :: x11 :: x12 :: x13 :: x14 :: some d :: σ) L1) D0.ex) : wpSs C (.cons (.asg (.name 15) e) ss) D0 (x0 :: x1 :: x2 :: x3 :: x4 :: x5 :: x6 :: x7 :: x8 :: x9 :: x10 :: x11 :: x12 :: x13 :: x14 :: x15 :: σ) L := h
theorem g_n15 {x0 x1 x2 x3 x4 x5 x6 x7 x8 x9 x10 x11 x12 x13 x14 x15 : Option D} (q : T (x0 :: x1 :: x2 :: x3 :: x4 :: x5 :: x6 :: x7 :: x8 :: x9 :: x10 :: x11 :: x12 :: x13 :: x14 :: some d :: σ) L) : wpG C (.name 15) d (x0 :: x1 :: x2 :: x3 :: x4 :: x5 :: x6 :: x7 :: x8 :: x9 :: x10 :: x11 :: x12 :: x13 :: x14 :: x15 :: σ) L T E := q
theorem e_v16 {x0 x1 x2 x3 x4 x5 x6 x7 x8 x9 x10 x11 x12 x13 x14 x15 : Option D} (q : Q d L) : wpE C (.var 16) (x0 :: x1 :: x2 :: x3 :: x4 :: x5 :: x6 :: x7 :: x8 :: x9 :: x10 :: x11 :: x12 :: x13 :: x14 :: x15 :: some d :: σ) L Q E := e_var rfl q
theorem s_n16 {x0 x1 x2 x3 x4 x5 x6 x7 x8 x9 x10 x11 x12 x13 x14 x15 x16 : Option D} (h : wpE C e (x0 :: x1 :: x2 :: x3 :: x4 :: x5 :: x6 :: x7 :: x8 :: x9 :: x10 :: x11 :: x12 :: x13 :: x14 :: x15 :: x16 :: σ) L (fun d L1 => wpSs C ss D0 (x0 :: x1 :: x2 :: x3 :: x4 :: x5 :: x6 :: x7 :: x8 :: x9 :: x10 :: x11 :: x12 :: x13 :: x14 :: x15 :: some d :: σ) L1) D0.ex) : wpSs C (.cons (.asg (.name 16) e) ss) D0 (x0 :: x1 :: x2 :: x3 :: x4 :: x5 :: x6 :: x7 :: x8 :: x9 :: x10 :: x11 :: x12 :: x13 :: x14 :: x15 :: x16 :: σ) L := h
theorem g_n16 {x0 x1 x2 x3 x4 x5 x6 x7 x8 x9 x10 x11 x12 x13 x14 x15 x16 : Option D} (q : T (x0 :: x1 :: x2 :: x3 :: x4 :: x5 :: x6 :: x7 :: x8 :: x9 :: x10 :: x11 :: x12 :: x13 :: x14 :: x15 :: some d :: σ) L) : wpG C (.name 16) d (x0 :: x1 :: x2 :: x3 :: x4 :: x5 :: x6 :: x7 :: x8 :: x9 :: x10 :: x11 :: x12 :: x13 :: x14 :: x15 :: x16 :: σ) L T E := q
theorem e_v17 {x0 x1 x2 x3 x4 x5 x6 x7 x8 x9 x10 x11 x12 x13 x14 x15 x16 : Option D} (q : Q d L) : wpE C (.var 17) (x0 :: x1 :: x2 :: x3 :: x4 :: x5 :: x6 :: x7 :: x8 :: x9 :: x10 :: x11 :: x12 :: x13 :: x14 :: x15 :: x16 :: some d :: σ) L Q E := e_var rfl q
theorem s_n17 {x0 x1 x2 x3 x4 x5 x6 x7 x8 x9 x10 x11 x12 x13 x14 x15 x16 x17 : Option D} (h : wpE C e (x0 :: x1 :: x2 :: x3 :: x4 :: x5 :: x6 :: x7 :: x8 :: x9 :: x10 :: x11 :: x12 :: x13 :: x14 :: x15 :: x16 :: x17 :: σ) L (fun d L1 => wpSs C ss D0 (x0 :: x1 :: x2 :: x3 :: x4 :: x5 :: x6 :: x7 :: x8 :: x9 :: x10 :: x11 :: x12 :: x13 :: x14 :: x15 :: x16 :: some d :: σ) L1) D0.ex) : wpSs C (.cons (.asg (.name 17) e) ss) D0 (x0 :: x1 :: x2 :: x3 :: x4 :: x5 :: x6 :: x7 :: x8 :: x9 :: x10 :: x11 :: x12 :: x13 :: x14 :: x15 :: x16 :: x17 :: σ) L := h
theorem g_n17 {x0 x1 x2 x3 x4 x5 x6 x7 x8 x9 x10 x11 x12 x13 x14 x15 x16 x17 : Option D} (q : T (x0 :: x1 :: x2 :: x3 :: x4 :: x5 :: x6 :: x7 :: x8 :: x9 :: x10 :: x11 :: x12 :: x13 :: x14 :: x15 :: x16 :: some d :: σ) L) : wpG C (.name 17) d (x0 :: x1 :: x2 :: x3 :: x4 :: x5 :: x6 :: x7 :: x8 :: x9 :: x10 :: x11 :: x12 :: x13 :: x14 :: x15 :: x16 :: x17 :: σ) L T E := q
theorem e_v18 {x0 x1 x2 x3 x4 x5 x6 x7 x8 x9 x10 x11 x12 x13 x14 x15 x16 x17 : Option D} (q : Q d L) : wpE C (.var 18) (x0 :: x1 :: x2 :: x3 :: x4 :: x5 :: x6 :: x7 :: x8 :: x9 :: x10 :: x11 :: x12 :: x13 :: x14 :: x15 :: x16 :: x17 :: some d :: σ) L Q E := e_var rfl q
theorem s_n18 {x0 x1 x2 x3 x4 x5 x6 x7 x8 x9 x10 x11 x12 x13 x14 x15 x16 x17 x18 : Option D} (h : wpE C e (x0 :: x1 :: x2 :: x3 :: x4 :: x5 :: x6 :: x7 :: x8 :: x9 :: x10 :: x11 :: x12 :: x13 :: x14 :: x15 :: x16 :: x17 :: x18 :: σ) L (fun d L1 => wpSs C ss D0 (x0 :: x1 :: x2 :: x3 :: x4 :: x5 :: x6 :: x7 :: x8 :: x9 :: x10 :: x11 :: x12 :: x13 :: x14 :: x15 :: x16 :: x17 :: some d :: σ) L1) D0.ex) : wpSs C (.cons (.asg (.name 18) e) ss) D0 (x0 :: x1 :: x2 :: x3 :: x4 :: x5 :: x6 :: x7 :: x8 :: x9 :: x10 :: x11 :: x12 :: x13 :: x14 :: x15 :: x16 :: x17 :: x18 :: σ) L := h
theorem g_n18 {x0 x1 x2 x3 x4 x5 x6 x7 x8 x9 x10 x11 x12 x13 x14 x15 x16 x17 x18 : Option D} (q : T (x0 :: x1 :: x2 :: x3 :: x4 :: x5 :: x6 :: x7 :: x8 :: x9 :: x10 :: x11 :: x12 :: x13 :: x14 :: x15 :: x16 :: x17 :: some d :: σ) L) : wpG C (.name 18) d (x0 :: x1 :: x2 :: x3 :: x4 :: x5 :: x6 :: x7 :: x8 :: x9 :: x10 :: x11 :: x12 :: x13 :: x14 :: x15 :: x16 :: x17 :: x18 :: σ) L T E := q
theorem e_v19 {x0 x1 x2 x3 x4 x5 x6 x7 x8 x9 x10 x11 x12 x13 x14 x15 x16 x17 x18 : Option D} (q : Q d L) : wpE C (.var 19) (x0 :: x1 :: x2 :: x3 :: x4 :: x5 :: x6 :: x7 :: x8 :: x9 :: x10 :: x11 :: x12 :: x13 :: x14 :: x15 :: x16 :: x17 :: x18 :: some d :: σ) L Q E := e_var rfl q
theorem s_n19 {x0 x1 x2 x3 x4 x5 x6 x7 x8 x9 x10 x11 x12 x13 x14 x15 x16 x17 x18 x19 : Option D} (h : wpE C e (x0 :: x1 :: x2 :: x3 :: x4 :: x5 :: x6 :: x7 :: x8 :: x9 :: x10 :: x11 :: x12 :: x13 :: x14 :: x15 :: x16 :: x17 :: x18 :: x19 :: σ) L (fun d L1 => wpSs C ss D0 (x0 :: x1 :: x2 :: x3 :: x4 :: x5 :: x6 :: x7 :: x8 :: x9 :: x10 :: x11 :: x12 :: x13 :: x14 :: x15 :: x16 :: x17 :: x18 :: some d :: σ) L1) D0.ex) : wpSs C (.cons (.asg (.name 19) e) ss) D0 (x0 :: x1 :: x2 :: x3 :: x4 :: x5 :: x6 :: x7 :: x8 :: x9 :: x10 :: x11 :: x12 :: x13 :: x14 :: x15 :: x16 :: x17 :: x18 :: x19 :: σ) L := h
theorem g_n19 {x0 x1 x2 x3 x4 x5 x6 x7 x8 x9 x10 x11 x12 x13 x14 x15 x16 x17 x18 x19 : Option D} (q : T (x0 :: x1 :: x2 :: x3 :: x4 :: x5 :: x6 :: x7 :: x8 :: x9 :: x10 :: x11 :: x12 :: x13 :: x14 :: x15 :: x16 :: x17 :: x18 :: some d :: σ) L) : wpG C (.name 19) d (x0 :: x1 :: x2 :: x3 :: x4 :: x5 :: x6 :: x7 :: x8 :: x9 :: x10 :: x11 :: x12 :: x13 :: x14 :: x15 :: x16 :: x17 :: x18 :: x19 :: σ) L T E := q
theorem e_v20 {x0 x1 x2 x3 x4 x5 x6 x7 x8 x9 x10 x11 x12 x13 x14 x15 x16 x17 x18 x19 : Option D} (q : Q d L) : wpE C (.var 20) (x0 :: x1 :: x2 :: x3 :: x4 :: x5 :: x6 :: x7 :: x8 :: x9 :: x10 :: x11 :: x12 :: x13 :: x14 :: x15 :: x16 :: x17 :: x18 :: x19 :: some d :: σ) L Q E := e_var rfl q
theorem s_n20 {x0 x1 x2 x3 x4 x5 x6 x7 x8 x9 x10 x11 x12 x13 x14 x15 x16 x17 x18 x19 x20 : Option D} (h : wpE C e (x0 :: x1 :: x2 :: x3 :: x4 :: x5 :: x6 :: x7 :: x8 :: x9 :: x10 :: x11 :: x12 :: x13 :: x14 :: x15 :: x16 :: x17 :: x18 :: x19 :: x20 :: σ) L (fun d L1 => wpSs C ss D0 (x0 :: x1 :: x2 :: x3 :: x4 :: x5 :: x6 :: x7 :: x8 :: x9 :: x10 :: x11 :: x12 :: x13 :: x14 :: x15 :: x16 :: x17 :: x18 :: x19 :: some d :: σ) L1) D0.ex) : wpSs C (.cons (.asg (.name 20) e) ss) D0 (x0 :: x1 :: x2 :: x3 :: x4 :: x5 :: x6 :: x7 :: x8 :: x9 :: x10 :: x11 :: x12 :: x13 :: x14 :: x15 :: x16 :: x17 :: x18 :: x19 :: x20 :: σ) L := h
theorem g_n20 {x0 x1 x2 x3 x4 x5 x6 x7 x8 x9 x10 x11 x12 x13 x14 x15 x16 x17 x18 x19 x20 : Option D} (q : T (x0 :: x1 :: x2 :: x3 :: x4 :: x5 :: x6 :: x7 :: x8 :: x9 :: x10 :: x11 :: x12 :: x13 :: x14 :: x15 :: x16 :: x17 :: x18 :: x19 :: some d :: σ) L) : wpG C (.name 20) d (x0 :: x1 :: x2 :: x3 :: x4 :: x5 :: x6 :: x7 :: x8 :: x9 :: x10 :: x11 :: x12 :: x13 :: x14 :: x15 :: x16 :: x17 :: x18 :: x19 :: x20 :: σ) L T E := q
theorem e_v21 {x0 x1 x2 x3 x4 x5 x6 x7 x8 x9 x10 x11 x12 x13 x14 x15 x16 x17 x18 x19 x20 : Option D} (q : Q d L) : wpE C (.var 21) (x0 :: x1 :: x2 :: x3 :: x4 :: x5 :: x6 :: x7 :: x8 :: x9 :: x10 :: x11 :: x12 :: x13 :: x14 :: x15 :: x16 :: x17 :: x18 :: x19 :: x20 :: some d :: σ) L Q E := e_var rfl q
theorem s_n21 {x0 x1 x2 x3 x4 x5 x6 x7 x8 x9 x10 x11 x12 x13 x14 x15 x16 x17 x18 x19 x20 x21 : Option D} (h : wpE C e (x0 :: x1 :: x2 :: x3 :: x4 :: x5 :: x6 :: x7 :: x8 :: x9 :: x10 :: x11 :: x12 :: x13 :: x14 :: x15 :: x16 :: x17 :: x18 :: x19 :: x20 :: x21 :: σ) L (fun d L1 => wpSs C ss D0 (x0 :: x1 :: x2 :: x3 :: x4 :: x5 :: x6 :: x7 :: x8 :: x9 :: x10 :: x11 :: x12 :: x13 :: x14 :: x15 :: x16 :: x17 :: x18 :: x19 :: x20 :: some d :: σ) L1) D0.ex) : wpSs C (.cons (.asg (.name 21) e) ss) D0 (x0 :: x1 :: x2 :: x3 :: x4 :: x5 :: x6 :: x7 :: x8 :: x9 :: x10 :: x11 :: x12 :: x13 :: x14 :: x15 :: x16 :: x17 :: x18 :: x19 :: x20 :: x21 :: σ) L := h
theorem g_n21 {x0 x1 x2 x3 x4 x5 x6 x7 x8 x9 x10 x11 x12 x13 x14 x15 x16 x17 x18 x19 x20 x21 : Option D} (q : T (x0 :: x1 :: x2 :: x3 :: x4 :: x5 :: x6 :: x7 :: x8 :: x9 :: x10 :: x11 :: x12 :: x13 :: x14 :: x15 :: x16 :: x17 :: x18 :: x19 :: x20 :: some d :: σ) L) : wpG C (.name 21) d (x0 :: x1 :: x2 :: x3 :: x4 :: x5 :: x6 :: x7 :: x8 :: x9 :: x10 :: x11 :: x12 :: x13 :: x14 :: x15 :: x16 :: x17 :: x18 :: x19 :: x20 :: x21 :: σ) L T E := q
theorem e_v22 {x0 x1 x2 x3 x4 x5 x6 x7 x8 x9 x10 x11 x12 x13 x14 x15 x16 x17 x18 x19 x20 x21 : Option D} (q : Q d L) : wpE C (.var 22) (x0 :: x1 :: x2 :: x3 :: x4 :: x5 :: x6 :: x7 :: x8 :: x9 :: x10 :: x11 :: x12 :: x13 :: x14 :: x15 :: x16 :: x17 :: x18 :: x19 :: x20 :: x21 :: some d :: σ) L Q E := e_var rfl q
theorem s_n22 {x0 x1 x2 x3 x4 x5 x6 x7 x8 x9 x10 x11 x12 x13 x14 x15 x16 x17 x18 x19 x20 x21 x22 : Option D} (h : wpE C e (x0 :: x1 :: x2 :: x3 :: x4 :: x5 :: x6 :: x7 :: x8 :: x9 :: x10 :: x11 :: x12 :: x13 :: x14 :: x15 :: x16 :: x17 :: x18 :: x19 :: x20 :: x21 :: x22 :: σ) L (fun d L1 => wpSs C ss D0 (x0 :: x1 :: x2 :: x3 :: x4 :: x5 :: x6 :: x7 :: x8 :: x9 :: x10 :: x11 :: x12 :: x13 :: x14 :: x15 :: x16 :: x17 :: x18 :: x19 :: x20 :: x21 :: some d :: σ) L1) D0.ex) : wpSs C (.cons (.asg (.name 22) e) ss) D0 (x0 :: x1 :: x2 :: x3 :: x4 :: x5 :: x6 :: x7 :: x8 :: x9 :: x10 :: x11 :: x12 :: x13 :: x14 :: x15 :: x16 :: x17 :: x18 :: x19 :: x20 :: x21 :: x22 :: σ) L := h
theorem g_n22 {x0 x1 x2 x3 x4 x5 x6 x7 x8 x9 x10 x11 x12 x13 x14 x15 x16 x17 x18 x19 x20 x21 x22 : Option D} (q : T (x0 :: x1 :: x2 :: x3 :: x4 :: x5 :: x6 :: x7 :: x8 :: x9 :: x10 :: x11 :: x12 :: x13 :: x14 :: x15 :: x16 :: x17 :: x18 :: x19 :: x20 :: x21 :: some d :: σ) L) : wpG C (.name 22) d (x0 :: x1 :: x2 :: x3 :: x4 :: x5 :: x6 :: x7 :: x8 :: x9 :: x10 :: x11 :: x12 :: x13 :: x14 :: x15 :: x16 :: x17 :: x18 :: x19 :: x20 :: x21 :: x22 :: σ) L T E := q
theorem e_v23 {x0 x1 x2 x3 x4 x5 x6 x7 x8 x9 x10 x11 x12 x13 x14 x15 x16 x17 x18 x19 x20 x21 x22 : Option D} (q : Q d L) : wpE C (.var 23) (x0 :: x1 :: x2 :: x3 :: x4 :: x5 :: x6 :: x7 :: x8 :: x9 :: x10 :: x11 :: x12 :: x13 :: x14 :: x15 :: x16 :: x17 :: x18 :: x19 :: x20 :: x21 :: x22 :: some d :: σ) L Q E := e_var rfl q
theorem s_n23 {x0 x1 x2 x3 x4 x5 x6 x7 x8 x9 x10 x11 x12 x13 x14 x15 x16 x17 x18 x19 x20 x21 x22 x23 : Option D} (h : wpE C e (x0 :: x1 :: x2 :: x3 :: x4 :: x5 :: x6 :: x7 :: x8 :: x9 :: x10 :: x11 :: x12 :: x13 :: x14 :: x15 :: x16 :: x17 :: x18 :: x19 :: x20 :: x21 :: x22 :: x23 :: σ) L (fun d L1 => wpSs C ss D0 (x0 :: x1 :: x2 :: x3 :: x4 :: x5 :: x6 :: x7 :: x8 :: x9 :: x10 :: x11 :: x12 :: x13 :: x14 :: x15 :: x16 :: x17 :: x18 :: x19 :: x20 :: x21 :: x22 :: some d :: σ) L1) D0.ex) : wpSs C (.cons (.asg (.name 23) e) ss) D0 (x0 :: x1 :: x2 :: x3 :: x4 :: x5 :: x6 :: x7 :: x8 :: x9 :: x10 :: x11 :: x12 :: x13 :: x14 :: x15 :: x16 :: x17 :: x18 :: x19 :: x20 :: x21 :: x22 :: x23 :: σ) L := h
theorem g_n23 {x0 x1 x2 x3 x4 x5 x6 x7 x8 x9 x10 x11 x12 x13 x14 x15 x16 x17 x18 x19 x20 x21 x22 x23 : Option D} (q : T (x0 :: x1 :: x2 :: x3 :: x4 :: x5 :: x6 :: x7 :: x8 :: x9 :: x10 :: x11 :: x12 :: x13 :: x14 :: x15 :: x16 :: x17 :: x18 :: x19 :: x20 :: x21 :: x22 :: some d :: σ) L) : wpG C (.name 23) d (x0 :: x1 :: x2 :: x3 :: x4 :: x5 :: x6 :: x7 :: x8 :: x9 :: x10 :: x11 :: x12 :: x13 :: x14 :: x15 :: x16 :: x17 :: x18 :: x19 :: x20 :: x21 :: x22 :: x23 :: σ) L T E := q
theorem e_v24 {x0 x1 x2 x3 x4 x5 x6 x7 x8 x9 x10 x11 x12 x13 x14 x15 x16 x17 x18 x19 x20 x21 x22 x23 : Option D} (q : Q d L) : wpE C (.var 24) (x0 :: x1 :: x2 :: x3 :: x4 :: x5 :: x6 :: x7 :: x8 :: x9 :: x10 :: x11 :: x12 :: x13 :: x14 :: x15 :: x16 :: x17 :: x18 :: x19 :: x20 :: x21 :: x22 :: x23 :: some d :: σ) L Q E := e_var rfl q
theorem s_n24 {x0 x1 x2 x3 x4 x5 x6 x7 x8 x9 x10 x11 x12 x13 x14 x15 x16 x17 x18 x19 x20 x21 x22 x23 x24 : Option D} (h : wpE C e (x0 :: x1 :: x2 :: x3 :: x4 :: x5 :: x6 :: x7 :: x8 :: x9 :: x10 :: x11 :: x12 :: x13 :: x14 :: x15 :: x16 :: x17 :: x18 :: x19 :: x20 :: x21 :: x22 :: x23 :: x24 :: σ) L (fun d L1 => wpSs C ss D0 (x0 :: x1 :: x2 :: x3 :: x4 :: x5 :: x6 :: x7 :: x8 :: x9 :: x10 :: x11 :: x12 :: x13 :: x14 :: x15 :: x16 :: x17 :: x18 :: x19 :: x20 :: x21 :: x22 :: x23 :: some d :: σ) L1) D0.ex) : wpSs C (.cons (.asg (.name 24) e) ss) D0 (x0 :: x1 :: x2 :: x3 :: x4 :: x5 :: x6 :: x7 :: x8 :: x9 :: x10 :: x11 :: x12 :: x13 :: x14 :: x15 :: x16 :: x17 :: x18 :: x19 :: x20 :: x21 :: x22 :: x23 :: x24 :: σ) L := h
theorem g_n24 {x0 x1 x2 x3 x4 x5 x6 x7 x8 x9 x10 x11 x12 x13 x14 x15 x16 x17 x18 x19 x20 x21 x22 x23 x24 : Option D} (q : T (x0 :: x1 :: x2 :: x3 :: x4 :: x5 :: x6 :: x7 :: x8 :: x9 :: x10 :: x11 :: x12 :: x13 :: x14 :: x15 :: x16 :: x17 :: x18 :: x19 :: x20 :: x21 :: x22 :: x23 :: some d :: σ) L) : wpG C (.name 24) d (x0 :: x1 :: x2 :: x3 :: x4 :: x5 :: x6 :: x7 :: x8 :: x9 :: x10 :: x11 :: x12 :: x13 :: x14 :: x15 :: x16 :: x17 :: x18 :: x19 :: x20 :: x21 :: x22 :: x23 :: x24 :: σ) L T E := q
theorem e_v25 {x0 x1 x2 x3 x4 x5 x6 x7 x8 x9 x10 x11 x12 x13 x14 x15 x16 x17 x18 x19 x20 x21 x22 x23 x24 : Option D} (q : Q d L) : wpE C (.var 25) (x0 :: x1 :: x2 :: x3 :: x4 :: x5 :: x6 :: x7 :: x8 :: x9 :: x10 :: x11 :: x12 :: x13 :: x14 :: x15 :: x16 :: x17 :: x18 :: x19 :: x20 :: x21 :: x22 :: x23 :: x24 :: some d :: σ) L Q E := e_var rfl q
theorem s_n25 {x0 x1 x2 x3 x4 x5 x6 x7 x8 x9 x10 x11 x12 x13 x14 x15 x16 x17 x18 x19 x20 x21 x22 x23 x24 x25 : Option D} (h : wpE C e (x0 :: x1 :: x2 :: x3 :: x4 :: x5 :: x6 :: x7 :: x8 :: x9 :: x10 :: x11 :: x12 :: x13 :: x14 :: x15 :: x16 :: x17 :: x18 :: x19 :: x20 :: x21 :: x22 :: x23 :: x24 :: x25 :: σ) L (fun d L1 => wpSs C ss D0 (x0 :: x1 :: x2 :: x3 :: x4 :: x5 :: x6 :: x7 :: x8 :: x9 :: x10 :: x11 :: x12 :: x13 :: x14 :: x15 :: x16 :: x17 :: x18 :: x19 :: x20 :: x21 :: x22 :: x23 :: x24 :: some d :: σ) L1) D0.ex) : wpSs C (.cons (.asg (.name 25) e) ss) D0 (x0 :: x1 :: x2 :: x3 :: x4 :: x5 :: x6 :: x7 :: x8 :: x9 :: x10 :: x11 :: x12 :: x13 :: x14 :: x15 :: x16 :: x17 :: x18 :: x19 :: x20 :: x21 :: x22 :: x23 :: x24 :: x25 :: σ) L := h
theorem g_n25 {x0 x1 x2 x3 x4 x5 x6 x7 x8 x9 x10 x11 x12 x13 x14 x15 x16 x17 x18 x19 x20 x21 x22 x23 x24 x25 : Option D} (q : T (x0 :: x1 :: x2 :: x3 :: x4 :: x5 :: x6 :: x7 :: x8 :: x9 :: x10 :: x11 :: x12 :: x13 :: x14 :: x15 :: x16 :: x17 :: x18 :: x19 :: x20 :: x21 :: x22 :: x23 :: x24 :: some d :: σ) L) : wpG C (.name 25) d (x0 :: x1 :: x2 :: x3 :: x4 :: x5 :: x6 :: x7 :: x8 :: x9 :: x10 :: x11 :: x12 :: x13 :: x14 :: x15 :: x16 :: x17 :: x18 :: x19 :: x20 :: x21 :: x22 :: x23 :: x24 :: x25 :: σ) L T E := q
theorem start_0 {n : Nat}  : DM.start n [] = List.replicate (n - 0) none := rfl
theorem start_1 {n : Nat} {a0 : D} : DM.start n [a0] = some a0 :: List.replicate (n - 1) none := rfl
theorem start_2 {n : Nat} {a0 a1 : D} : DM.start n [a0, a1] = some a0 :: some a1 :: List.replicate (n - 2) none := rfl
theorem start_3 {n : Nat} {a0 a1 a2 : D} : DM.start n [a0, a1, a2] = some a0 :: some a1 :: some a2 :: List.replicate (n - 3) none := rfl
theorem start_4 {n : Nat} {a0 a1 a2 a3 : D} : DM.start n [a0, a1, a2, a3] = some a0 :: some a1 :: some a2 :: some a3 :: List.replicate (n - 4) none := rfl
theorem start_5 {n : Nat} {a0 a1 a2 a3 a4 : D} : DM.start n [a0, a1, a2, a3, a4] = some a0 :: some a1 :: some a2 :: some a3 :: some a4 :: List.replicate (n - 5) none := rfl
theorem start_6 {n : Nat} {a0 a1 a2 a3 a4 a5 : D} : DM.start n [a0, a1, a2, a3, a4, a5] = some a0 :: some a1 :: some a2 :: some a3 :: some a4 :: some a5 :: List.replicate (n - 6) none := rfl
theorem start_7 {n : Nat} {a0 a1 a2 a3 a4 a5 a6 : D} : DM.start n [a0, a1, a2, a3, a4, a5, a6] = some a0 :: some a1 :: some a2 :: some a3 :: some a4 :: some a5 :: some a6 :: List.replicate (n - 7) none := rfl
theorem start_8 {n : Nat} {a0 a1 a2 a3 a4 a5 a6 a7 : D} : DM.start n [a0, a1, a2, a3, a4, a5, a6, a7] = some a0 :: some a1 :: some a2 :: some a3 :: some a4 :: some a5 :: some a6 :: some a7 :: List.replicate (n - 8) none := rfl
theorem p_isiB {x : D} {T n : String} {b : Bool} (h : TyD L x T) (m : ["int", "bool", "str", "list", "tuple"].contains n = true) (e : subB T n = b) (q : Q (.bl b) L) : wpBf .isi [x, .ty n] L Q := p_isi h (List.contains_iff_mem.mp m) (e ▸ q)
theorem p_isi2B {x : D} {T n m : String} {b : Bool} (h : TyD L x T) (e1 : ["int", "bool", "str", "list", "tuple"].contains n = true) (e2 : ["int", "bool", "str", "list", "tuple"].contains m = true) (e : (subB T n || subB T m) = b) (q : Q (.bl b) L) : wpBf .isi [x, .tup [.ty n, .ty m]] L Q := p_isi2 h (by
  intro z hz
  rcases List.mem_cons.mp hz with rfl | hz
  · exact List.contains_iff_mem.mp e1
  · rw [List.mem_singleton.mp hz]
    exact List.contains_iff_mem.mp e2) (e ▸ q)
theorem p_isi3B {x : D} {T n m k : String} {b : Bool} (h : TyD L x T) (e1 : ["int", "bool", "str", "list", "tuple"].contains n = true) (e2 : ["int", "bool", "str", "list", "tuple"].contains m = true) (e3 : ["int", "bool", "str", "list", "tuple"].contains k = true) (e : (subB T n || (subB T m || subB T k)) = b) (q : Q (.bl b) L) : wpBf .isi [x, .tup [.ty n, .ty m, .ty k]] L Q := p_isi3 h (by
  intro z hz
  rcases List.mem_cons.mp hz with rfl | hz
  · exact List.contains_iff_mem.mp e1
  · rcases List.mem_cons.mp hz with rfl | hz
    · exact List.contains_iff_mem.mp e2
    · rw [List.mem_singleton.mp hz]
      exact List.contains_iff_mem.mp e3) (e ▸ q)
variable {i : Nat} {ts : DTA} {es : Exs} {R : List D → HL → Prop} {R2 : Bool → HL → Prop} {R3 : Option Int → HL → Prop} {R4 : Sq → HL → Prop} {t : Tx} {o : Eo} {it : Ix} {g : Tg} {gs : Tgs} {ds : List D} {bo : Bo} {co : Co} {bf : Bf} {x y : D}
theorem kV (h : wpE C (.var i) σ L Q E) : wpE C (.var i) σ L Q E := h
theorem kM {c m : Str} {id : Nat} (h : wpE C (.meth c m id e es) σ L Q E) : wpE C (.meth c m id e es) σ L Q E := h
theorem kE (h : wpE C e σ L Q E) : wpE C e σ L Q E := h
theorem kN (h : wpSs C (.cons (.asg (.name i) e) ss) D0 σ L) : wpSs C (.cons (.asg (.name i) e) ss) D0 σ L := h
theorem kS (h : wpSs C ss D0 σ L) : wpSs C ss D0 σ L := h
theorem kA (h : wpA C es σ L R E) : wpA C es σ L R E := h
theorem kT (h : wpT C t σ L R2 E) : wpT C t σ L R2 E := h
theorem kG (h : wpG C g d σ L T E) : wpG C g d σ L T E := h
theorem kGs (h : wpGs C gs ds σ L T E) : wpGs C gs ds σ L T E := h
theorem kI (h : wpI C it σ L R4 E) : wpI C it σ L R4 E := h
theorem kO (h : wpO C o σ L R3 E) : wpO C o σ L R3 E := h
theorem kBo (h : wpBo bo x y L Q) : wpBo bo x y L Q := h
theorem kCo (h : wpCo co x y L Q) : wpCo co x y L Q := h
theorem kBf (h : wpBf bf ds L Q) : wpBf bf ds L Q := h
end
section
variable {C : Ct} {σ : Sl} {L : HL} {Q : Qd} {E : Xd} {x c m : Str} {id n : Nat} {sp : DSp} {dv : List D} {a a0 a1 a2 a3 a4 a5 a6 a7 : Ex}
theorem e_call0 (h : C.fn id 0 = some (n, sp, dv)) (q : wpA C .nil σ L (fun xs L1 => (xs ++ dv).length = n ∧ sp (xs ++ dv) L1 (Cl Q) (ClX (E σ))) E) : wpE C (.call x id .nil) σ L Q E := e_call h q
theorem e_make0 (h : C.fn id 0 = some (n, sp, dv)) (q : wpA C .nil σ L (fun xs L1 => ∀ p, (D.ref p :: (xs ++ dv)).length = n ∧ sp (.ref p :: (xs ++ dv)) ((p, .ins x []) :: L1) (Cl fun d L2 => d = .non ∧ Cl Q (.ref p) L2) (ClX (E σ))) E) : wpE C (.make x id .nil) σ L Q E := e_make h q
theorem e_meth0 (h : C.fn id 0 = some (n, sp, dv)) (hc : c ≠ "") (q : wpE C a σ L (fun x L1 => ∃ fs, IsI L1 x c fs ∧ fs.lookup m = none ∧ wpA C .nil σ L1 (fun xs L2 => (x :: (xs ++ dv)).length = n ∧ sp (x :: (xs ++ dv)) L2 (Cl Q) (ClX (E σ))) E) E) : wpE C (.meth c m id a .nil) σ L Q E := e_meth h hc q
theorem e_call1 (h : C.fn id 1 = some (n, sp, dv)) (q : wpA C (.cons a0 .nil) σ L (fun xs L1 => (xs ++ dv).length = n ∧ sp (xs ++ dv) L1 (Cl Q) (ClX (E σ))) E) : wpE C (.call x id (.cons a0 .nil)) σ L Q E := e_call h q
theorem e_make1 (h : C.fn id 1 = some (n, sp, dv)) (q : wpA C (.cons a0 .nil) σ L (fun xs L1 => ∀ p, (D.ref p :: (xs ++ dv)).length = n ∧ sp (.ref p :: (xs ++ dv)) ((p, .ins x []) :: L1) (Cl fun d L2 => d = .non ∧ Cl Q (.ref p) L2) (ClX (E σ))) E) : wpE C (.make x id (.cons a0 .nil)) σ L Q E := e_make h q
theorem e_meth1 (h : C.fn id 1 = some (n, sp, dv)) (hc : c ≠ "") (q : wpE C a σ L (fun x L1 => ∃ fs, IsI L1 x c fs ∧ fs.lookup m = none ∧ wpA C (.cons a0 .nil) σ L1 (fun xs L2 => (x :: (xs ++ dv)).length = n ∧ sp (x :: (xs ++ dv)) L2 (Cl Q) (ClX (E σ))) E) E) : wpE C (.meth c m id a (.cons a0 .nil)) σ L Q E := e_meth h hc q
theorem e_call2 (h : C.fn id 2 = some (n, sp, dv)) (q : wpA C (.cons a0 (.cons a1 .nil)) σ L (fun xs L1 => (xs ++ dv).length = n ∧ sp (xs ++ dv) L1 (Cl Q) (ClX (E σ))) E) : wpE C (.call x id (.cons a0 (.cons a1 .nil))) σ L Q E := e_call h q
theorem e_make2 (h : C.fn id 2 = some (n, sp, dv)) (q : wpA C (.cons a0 (.cons a1 .nil)) σ L (fun xs L1 => ∀ p, (D.ref p :: (xs ++ dv)).length = n ∧ sp (.ref p :: (xs ++ dv)) ((p, .ins x []) :: L1) (Cl fun d L2 => d = .non ∧ Cl Q (.ref p) L2) (ClX (E σ))) E) : wpE C (.make x id (.cons a0 (.cons a1 .nil))) σ L Q E := e_make h q
theorem e_meth2 (h : C.fn id 2 = some (n, sp, dv)) (hc : c ≠ "") (q : wpE C a σ L (fun x L1 => ∃ fs, IsI L1 x c fs ∧ fs.lookup m = none ∧ wpA C (.cons a0 (.cons a1 .nil)) σ L1 (fun xs L2 => (x :: (xs ++ dv)).length = n ∧ sp (x :: (xs ++ dv)) L2 (Cl Q) (ClX (E σ))) E) E) : wpE C (.meth c m id a (.cons a0 (.cons a1 .nil))) σ L Q E := e_meth h hc q
theorem e_call3 (h : C.fn id 3 = some (n, sp, dv)) (q : wpA C (.cons a0 (.cons a1 (.cons a2 .nil))) σ L (fun xs L1 => (xs ++ dv).length = n ∧ sp (xs ++ dv) L1 (Cl Q) (ClX (E σ))) E) : wpE C (.call x id (.cons a0 (.cons a1 (.cons a2 .nil)))) σ L Q E := e_call h q
theorem e_make3 (h : C.fn id 3 = some (n, sp, dv)) (q : wpA C (.cons a0 (.cons a1 (.cons a2 .nil))) σ L (fun xs L1 => ∀ p, (D.ref p :: (xs ++ dv)).length = n ∧ sp (.ref p :: (xs ++ dv)) ((p, .ins x []) :: L1) (Cl fun d L2 => d = .non ∧ Cl Q (.ref p) L2) (ClX (E σ))) E) : wpE C (.make x id (.cons a0 (.cons a1 (.cons a2 .nil)))) σ L Q E := e_make h q
theorem e_meth3 (h : C.fn id 3 = some (n, sp, dv)) (hc : c ≠ "") (q : wpE C a σ L (fun x L1 => ∃ fs, IsI L1 x c fs ∧ fs.lookup m = none ∧ wpA C (.cons a0 (.cons a1 (.cons a2 .nil))) σ L1 (fun xs L2 => (x :: (xs ++ dv)).length = n ∧ sp (x :: (xs ++ dv)) L2 (Cl Q) (ClX (E σ))) E) E) : wpE C (.meth c m id a (.cons a0 (.cons a1 (.cons a2 .nil)))) σ L Q E := e_meth h hc q
theorem e_call4 (h : C.fn id 4 = some (n, sp, dv)) (q : wpA C (.cons a0 (.cons a1 (.cons a2 (.cons a3 .nil)))) σ L (fun xs L1 => (xs ++ dv).length = n ∧ sp (xs ++ dv) L1 (Cl Q) (ClX (E σ))) E) : wpE C (.call x id (.cons a0 (.cons a1 (.cons a2 (.cons a3 .nil))))) σ L Q E := e_call h q
theorem e_make4 (h : C.fn id 4 = some (n, sp, dv)) (q : wpA C (.cons a0 (.cons a1 (.cons a2 (.cons a3 .nil)))) σ L (fun xs L1 => ∀ p, (D.ref p :: (xs ++ dv)).length = n ∧ sp (.ref p :: (xs ++ dv)) ((p, .ins x []) :: L1) (Cl fun d L2 => d = .non ∧ Cl Q (.ref p) L2) (ClX (E σ))) E) : wpE C (.make x id (.cons a0 (.cons a1 (.cons a2 (.cons a3 .nil))))) σ L Q E := e_make h q
theorem e_meth4 (h : C.fn id 4 = some (n, sp, dv)) (hc : c ≠ "") (q : wpE C a σ L (fun x L1 => ∃ fs, IsI L1 x c fs ∧ fs.lookup m = none ∧ wpA C (.cons a0 (.cons a1 (.cons a2 (.cons a3 .nil)))) σ L1 (fun xs L2 => (x :: (xs ++ dv)).length = n ∧ sp (x :: (xs ++ dv)) L2 (Cl Q) (ClX (E σ))) E) E) : wpE C (.meth c m id a (.cons a0 (.cons a1 (.cons a2 (.cons a3 .nil))))) σ L Q E := e_meth h hc q
theorem e_call5 (h : C.fn id 5 = some (n, sp, dv)) (q : wpA C (.cons a0 (.cons a1 (.cons a2 (.cons a3 (.cons a4 .nil))))) σ L (fun xs L1 => (xs ++ dv).length = n ∧ sp (xs ++ dv) L1 (Cl Q) (ClX (E σ))) E) : wpE C (.call x id (.cons a0 (.cons a1 (.cons a2 (.cons a3 (.cons a4 .nil)))))) σ L Q E := e_call h q
theorem e_make5 (h : C.fn id 5 = some (n, sp, dv)) (q : wpA C (.cons a0 (.cons a1 (.cons a2 (.cons a3 (.cons a4 .nil))))) σ L (fun xs L1 => ∀ p, (D.ref p :: (xs ++ dv)).length = n ∧ sp (.ref p :: (xs ++ dv)) ((p, .ins x []) :: L1) (Cl fun d L2 => d = .non ∧ Cl Q (.ref p) L2) (ClX (E σ))) E) : wpE C (.make x id (.cons a0 (.cons a1 (.cons a2 (.cons a3 (.cons a4 .nil)))))) σ L Q E := e_make h q
theorem e_meth5 (h : C.fn id 5 = some (n, sp, dv)) (hc : c ≠ "") (q : wpE C a σ L (fun x L1 => ∃ fs, IsI L1 x c fs ∧ fs.lookup m = none ∧ wpA C (.cons a0 (.cons a1 (.cons a2 (.cons a3 (.cons a4 .nil))))) σ L1 (fun xs L2 => (x :: (xs ++ dv)).length = n ∧ sp (x :: (xs ++ dv)) L2 (Cl Q) (ClX (E σ))) E) E) : wpE C (.meth c m id a (.cons a0 (.cons a1 (.cons a2 (.cons a3 (.cons a4 .nil)))))) σ L Q E := e_meth h hc q
theorem e_call6 (h : C.fn id 6 = some (n, sp, dv)) (q : wpA C (.cons a0 (.cons a1 (.cons a2 (.cons a3 (.cons a4 (.cons a5 .nil)))))) σ L (fun xs L1 => (xs ++ dv).length = n ∧ sp (xs ++ dv) L1 (Cl Q) (ClX (E σ))) E) : wpE C (.call x id (.cons a0 (.cons a1 (.cons a2 (.cons a3 (.cons a4 (.cons a5 .nil))))))) σ L Q E := e_call h q
theorem e_make6 (h : C.fn id 6 = some (n, sp, dv)) (q : wpA C (.cons a0 (.cons a1 (.cons a2 (.cons a3 (.cons a4 (.cons a5 .nil)))))) σ L (fun xs L1 => ∀ p, (D.ref p :: (xs ++ dv)).length = n ∧ sp (.ref p :: (xs ++ dv)) ((p, .ins x []) :: L1) (Cl fun d L2 => d = .non ∧ Cl Q (.ref p) L2) (ClX (E σ))) E) : wpE C (.make x id (.cons a0 (.cons a1 (.cons a2 (.cons a3 (.cons a4 (.cons a5 .nil))))))) σ L Q E := e_make h q
theorem e_call7 (h : C.fn id 7 = some (n, sp, dv)) (q : wpA C (.cons a0 (.cons a1 (.cons a2 (.cons a3 (.cons a4 (.cons a5 (.cons a6 .nil))))))) σ L (fun xs L1 => (xs ++ dv).length = n ∧ sp (xs ++ dv) L1 (Cl Q) (ClX (E σ))) E) : wpE C (.call x id (.cons a0 (.cons a1 (.cons a2 (.cons a3 (.cons a4 (.cons a5 (.cons a6 .nil)))))))) σ L Q E := e_call h q
theorem e_make7 (h : C.fn id 7 = some (n, sp, dv)) (q : wpA C (.cons a0 (.cons a1 (.cons a2 (.cons a3 (.cons a4 (.cons a5 (.cons a6 .nil))))))) σ L (fun xs L1 => ∀ p, (D.ref p :: (xs ++ dv)).length = n ∧ sp (.ref p :: (xs ++ dv)) ((p, .ins x []) :: L1) (Cl fun d L2 => d = .non ∧ Cl Q (.ref p) L2) (ClX (E σ))) E) : wpE C (.make x id (.cons a0 (.cons a1 (.cons a2 (.cons a3 (.cons a4 (.cons a5 (.cons a6 .nil)))))))) σ L Q E := e_make h q
end
theorem m_isi {L : HL} {x : D} {c m : Str} {fs : List (Str × D)} {P : List (Str × D) → Prop} (h : IsI L x c fs) (k : fs.lookup m = none) (q : P fs) : ∃ fs, IsI L x c fs ∧ fs.lookup m = none ∧ P fs := ⟨fs, h, k, q⟩
theorem m_fld {L : HL} {x d : D} {c f : Str} {fs : List (Str × D)} {fd : Str → List Str} {P : D → Prop} (h : IsI L x c fs) (m : f ∈ fd c) (k : fs.lookup f = some d) (q : P d) : ∃ c fs d, IsI L x c fs ∧ f ∈ fd c ∧ fs.lookup f = some d ∧ P d := ⟨c, fs, d, h, m, k, q⟩
theorem m_tym {L : HL} {x : D} {T : String} {P : Prop} (h : TyM L T x) (q : P) : TyM L T x ∧ P := ⟨h, q⟩
theorem m_ex {b : Bool} {P : Bool → Prop} (q : P b) : ∃ c, D.bl b = .bl c ∧ P c := ⟨b, rfl, q⟩
theorem m_ref {i : Int} {P : Int → Prop} (q : P i) : ∃ c, D.int i = .int c ∧ P c := ⟨i, rfl, q⟩
section
variable {p : Addr} {c : Ch} {B F : HL} {e0 e1 e2 e3 e4 e5 e6 e7 e8 : Addr × Ch}
theorem sp0 : Sp ((p, c) :: B) p c [] B := Sp.here
theorem sp1 : Sp (e0 :: (p, c) :: B) p c [e0] B := Sp.there sp0
theorem sp2 : Sp (e0 :: e1 :: (p, c) :: B) p c [e0, e1] B := Sp.there sp1
theorem sp3 : Sp (e0 :: e1 :: e2 :: (p, c) :: B) p c [e0, e1, e2] B := Sp.there sp2
theorem sp4 : Sp (e0 :: e1 :: e2 :: e3 :: (p, c) :: B) p c [e0, e1, e2, e3] B := Sp.there sp3
theorem sp5 : Sp (e0 :: e1 :: e2 :: e3 :: e4 :: (p, c) :: B) p c [e0, e1, e2, e3, e4] B := Sp.there sp4
theorem sp6 : Sp (e0 :: e1 :: e2 :: e3 :: e4 :: e5 :: (p, c) :: B) p c [e0, e1, e2, e3, e4, e5] B := Sp.there sp5
theorem sp7 : Sp (e0 :: e1 :: e2 :: e3 :: e4 :: e5 :: e6 :: (p, c) :: B) p c [e0, e1, e2, e3, e4, e5, e6] B := Sp.there sp6
theorem sp8 : Sp (e0 :: e1 :: e2 :: e3 :: e4 :: e5 :: e6 :: e7 :: (p, c) :: B) p c [e0, e1, e2, e3, e4, e5, e6, e7] B := Sp.there sp7
theorem pm0 : List.Perm F F := .refl _
theorem pm1 : List.Perm (e1 :: e0 :: F) (e0 :: e1 :: F) := (List.Perm.cons e1 (.refl _)).trans (.swap _ _ _)
theorem pm2 : List.Perm (e1 :: e2 :: e0 :: F) (e0 :: e1 :: e2 :: F) := (List.Perm.cons e1 (pm1)).trans (.swap _ _ _)
theorem pm3 : List.Perm (e1 :: e2 :: e3 :: e0 :: F) (e0 :: e1 :: e2 :: e3 :: F) := (List.Perm.cons e1 (pm2)).trans (.swap _ _ _)
theorem pm4 : List.Perm (e1 :: e2 :: e3 :: e4 :: e0 :: F) (e0 :: e1 :: e2 :: e3 :: e4 :: F) := (List.Perm.cons e1 (pm3)).trans (.swap _ _ _)
theorem pm5 : List.Perm (e1 :: e2 :: e3 :: e4 :: e5 :: e0 :: F) (e0 :: e1 :: e2 :: e3 :: e4 :: e5 :: F) := (List.Perm.cons e1 (pm4)).trans (.swap _ _ _)
theorem pm6 : List.Perm (e1 :: e2 :: e3 :: e4 :: e5 :: e6 :: e0 :: F) (e0 :: e1 :: e2 :: e3 :: e4 :: e5 :: e6 :: F) := (List.Perm.cons e1 (pm5)).trans (.swap _ _ _)
theorem pm7 : List.Perm (e1 :: e2 :: e3 :: e4 :: e5 :: e6 :: e7 :: e0 :: F) (e0 :: e1 :: e2 :: e3 :: e4 :: e5 :: e6 :: e7 :: F) := (List.Perm.cons e1 (pm6)).trans (.swap _ _ _)
theorem pm8 : List.Perm (e1 :: e2 :: e3 :: e4 :: e5 :: e6 :: e7 :: e8 :: e0 :: F) (e0 :: e1 :: e2 :: e3 :: e4 :: e5 :: e6 :: e7 :: e8 :: F) := (List.Perm.cons e1 (pm7)).trans (.swap _ _ _)
theorem pm_0_1 : List.Perm (e0 :: e1 :: F) (e0 :: e1 :: F) := (pm0).trans (.cons _ pm0)
theorem pm_1_0 : List.Perm (e0 :: e1 :: F) (e1 :: e0 :: F) := (pm1).trans (.cons _ pm0)
theorem pm_0_2 : List.Perm (e0 :: e1 :: e2 :: F) (e0 :: e2 :: e1 :: F) := (pm0).trans (.cons _ pm1)
theorem pm_1_2 : List.Perm (e0 :: e1 :: e2 :: F) (e1 :: e2 :: e0 :: F) := (pm1).trans (.cons _ pm1)
theorem pm_2_0 : List.Perm (e0 :: e1 :: e2 :: F) (e2 :: e0 :: e1 :: F) := (pm2).trans (.cons _ pm0)
theorem pm_2_1 : List.Perm (e0 :: e1 :: e2 :: F) (e2 :: e1 :: e0 :: F) := (pm2).trans (.cons _ pm1)
theorem pm_0_3 : List.Perm (e0 :: e1 :: e2 :: e3 :: F) (e0 :: e3 :: e1 :: e2 :: F) := (pm0).trans (.cons _ pm2)
theorem pm_1_3 : List.Perm (e0 :: e1 :: e2 :: e3 :: F) (e1 :: e3 :: e0 :: e2 :: F) := (pm1).trans (.cons _ pm2)
theorem pm_2_3 : List.Perm (e0 :: e1 :: e2 :: e3 :: F) (e2 :: e3 :: e0 :: e1 :: F) := (pm2).trans (.cons _ pm2)
theorem pm_3_0 : List.Perm (e0 :: e1 :: e2 :: e3 :: F) (e3 :: e0 :: e1 :: e2 :: F) := (pm3).trans (.cons _ pm0)
theorem pm_3_1 : List.Perm (e0 :: e1 :: e2 :: e3 :: F) (e3 :: e1 :: e0 :: e2 :: F) := (pm3).trans (.cons _ pm1)
theorem pm_3_2 : List.Perm (e0 :: e1 :: e2 :: e3 :: F) (e3 :: e2 :: e0 :: e1 :: F) := (pm3).trans (.cons _ pm2)
theorem pm_0_4 : List.Perm (e0 :: e1 :: e2 :: e3 :: e4 :: F) (e0 :: e4 :: e1 :: e2 :: e3 :: F) := (pm0).trans (.cons _ pm3)
theorem pm_1_4 : List.Perm (e0 :: e1 :: e2 :: e3 :: e4 :: F) (e1 :: e4 :: e0 :: e2 :: e3 :: F) := (pm1).trans (.cons _ pm3)
theorem pm_2_4 : List.Perm (e0 :: e1 :: e2 :: e3 :: e4 :: F) (e2 :: e4 :: e0 :: e1 :: e3 :: F) := (pm2).trans (.cons _ pm3)
theorem pm_3_4 : List.Perm (e0 :: e1 :: e2 :: e3 :: e4 :: F) (e3 :: e4 :: e0 :: e1 :: e2 :: F) := (pm3).trans (.cons _ pm3)
theorem pm_4_0 : List.Perm (e0 :: e1 :: e2 :: e3 :: e4 :: F) (e4 :: e0 :: e1 :: e2 :: e3 :: F) := (pm4).trans (.cons _ pm0)
theorem pm_4_1 : List.Perm (e0 :: e1 :: e2 :: e3 :: e4 :: F) (e4 :: e1 :: e0 :: e2 :: e3 :: F) := (pm4).trans (.cons _ pm1)
theorem pm_4_2 : List.Perm (e0 :: e1 :: e2 :: e3 :: e4 :: F) (e4 :: e2 :: e0 :: e1 :: e3 :: F) := (pm4).trans (.cons _ pm2)
theorem pm_4_3 : List.Perm (e0 :: e1 :: e2 :: e3 :: e4 :: F) (e4 :: e3 :: e0 :: e1 :: e2 :: F) := (pm4).trans (.cons _ pm3)
theorem pm_0_5 : List.Perm (e0 :: e1 :: e2 :: e3 :: e4 :: e5 :: F) (e0 :: e5 :: e1 :: e2 :: e3 :: e4 :: F) := (pm0).trans (.cons _ pm4)
theorem pm_1_5 : List.Perm (e0 :: e1 :: e2 :: e3 :: e4 :: e5 :: F) (e1 :: e5 :: e0 :: e2 :: e3 :: e4 :: F) := (pm1).trans (.cons _ pm4)
theorem pm_2_5 : List.Perm (e0 :: e1 :: e2 :: e3 :: e4 :: e5 :: F) (e2 :: e5 :: e0 :: e1 :: e3 :: e4 :: F) := (pm2).trans (.cons _ pm4)
theorem pm_3_5 : List.Perm (e0 :: e1 :: e2 :: e3 :: e4 :: e5 :: F) (e3 :: e5 :: e0 :: e1 :: e2 :: e4 :: F) := (pm3).trans (.cons _ pm4)
theorem pm_4_5 : List.Perm (e0 :: e1 :: e2 :: e3 :: e4 :: e5 :: F) (e4 :: e5 :: e0 :: e1 :: e2 :: e3 :: F) := (pm4).trans (.cons _ pm4)
theorem pm_5_0 : List.Perm (e0 :: e1 :: e2 :: e3 :: e4 :: e5 :: F) (e5 :: e0 :: e1 :: e2 :: e3 :: e4 :: F) := (pm5).trans (.cons _ pm0)
theorem pm_5_1 : List.Perm (e0 :: e1 :: e2 :: e3 :: e4 :: e5 :: F) (e5 :: e1 :: e0 :: e2 :: e3 :: e4 :: F) := (pm5).trans (.cons _ pm1)
theorem pm_5_2 : List.Perm (e0 :: e1 :: e2 :: e3 :: e4 :: e5 :: F) (e5 :: e2 :: e0 :: e1 :: e3 :: e4 :: F) := (pm5).trans (.cons _ pm2)
theorem pm_5_3 : List.Perm (e0 :: e1 :: e2 :: e3 :: e4 :: e5 :: F) (e5 :: e3 :: e0 :: e1 :: e2 :: e4 :: F) := (pm5).trans (.cons _ pm3)
theorem pm_5_4 : List.Perm (e0 :: e1 :: e2 :: e3 :: e4 :: e5 :: F) (e5 :: e4 :: e0 :: e1 :: e2 :: e3 :: F) := (pm5).trans (.cons _ pm4)
end
theorem c_nt {p q : Prop} (h : p) : cond (!false) p q := h
theorem c_nf {p q : Prop} (h : q) : cond (!true) p q := h
theorem m_sz {xs : List D} {P : Prop} (h : Nat.ble xs.length 5000 = true) (q : P) : xs.length ≤ sizeLine ∧ P := ⟨Nat.le_trans (Nat.le_of_ble_eq_true h) (by decide), q⟩
theorem m_set {L : HL} {p : Addr} {c f : Str} {d : D} {fs fs' : List (Str × D)} {A B : HL} {fd : Str → List Str} {P : HL → Prop} (h : Sp L p (.ins c fs) A B) (m : f ∈ fd c) (e : putD f d fs = fs') (l : Nat.ble fs.length 89 = true) (q : P (A ++ (p, .ins c fs') :: B)) :
    ∃ p' c fs A B, D.ref p = .ref p' ∧ Sp L p' (.ins c fs) A B ∧ f ∈ fd c ∧ fs.length < 90 ∧ P (A ++ (p', .ins c (putD f d fs)) :: B) := ⟨p, c, fs, A, B, rfl, h, m, Nat.lt_succ_of_le (Nat.le_of_ble_eq_true l), e ▸ q⟩
section
variable {L : HL} {x : D} {c m f : Str} {d : D} {fd : Str → List Str} {xs : List D} {T : String}
theorem k_isi {P : List (Str × D) → Prop} (h : ∃ fs, IsI L x c fs ∧ fs.lookup m = none ∧ P fs) : ∃ fs, IsI L x c fs ∧ fs.lookup m = none ∧ P fs := h
theorem k_fld {P : D → Prop} (h : ∃ c fs d, IsI L x c fs ∧ f ∈ fd c ∧ fs.lookup f = some d ∧ P d) : ∃ c fs d, IsI L x c fs ∧ f ∈ fd c ∧ fs.lookup f = some d ∧ P d := h
theorem k_set {P : HL → Prop} (h : ∃ p' c fs A B, x = .ref p' ∧ Sp L p' (.ins c fs) A B ∧ f ∈ fd c ∧ fs.length < 90 ∧ P (A ++ (p', .ins c (putD f d fs)) :: B)) : ∃ p' c fs A B, x = .ref p' ∧ Sp L p' (.ins c fs) A B ∧ f ∈ fd c ∧ fs.length < 90 ∧ P (A ++ (p', .ins c (putD f d fs)) :: B) := h
theorem k_sz {P : Prop} (h : xs.length ≤ sizeLine ∧ P) : xs.length ≤ sizeLine ∧ P := h
theorem k_tym {P : Prop} (h : TyM L T x ∧ P) : TyM L T x ∧ P := h
end
theorem p_neg {i : Int} {L : HL} {Q : Qd} (q : Q (.int (-i)) L) : oNeg (.int i) L Q := q
theorem c_d {P : Prop} [Decidable P] {p q : Prop} (h1 : P → p) (h2 : ¬ P → q) : cond (decide P) p q := by
  by_cases h : P
  · rw [decide_eq_true h]
    exact h1 h
  · rw [decide_eq_false h]
    exact h2 h
end DM
set_option Elab.async false
set_option linter.all false
set_option maxRecDepth 100000
namespace DM
open PySem L2
section
variable {C : Ct} {D0 : DE} {σ : Sl} {L : HL} {Q : Qd} {E : Xd} {ss s1 s2 : Stms} {e a b : Ex}
theorem e_or2 {a b : Ex} (q : wpE C a σ L (fun d L1 => ∃ c, truD d = some c ∧ cond c (Q d L1) (wpE C b σ L1 Q E)) E) : wpE C (.or2 a b) σ L Q E := by
  have e : (fun (d : D) (L1 : HL) => ∃ c, truD d = some c ∧ cond c (Q d L1) (wpE C b σ L1 Q E)) = fun (d : D) (L1 : HL) => ∃ c, truD d = some c ∧ if c = true then Q d L1 else wpE C b σ L1 Q E := by
    funext d L1
    refine propext (exists_congr fun c => and_congr_right fun _ => ?_)
    cases c <;> exact Iff.rfl
  rw [e] at q
  exact q
theorem e_lrev (q : wpE C a σ L (fun x L1 => ∃ ds : List D, IsL L1 x ds ∧ RetL ds.reverse L1 Q) E) : wpE C (.lrev a) σ L Q E := q
theorem e_lrng (q : wpE C a σ L (fun x L1 => ∃ j : Int, x = .int j ∧ 0 ≤ j ∧ j ≤ 100000 ∧ RetL (rgD 0 j.toNat) L1 Q) E) : wpE C (.lrng a) σ L Q E := q
theorem e_rvs (q : wpE C a σ L (fun x L1 => ∃ ds : List D, IsL L1 x ds ∧ RetL ds.reverse L1 Q) E) : wpE C (.rvs a) σ L Q E := q
theorem e_sortm {c m : Str} {id i n : Nat} {sp : DSp} {dv : List D} (hf : C.fn id 1 = some (n, sp, dv)) (q : wpE C a σ L (fun x L1 => ∃ d0, σ[i]? = some (some d0) ∧ ∃ (fs : List (Str × D)), d0 = .ins c fs ∧ (SortB0 m n sp dv d0 x fs L1 Q ∨ SortB1 m n sp dv d0 x fs L1 Q)) E) : wpE C (.sortm c m id a i) σ L Q E := by
  unfold wpE
  rw [hf]
  exact q
theorem s_sortA {q : Str} {i j : Nat} {te : Ex} (h : dSortL (wpE C te) j (wpE C a) σ L (fun d L1 => wpSs C ss D0 (σ.set i (some d)) L1) D0.ex) : wpSs C (.cons (.sortL (some i) q a j te) ss) D0 σ L := h
theorem s_forE {g : Tg} (h : wpE C a σ L (fun x L1 => oEnumA x L1 (fun q L1 => ∃ W : Nat → Sl → HL → Prop, W 0 σ L1 ∧ FI q (wpG C g) (wpSs C s1) ⟨fun σ2 L2 => wpSs C ss D0 σ2 L2, D0.rt, D0.ex⟩ W)) D0.ex) : wpSs C (.cons (.forE g a s1) ss) D0 σ L := h
theorem s_tryM {cs : List Cla} (h0 : subAll C cs = true) (q : wpSs C s1 ⟨fun σ2 L2 => wpSs C ss D0 σ2 L2, D0.rt, dMany C ⟨fun σ2 L2 => wpSs C ss D0 σ2 L2, D0.rt, D0.ex⟩ cs⟩ σ L) : wpSs C (.cons (.tryM s1 cs) ss) D0 σ L := ⟨h0, q⟩
theorem g_fld {o : Ex} {f : Str} {d : D} {T : Sl → HL → Prop} (q : wpE C o σ L (fun o L2 => ∃ p c fs A B, o = .ref p ∧ Sp L2 p (.ins c fs) A B ∧ f ∈ C.fds c ∧ fs.length < 90 ∧ T σ (A ++ (p, .ins c (putD f d fs)) :: B)) E) : wpG C (.fld o f) d σ L T E := q
theorem s_while {c : Tx} (h : ∃ W : Nat → Sl → HL → Prop, (∃ m, W m σ L) ∧ ∀ m σ2 L2, W m σ2 L2 → wpT C c σ2 L2 (fun b L3 => cond b (wpSs C s1 ⟨fun σ4 L4 => ∃ m', m' < m ∧ Sub_ (W m') σ4 L4, D0.rt, D0.ex⟩ σ2 L3) (wpSs C ss D0 σ2 L3)) D0.ex) : wpSs C (.cons (.while_ c s1) ss) D0 σ L := by
  obtain ⟨W, h1, h2⟩ := h
  refine ⟨W, h1, fun m σ2 L2 hw => ?_⟩
  have e : (fun (b : Bool) (L3 : HL) => cond b (wpSs C s1 ⟨fun σ4 L4 => ∃ m', m' < m ∧ Sub_ (W m') σ4 L4, D0.rt, D0.ex⟩ σ2 L3) (wpSs C ss D0 σ2 L3)) = fun (b : Bool) (L3 : HL) => if b = true then wpSs C s1 ⟨fun σ4 L4 => ∃ m', m' < m ∧ Sub_ (W m') σ4 L4, D0.rt, D0.ex⟩ σ2 L3 else wpSs C ss D0 σ2 L3 := by
    funext b L3
    cases b <;> rfl
  have := h2 m σ2 L2 hw
  rw [e] at this
  exact this
end
section
variable {L : HL} {Q : Qd}
theorem ixN_last {n : Nat} (h : 0 < n) : ixN n (-1) = some (n - 1) := by
  unfold ixN
  rw [if_neg (by decide), if_pos (by omega)]
  exact congrArg some (by omega)
theorem atI_end {α : Type} {A : List α} {x : α} : atI (A ++ [x]) (-1) = some x := by
  unfold atI
  rw [List.length_append, ixN_last (by simp)]
  simp
theorem p_last {x d : D} {A : List D} (h : IsS L x (A ++ [d])) (q : Q d L) : oIx x (.int (-1)) L Q := .seq h atI_end q
theorem p_slc {x : D} {ds es : List D} {lo hi : Option Int} (h : IsL L x ds) (e : cutD ds lo hi = es) (q : Q (.lst es) L) : oSl x lo hi L Q := .lst h (.inl (e ▸ q))
theorem p_slcT {ds es : List D} {lo hi : Option Int} (e : cutD ds lo hi = es) (q : Q (.tup es) L) : oSl (.tup ds) lo hi L Q := .tup (e ▸ q)
theorem cutD_to {ds : List D} {n : Nat} : cutD ds none (some (n : Int)) = ds.take n := by
  unfold cutD
  rw [HT.sIx_none, HT.sIx_nat, List.drop_zero, Nat.sub_zero]
  by_cases h : n ≤ ds.length
  · rw [Nat.min_eq_left h]
  · rw [Nat.min_eq_right (by omega), List.take_length, List.take_of_length_le (by omega)]
theorem cutD_from {ds : List D} {n : Nat} : cutD ds (some (n : Int)) none = ds.drop n := by
  unfold cutD
  rw [HT.sIx_none, HT.sIx_nat]
  by_cases h : n ≤ ds.length
  · rw [Nat.min_eq_left h, List.take_of_length_le (by rw [List.length_drop]; omega)]
  · rw [Nat.min_eq_right (by omega), List.drop_length, List.drop_of_length_le (by omega), List.take_nil]
theorem cutD_init {A : List D} {x : D} : cutD (A ++ [x]) none (some (-1)) = A := by
  unfold cutD
  have e : HT.sIx (A ++ [x]).length (A ++ [x]).length (some (-1)) = A.length := by
    show (if (-1 : Int) < 0 then ((-1 : Int) + ((A ++ [x]).length : Int)).toNat else min (-1 : Int).toNat (A ++ [x]).length) = _
    rw [if_pos (by decide), List.length_append]
    simp only [List.length_cons, List.length_nil]
    omega
  rw [e, HT.sIx_none, List.drop_zero, Nat.sub_zero, List.take_left]
end
inductive VwL (L : HL) : List D → List D → Prop
  | nil : VwL L [] []
  | cons {x d : D} {xs ds : List D} : Vw L x d → VwL L xs ds → VwL L (x :: xs) (d :: ds)
inductive Vn (L : HL) : D → D → Prop
  | vw {x d : D} : Vw L x d → Vn L x d
  | own {p : Addr} {xs ds : List D} : (p, Ch.lst xs) ∈ L → VwL L xs ds → Vn L (.ref p) (.lst ds)
  | lst {xs ds : List D} : VwL L xs ds → Vn L (.lst xs) (.lst ds)
theorem Vw.py7 {L : HL} {x d : D} (h : Vw L x d) (o : okq 7 d = true) : Py L x d.py := by
  cases h with
  | same => exact (okq_py o).1
  | own m =>
    unfold okq at o
    exact .own m (okqs_py o).1
theorem VwL.py {L : HL} {xs ds : List D} (h : VwL L xs ds) (o : ∀ d ∈ ds, okq 7 d = true) : PyL L xs (pyAll ds) := by
  induction h with
  | nil => exact .nil
  | cons h t ih => exact .cons (h.py7 (o _ (.head _))) (ih fun d m => o d (.tail _ m))
theorem Vn.py {L : HL} {x d : D} (h : Vn L x d) (o : okq 8 d = true) : Py L x d.py ∧ SeqAt.shaped d.py = true := by
  have s : SeqAt.shaped d.py = true := ((Vw.same (L := L) d).py o).2
  cases h with
  | vw h => exact h.py o
  | own m h =>
    unfold okq at o
    exact ⟨.own m (h.py (okqs_iff.mp o)), s⟩
  | lst h =>
    unfold okq at o
    exact ⟨.lst (h.py (okqs_iff.mp o)), s⟩
end DM
set_option Elab.async false
set_option linter.all false
set_option maxRecDepth 100000
set_option maxHeartbeats 2000000
namespace DM
open PySem PySem.Spec L2 PyProof.Rows
section
end
end DM
set_option autoImplicit false
set_option Elab.async false
set_option linter.all false
set_option maxRecDepth 100000
set_option maxHeartbeats 2000000
namespace DM
open PySem PySem.Spec L2 PyProof.Rows
section
end
end DM
set_option Elab.async false
set_option linter.all false
set_option maxRecDepth 100000
set_option maxHeartbeats 2000000
namespace DM
open PySem PySem.Spec L2 PyProof.Rows
/-- the places of the true ones -/
def idxs (bs : List Bool) (n : Nat) : List Int := ((List.range n).filter fun i => bs[i]? == some true).map fun (i : Nat) => (i : Int)
section
end
def HotL (T : List (Addr × Str)) (n : Nat) (bs : List Bool) (H : Hp) (v : V) (H' : Hp) : Prop := Ext T H H' ∧ ∃ r, v = .ref r ∧ H r = none ∧ H' r = some (.lst ((idxs bs n).map V.int))
theorem HotL.ext {T : List (Addr × Str)} {n : Nat} {bs : List Bool} {H H1 H' : Hp} {v : V} (e : Ext T H H1) (h : HotL T n bs H1 v H') : HotL T n bs H v H' := by
  obtain ⟨h1, r, h2, h3, h4⟩ := h
  exact ⟨e.trans h1, r, h2, e.there h3, h4⟩
section
end
end DM
set_option autoImplicit false
set_option Elab.async false
set_option linter.all false
set_option maxRecDepth 100000
namespace DM
open PySem PySem.Spec L2 PyProof.Rows
section
variable {P : Program} {w : World} {K : PySem.W.Frag} {mg mb : Str → Option Value} {CX : CXT} {k : Nat} {fa a : Addr} {fd : FuncData} {x : Str} {sp : _root_.L2.Sp} {t : Shared} {vs : List Value} {ns : List Int}
def scriptObj (vs : List Value) : Obj := { cls := .type "list", data := .seq vs.toArray }
/-- the script is tracked where the module itself has it not; nothing else is -/
theorem script_tracked (inn : K.In t.heap) (arg : t.heap.get? a = some (scriptObj vs)) (nums : Vals (ns.map V.int) vs) (short : ns.length ≤ sizeLine) :
    ∃ H : Hp, SqL K H a (ns.map V.int) ∧ HOk P w H t.heap ∧ ∀ b u, H b = some u → b = a ∧ K.lookup a = none ∧ u = .frz (scriptObj vs) (.lst (ns.map V.int)) := by
  have size := nums.length
  rw [List.length_map] at size
  rcases h : K.lookup a with _ | o
  · have one : ∀ b u, (if b = a then some (HO.frz (scriptObj vs) (.lst (ns.map V.int))) else none) = some u → b = a ∧ (none : Option Obj) = none ∧ u = .frz (scriptObj vs) (.lst (ns.map V.int)) := fun b u e => by
      split at e
      · exact ⟨‹_›, rfl, (Option.some.inj e).symm⟩
      · cases e
    refine ⟨_, .inl (.inr ⟨scriptObj vs, if_pos rfl⟩), fun b u e => ?_, one⟩
    obtain ⟨rfl, -, rfl⟩ := one b u e
    exact ⟨arg, by rw [List.length_map]; exact short, vs, _, nums, arg⟩
  · obtain rfl : o = scriptObj vs := Option.some.inj ((inn a o h).symm.trans arg)
    exact ⟨fun _ => none, .inr ⟨scriptObj vs, vs.toArray, _, h, rfl, rfl, rfl, by rw [List.size_toArray, ← size]; exact short, nums⟩, nofun, nofun⟩
end
end DM
set_option autoImplicit false
set_option Elab.async false
set_option linter.all false
set_option maxRecDepth 100000
namespace DM
open PySem PySem.Spec L2 PyProof.Rows LamX
section
variable {P : Program} {w : World} {K : PySem.W.Frag} {mg mb : Str → Option Value} {CX : CXT} {k : Nat} {fa a c T : Addr} {fd : FuncData} {x : Str} {sp : _root_.L2.Sp} {t : Shared} {vs : List Value} {ns : List Int}
def noCodes : Obj := { cls := .none, data := .fields #[] }
theorem law_callQT (inn : K.In t.heap) (g : t.heap.Ns mainGlobals mg) (b : t.heap.Ns builtinsNs mb) (boot : ∀ y : Str, y ≠ "__name__" → mb y = bootBuiltins y) (nolim : t.heap.NoLimit) (gens : t.gens = #[]) (empty : t.heap.get? T = some noCodes) (freeT : K.lookup T = none) (code : PySem.W.CodeHd t.heap c T)
    (bmod : ∃ (m : Addr) (o : Obj), mg "__builtins__" = some (.ref m) ∧ m ≠ builtinsNs ∧ t.heap.get? m = some o ∧ o.cls = .type "module" ∧ o.dict = some builtinsNs ∧ o.data = .plain)
    (arg : t.heap.get? a = some (scriptObj vs)) (ints' : IntsAre vs ns) (short : ns.length ≤ sizeLine) (room : Room k callerA) (fn : ∀ base : Heap, K.In base → base.Ns mainGlobals mg → TabB base mg c T → FnQ P w K mg base CX k fa fd [x] sp)
    (bind : ∀ (s : Shared) (u : Value), BindsTo s fd ⟨[u], []⟩ [(x, u)]) (pre : ∀ H : Hp, H T = some (.tbl #[]) → SqL K H a (ns.map V.int) → sp [.ref a] H (fun v _ => v = .bl true) fun _ _ _ => False) (calm : ∀ H e s2, CX [] H t (fun _ _ _ => False) e s2 → False) :
    codeAny (model P w) callerA (.call (.ref fa) ⟨[.ref a], []⟩) (fun r s2 => r = .ok (.ret (.bool true)) ∧ OldK t.heap s2.heap ∧ s2.os = t.os ∧ AllBare s2.gens) t := by
  obtain ⟨H0, seq0, ok0, only0⟩ := script_tracked (P := P) (w := w) inn arg (vals_ints ints') short
  have aT : a ≠ T := fun z => by
    rw [z, empty] at arg
    cases (show Data.fields #[] = Data.seq vs.toArray _ from congrArg Obj.data (Option.some.inj arg))
  -- the table is tracked, too
  have atT : upd H0 T (.tbl #[]) T = some (.tbl #[]) := upd_same
  have known : ∀ {d : Addr} {u : HO}, upd H0 T (.tbl #[]) d = some u → (d = T ∧ u = .tbl #[]) ∨ (d ≠ T ∧ d = a ∧ K.lookup a = none ∧ u = .frz (scriptObj vs) (.lst (ns.map V.int))) := fun {d u} e => by
    by_cases h : d = T
    · subst h
      exact .inl ⟨rfl, (Option.some.inj (e.symm.trans upd_same))⟩
    · rw [upd_ne h] at e
      exact .inr ⟨h, only0 d u e⟩
  have seq : SqL K (upd H0 T (.tbl #[])) a (ns.map V.int) := by
    refine seq0.imp_left fun r => ?_
    unfold Rd at r ⊢
    rw [upd_ne aT]
    exact r
  have free : ∀ {d : Addr} {o : Obj}, t.heap.get? d = some o → (K.lookup d ≠ none ∨ (o ≠ noCodes ∧ o ≠ scriptObj vs)) → upd H0 T (.tbl #[]) d = none := fun {d o} e why => by
    rcases h : upd H0 T (.tbl #[]) d with _ | u
    · rfl
    · rcases known h with ⟨rfl, -⟩ | ⟨-, rfl, n, -⟩
      · exact why.elim (fun z => absurd freeT z) fun z => absurd (Option.some.inj (e.symm.trans empty)) z.1
      · exact why.elim (fun z => absurd n z) fun z => absurd (Option.some.inj (e.symm.trans arg)) z.2
  have space : ∀ {d : Addr} {m : Str → Option Value}, t.heap.Ns d m → (hidT t.heap (upd H0 T (.tbl #[]))).Ns d m := fun ⟨o, es, ep, e, dd, r⟩ =>
    ⟨o, es, ep, hidT_get e (free e (.inr ⟨(fun z => by rw [z] at dd; cases (show Data.fields #[] = Data.dict es ep from dd)), (fun z => by rw [z] at dd; cases (show Data.seq vs.toArray _ = Data.dict es ep from dd))⟩)), dd, r⟩
  have kin : K.In (hidT t.heap (upd H0 T (.tbl #[]))) := fun d o e => hidT_get (inn d o e) (free (inn d o e) (.inl fun z => nomatch z.symm.trans e))
  have tab : TabB (hidT t.heap (upd H0 T (.tbl #[]))) mg c T := by
    obtain ⟨o, us, f1, f2, f3, f4, f5, f6, f7, e, h1, h2, h3, h4⟩ := id code
    obtain ⟨m, om, m1, m2, m3, m4, m5, m6⟩ := bmod
    obtain ⟨og, es, ep, eg, dg, -⟩ := id g
    refine ⟨⟨o, us, f1, f2, f3, f4, f5, f6, f7, hidT_get e (free e (.inr ⟨fun z => ?_, fun z => ?_⟩)), h1, h2, h3, h4⟩, ⟨m, om, m1, m2, fun z => ?_, fun z => ?_, hidT_get m3 (free m3 (.inr ⟨fun z => ?_, fun z => ?_⟩)), m4, m5, m6⟩, fun z => ?_⟩
    · rw [z] at h1
      cases (show Value.none = Value.type "code" from h1)
    · rw [z] at h2
      cases (show Data.seq vs.toArray _ = Data.fields us from h2)
    · rw [z, eg] at m3
      rw [← Option.some.inj m3, dg] at m6
      cases m6
    · rw [z, empty] at m3
      rw [← Option.some.inj m3] at m6
      cases (show Data.fields #[] = Data.plain from m6)
    · rw [z] at m6
      cases (show Data.fields #[] = Data.plain from m6)
    · rw [z] at m6
      cases (show Data.seq vs.toArray _ = Data.plain from m6)
    · rw [z, empty] at eg
      rw [← Option.some.inj eg] at dg
      cases (show Data.fields #[] = Data.dict es ep from dg)
  have env : Env0 P w K mg (hidT t.heap (upd H0 T (.tbl #[]))) callerA [] t (upd H0 T (.tbl #[])) :=
    { frames := rfl, mod := ⟨kin, space g, ⟨mb, space b, boot⟩, nolim.elim fun mc z => ⟨mc, space z.1, z.2⟩⟩, bs := fun _ _ => of_hidT, bsz := Nat.le_of_eq (hidT_size _ _), funs := trivial, frf := fun d m => (List.not_mem_nil (show d ∈ ([] : List Addr) from m)).elim
      hok := fun d u e => by
        rcases known e with ⟨rfl, rfl⟩ | ⟨n, rfl, -, rfl⟩
        · exact empty
        · exact ⟨arg, by rw [List.length_map]; exact short, vs, _, vals_ints ints', arg⟩
      bare := .of_eq gens }
  refine codeAny_mono ((fn _ kin (space g) tab).does (A := callerA) (us := [.ref a]) rfl room (pre _ atT seq) (.cons rfl .nil) (bind t (.ref a)) env) ?_
  rintro (err | fl) s2 q
  · exact (calm _ err s2 q).elim
  · cases fl with
    | ret u =>
      obtain ⟨v, H2, os, bare, un, ok2, rv, hv⟩ := q
      obtain rfl : v = .bl true := hv
      cases rv
      obtain ⟨more, grown⟩ := un.tbls T #[] atT
      have tabs2 : s2.heap.get? T = some { cls := .none, data := .fields (#[] ++ more) } := ok2 T _ grown
      have rest : ∀ d o, d ≠ T → t.heap.get? d = some o → s2.heap.get? d = some o := fun d o n e => by
        rcases h : upd H0 T (.tbl #[]) d with _ | u
        · exact un.keep d o e h (fun m => List.not_mem_nil (show d ∈ ([] : List Addr) from m)) List.not_mem_nil
        · rcases known h with ⟨z, -⟩ | ⟨-, rfl, -, rfl⟩
          · exact absurd z n
          · cases e.symm.trans arg
            exact (ok2 _ _ (un.frzs _ _ _ h)).1
      refine ⟨rfl, ⟨fun d o e => ?_, fun d o e => ?_⟩, os, bare⟩
      · by_cases h : d = T
        · subst h
          cases e.symm.trans empty
          exact .inr (.inl ⟨(code.tab empty).isCodeTable, rfl, #[], more, rfl, tabs2⟩)
        · exact .inl (rest d o h e)
      · by_cases h : d = T
        · exact ⟨_, h ▸ tabs2⟩
        · exact ⟨o, rest d o h e⟩
    | next => exact q.elim
    | brk => exact q.elim
    | cont => exact q.elim
end
/-- a law of one argument; m: the name of the def that makes the lambda -/
theorem walk_ofQT {l : PySem.W.OpenLaw} {n k : Nat} {q : Program} {loose : List Str} {XP : (Str → Option Value) → Heap → Prop} {YP : World → Heap → Prop} {d dm : DefRec} {CX : CXT} {x m : Str} (most : l.most = some n) (fits : n ≤ sizeLine) (plain : d.params.defaults = []) (room : Room k callerA)
    (found : (PyProof.Rows.recsOf q).find? (fun e => e.name == m) = some dm)
    (told : ∀ (w : World) (mg : Str → Option Value) (at' : Addr) (h : Heap), YP w h → h.Ns mainGlobals mg → mg d.name = some (.ref at') →
      ∃ (K : PySem.W.Frag) (fd : FuncData) (sp : _root_.L2.Sp) (c T : Addr), K.In h ∧ PySem.W.tabIn K m = some (c, T) ∧ K.lookup T = none ∧ (∀ (s : Shared) (u : Value), BindsTo s fd ⟨[u], []⟩ [(x, u)]) ∧
        (∀ (H : Hp) (a : Addr) (ns : List Int), ns.length ≤ n → H T = some (.tbl #[]) → SqL K H a (ns.map V.int) → sp [.ref a] H (fun v _ => v = .bl true) fun _ _ _ => False) ∧
        ∀ base : Heap, K.In base → base.Ns mainGlobals mg → TabB base mg c T → FnQ l.prog w K mg base CX k at' fd [x] sp)
    (calm : ∀ (H : Hp) (s : Shared) (e : Value) (s2 : Shared), CX [] H s (fun _ _ _ => False) e s2 → False) : PySem.W.WalkO q loose XP YP l.row.toRowW d [] (fun f vs => PySem.call f vs) := by
  apply Att.attach_call most plain
  intro w _ s mg mb at' _ _ _ _ a vs ns ground says _ _ _ name list nums short gens
  obtain ⟨K, fd, sp, c, T, inn, tab, free, bind, pre, fn⟩ := told w mg at' _ says ground.T.g name
  obtain ⟨code, empty⟩ := PySem.W.tab_of ground.T inn found tab
  exact law_callQT inn ground.T.g ground.T.b ground.T.builtins ground.T.nolimit gens empty free code ground.T.bmain list nums (Nat.le_trans short fits) room fn bind (fun H tb sq => pre H a ns short tb sq) fun H e s2 => calm H s e s2
theorem law_spT {G : Gw} {sp : DSp} {H : Hp} {a T : Addr} {q : Str} {ns : List Int} {E : XK} (one : G.T = [(T, q)]) (empty : H T = some (.tbl #[])) (hS : SqL G.K H a (ns.map V.int)) (hn : ns.length ≤ 63) (h : ∀ Q E, (∀ L, Q (.bl true) L) → sp [.frz ns] [] Q E) : spL G 1 sp [.ref a] H (fun v _ => v = .bl true) E :=
  law_sp hS hn h fun p hp => by
    rw [one] at hp
    exact List.mem_singleton.mp hp ▸ LamX.TabS.nil empty
theorem tabB_ok {K : PySem.W.Frag} {m : Str} (h : tabB K m = true) : ∃ c T, PySem.W.tabIn K m = some (c, T) ∧ K.lookup T = none := by
  unfold tabB at h
  split at h
  · rename_i c T e
    exact ⟨c, T, e, Option.isNone_iff_eq_none.mp h⟩
  · cases h
/-- the def's object, by the table's look -/
theorem lmAt_of {G : Gw} {mg : Str → Option Value} {h base : Heap} {N : List Str} {m q qual : Str} {c T f : Addr} (X : G.K.In h) (Gm : h.Ns mainGlobals mg) (hG : G.T = [(T, q)]) (ht : PySem.W.tabIn G.K m = some (c, T)) (TB : TabB base mg c T) (hm : mg m = some (.ref f))
    (hq : ∀ x ∈ N, isLam x = true → x = q) (hl : qual ++ ".<locals>." ++ "<lambda>" = q) : LmAt G mg base N qual f := fun x hx e => by
  obtain rfl := hq x hx e
  unfold PySem.W.tabIn at ht
  split at ht
  · rename_i f' hf
    have e1 := PySem.W.mg_of X Gm hf
    rw [hm] at e1
    cases e1
    split at ht
    · rename_i hfo
      split at ht
      · rename_i c₂ hc
        split at ht
        · rename_i vs hcs
          split at ht
          · rename_i P hP
            cases ht
            exact ⟨_, _, _, _, _, _, by rw [hG]; exact .head _, fun p hp _ => by rw [hG] at hp; rw [List.mem_singleton.mp hp], hfo, hc, TB, hl⟩
          · cases ht
        · cases ht
      · cases ht
    · cases ht
  · cases ht
end DM
namespace DM
open PySem L2
section
set_option Elab.async false
open PySem L2
def ir_unit_told : Stms :=
  (.cons (.ite (.val (.blt .isi (.cons (.var 0) (.cons (.ty "str") .nil))))
    (.cons (.ret (.var 0))
    .nil)
    .nil)
  (.cons (.ret (.blt .tuple (.cons (.var 0) .nil)))
  .nil))
def ir_is_whole : Stms :=
  (.cons (.ret (.bool true (.cons (.blt .isi (.cons (.var 0) (.cons (.ty "int") .nil))) (.cons (.not_ (.blt .isi (.cons (.var 0) (.cons (.ty "bool") .nil)))) .nil))))
  .nil)
def ir_is_part : Stms :=
  (.cons (.ite (.bool false (.cons (.not_ (.val (.blt .isi (.cons (.var 0) (.cons (.ty "str") .nil))))) (.cons (.cmp .eq (.var 0) (.lit (.str ""))) (.cons (.cmp .gt (.blt .len (.cons (.var 0) .nil)) (.glb "MOST_LETTERS")) .nil))))
    (.cons (.ret (.lit (.bl false)))
    .nil)
    .nil)
  (.cons (.ret (.blt .all (.cons (.lc (.of (.var 0)) 1 (.yes) (.cmp .inn (.var 1) (.glb "LETTERS"))) .nil)))
  .nil))
def ir_are_parts : Stms :=
  (.cons (.ite (.bool false (.cons (.not_ (.val (.blt .isi (.cons (.var 0) (.cons (.tup (.cons (.ty "list") (.cons (.ty "tuple") .nil))) .nil))))) (.cons (.cmp .lt (.blt .len (.cons (.var 0) .nil)) (.var 1)) (.cons (.cmp .gt (.blt .len (.cons (.var 0) .nil)) (.glb "MOST_PARTS")) .nil))))
    (.cons (.ret (.lit (.bl false)))
    .nil)
    .nil)
  (.cons (.ret (.bool true (.cons (.blt .all (.cons (.lc (.of (.var 0)) 2 (.yes) (.call "is_part" 15 (.cons (.var 2) .nil))) .nil)) (.cons (.cmp .eq (.lenset (.var 0)) (.blt .len (.cons (.var 0) .nil))) .nil))))
  .nil))
def ir_letters_in : Stms :=
  (.cons (.asg (.name 1) (.lst .nil))
  (.cons (.for_ (.name 2) (.of (.var 0))
    (.cons (.for_ (.name 3) (.of (.var 2))
      (.cons (.ite (.cmp .nin (.var 3) (.var 1))
        (.cons (.drop (.mth .append (.var 1) (.cons (.var 3) .nil)))
        .nil)
        .nil)
      .nil))
    .nil))
  (.cons (.ret (.var 1))
  .nil)))
def ir_are_script : Stms :=
  (.cons (.asg (.name 3) (.call "letters_in" 17 (.cons (.bin .add (.blt .list (.cons (.var 0) .nil)) (.blt .list (.cons (.var 2) .nil))) .nil)))
  (.cons (.asg (.name 4) (.call "letters_in" 17 (.cons (.var 1) .nil)))
  (.cons (.ite (.val (.blt .any (.cons (.lc (.of (.var 3)) 5 (.yes) (.cmp .inn (.var 5) (.var 4))) .nil)))
    (.cons (.ret (.lit (.bl false)))
    .nil)
    .nil)
  (.cons (.ite (.bool false (.cons (.not_ (.val (.blt .all (.cons (.lc (.of (.var 3)) 5 (.yes) (.cmp .inn (.var 5) (.var 0))) .nil)))) (.cons (.not_ (.val (.blt .all (.cons (.lc (.of (.var 4)) 5 (.yes) (.cmp .inn (.var 5) (.var 1))) .nil)))) .nil)))
    (.cons (.ret (.lit (.bl false)))
    .nil)
    .nil)
  (.cons (.ret (.blt .all (.cons (.lc (.of (.var 2)) 6 (.yes) (.cmp .inn (.idx (.var 6) (.lit (.int 0))) (.var 2))) .nil)))
  .nil)))))
def ir_Script___init__ : Stms :=
  (.cons (.ite (.bool false (.cons (.not_ (.val (.call "are_parts" 16 (.cons (.var 1) (.cons (.lit (.int 1)) .nil))))) (.cons (.not_ (.val (.call "are_parts" 16 (.cons (.var 2) (.cons (.lit (.int 1)) .nil))))) (.cons (.not_ (.val (.call "are_parts" 16 (.cons (.var 3) (.cons (.lit (.int 0)) .nil))))) .nil))))
    (.cons (.raise "NoScript")
    .nil)
    .nil)
  (.cons (.ite (.bool false (.cons (.not_ (.val (.call "is_whole" 14 (.cons (.var 4) .nil)))) (.cons (.cmp .lt (.var 4) (.lit (.int 0))) (.cons (.not_ (.val (.call "are_script" 18 (.cons (.var 1) (.cons (.var 2) (.cons (.var 3) .nil)))))) .nil))))
    (.cons (.raise "NoScript")
    .nil)
    .nil)
  (.cons (.fld (.var 0) "first_parts" (.blt .list (.cons (.var 1) .nil)))
  (.cons (.fld (.var 0) "middle_parts" (.blt .list (.cons (.var 2) .nil)))
  (.cons (.fld (.var 0) "last_parts" (.blt .list (.cons (.var 3) .nil)))
  (.cons (.fld (.var 0) "least" (.var 4))
  .nil))))))
def ir_Script_firsts : Stms :=
  (.cons (.ret (.blt .list (.cons (.fld (.var 0) "first_parts") .nil)))
  .nil)
def ir_Script_middles : Stms :=
  (.cons (.ret (.blt .list (.cons (.fld (.var 0) "middle_parts") .nil)))
  .nil)
def ir_Script_lasts : Stms :=
  (.cons (.ret (.blt .list (.cons (.fld (.var 0) "last_parts") .nil)))
  .nil)
def ir_Script_is_first : Stms :=
  (.cons (.ret (.bool true (.cons (.blt .isi (.cons (.var 1) (.cons (.ty "str") .nil))) (.cons (.cmp .inn (.var 1) (.fld (.var 0) "first_parts")) .nil))))
  .nil)
def ir_Script_is_middle : Stms :=
  (.cons (.ret (.bool true (.cons (.blt .isi (.cons (.var 1) (.cons (.ty "str") .nil))) (.cons (.cmp .inn (.var 1) (.fld (.var 0) "middle_parts")) .nil))))
  .nil)
def ir_Script_is_last : Stms :=
  (.cons (.ret (.bool true (.cons (.blt .isi (.cons (.var 1) (.cons (.ty "str") .nil))) (.cons (.cmp .inn (.var 1) (.fld (.var 0) "last_parts")) .nil))))
  .nil)
def ir_Script_has_block : Stms :=
  (.cons (.ite (.bool false (.cons (.not_ (.val (.blt .isi (.cons (.var 1) (.cons (.tup (.cons (.ty "list") (.cons (.ty "tuple") .nil))) .nil))))) (.cons (.cmp .ne (.blt .len (.cons (.var 1) .nil)) (.lit (.int 3))) .nil)))
    (.cons (.ret (.lit (.bl false)))
    .nil)
    .nil)
  (.cons (.ite (.bool false (.cons (.not_ (.val (.meth "Script" "is_first" 26 (.var 0) (.cons (.idx (.var 1) (.lit (.int 0))) .nil)))) (.cons (.not_ (.val (.meth "Script" "is_middle" 27 (.var 0) (.cons (.idx (.var 1) (.lit (.int 1))) .nil)))) .nil)))
    (.cons (.ret (.lit (.bl false)))
    .nil)
    .nil)
  (.cons (.ret (.bool false (.cons (.cmp .eq (.idx (.var 1) (.lit (.int 2))) (.lit (.str ""))) (.cons (.meth "Script" "is_last" 28 (.var 0) (.cons (.idx (.var 1) (.lit (.int 2))) .nil)) .nil))))
  .nil)))
def ir_Script_ends : Stms :=
  (.cons (.ret (.bin .add (.lst (.cons (.lit (.str "")) .nil)) (.fld (.var 0) "last_parts")))
  .nil)
def ir_Script_number : Stms :=
  (.cons (.ite (.not_ (.val (.meth "Script" "has_block" 29 (.var 0) (.cons (.var 1) .nil))))
    (.cons (.raise "NoBlock")
    .nil)
    .nil)
  (.cons (.asg (.tup (.cons (.name 2) (.cons (.name 3) (.cons (.name 4) .nil)))) (.var 1))
  (.cons (.asg (.name 5) (.bin .add (.bin .mul (.mth .index (.fld (.var 0) "first_parts") (.cons (.var 2) .nil)) (.blt .len (.cons (.fld (.var 0) "middle_parts") .nil))) (.mth .index (.fld (.var 0) "middle_parts") (.cons (.var 3) .nil))))
  (.cons (.ret (.bin .add (.bin .add (.fld (.var 0) "least") (.bin .mul (.var 5) (.blt .len (.cons (.meth "Script" "ends" 30 (.var 0) .nil) .nil)))) (.mth .index (.meth "Script" "ends" 30 (.var 0) .nil) (.cons (.var 4) .nil))))
  .nil))))
def ir__law_cell_at_792e9224 : Stms :=
  (.cons (.ite (.cmp .lt (.var 1) (.blt .len (.cons (.var 0) .nil)))
    (.cons (.ret (.idx (.var 0) (.var 1)))
    .nil)
    .nil)
  (.cons (.ret (.lit (.int 0)))
  .nil))
def ir__law_pot_b4b7bbdf : Stms :=
  (.cons (.asg (.name 2) (.call "_law_cell_at" 34 (.cons (.var 0) (.cons (.var 1) .nil))))
  (.cons (.ret (.lst (.cons (.blt .max (.cons (.lit (.int 0)) (.cons (.bin .sub (.blt .abs (.cons (.var 2) .nil)) (.bin .pow (.lit (.int 10)) (.lit (.int 18)))) .nil))) (.cons (.bin .add (.bin .add (.bin .mod (.blt .abs (.cons (.var 2) .nil)) (.lit (.int 2147483629))) (.var 1)) (.lit (.int 1))) .nil))))
  .nil))
def ir__law_take_ce8d1c30 : Stms :=
  (.cons (.ite (.cmp .gt (.idx (.var 0) (.lit (.int 0))) (.lit (.int 0)))
    (.cons (.asg (.tup (.cons (.sub (.var 0) (.lit (.int 0))) (.cons (.name 2) .nil))) (.blt .divmod (.cons (.idx (.var 0) (.lit (.int 0))) (.cons (.var 1) .nil))))
    (.cons (.ret (.var 2))
    .nil))
    .nil)
  (.cons (.asg (.sub (.var 0) (.lit (.int 1))) (.bin .mod (.bin .add (.bin .mul (.idx (.var 0) (.lit (.int 1))) (.lit (.int 48271))) (.lit (.int 12345))) (.lit (.int 2147483647))))
  (.cons (.ret (.bin .mod (.bin .div (.idx (.var 0) (.lit (.int 1))) (.lit (.int 7))) (.var 1)))
  .nil)))
def ir__law_mixed_c3c42a6b : Stms :=
  (.cons (.asg (.name 2) (.lst .nil))
  (.cons (.for_ (.name 3) (.of (.var 1))
    (.cons (.drop (.mth .insert (.var 2) (.cons (.call "_law_take" 36 (.cons (.var 0) (.cons (.bin .add (.blt .len (.cons (.var 2) .nil)) (.lit (.int 1))) .nil))) (.cons (.var 3) .nil))))
    .nil))
  (.cons (.ret (.var 2))
  .nil)))
def ir__law_more_dcb3c2a0 : Stms :=
  (.cons (.asg (.name 4) (.blt .list (.cons (.var 1) .nil)))
  (.cons (.for_ (.name 5) (.rng (.cons (.call "_law_take" 36 (.cons (.var 0) (.cons (.lit (.int 9)) .nil))) .nil))
    (.cons (.ite (.cmp .ne (.var 2) (.lst .nil))
      (.cons (.asg (.name 6) (.bin .add (.idx (.var 2) (.call "_law_take" 36 (.cons (.var 0) (.cons (.blt .len (.cons (.var 2) .nil)) .nil)))) (.idx (.var 3) (.call "_law_take" 36 (.cons (.var 0) (.cons (.blt .len (.cons (.var 3) .nil)) .nil))))))
      (.cons (.ite (.cmp .nin (.var 6) (.var 4))
        (.cons (.drop (.mth .append (.var 4) (.cons (.var 6) .nil)))
        .nil)
        .nil)
      .nil))
      .nil)
    .nil))
  (.cons (.ret (.var 4))
  .nil)))
def ir__law_script_ca86632e : Stms :=
  (.cons (.asg (.name 1) (.call "_law_take" 36 (.cons (.var 0) (.cons (.lit (.int 26)) .nil))))
  (.cons (.asg (.name 2) (.idx (.tup (.cons (.lit (.int 1)) (.cons (.lit (.int 3)) (.cons (.lit (.int 5)) (.cons (.lit (.int 7)) (.cons (.lit (.int 9)) (.cons (.lit (.int 11)) (.cons (.lit (.int 15)) (.cons (.lit (.int 17)) (.cons (.lit (.int 19)) (.cons (.lit (.int 21)) (.cons (.lit (.int 23)) (.cons (.lit (.int 25)) .nil))))))))))))) (.call "_law_take" 36 (.cons (.var 0) (.cons (.lit (.int 12)) .nil)))))
  (.cons (.asg (.name 3) (.lc (.rng (.cons (.lit (.int 26)) .nil)) 4 (.yes) (.idx (.lit (.str "abcdefghijklmnopqrstuvwxyz")) (.bin .mod (.bin .add (.var 1) (.bin .mul (.var 4) (.var 2))) (.lit (.int 26))))))
  (.cons (.asg (.name 5) (.bin .add (.lit (.int 1)) (.call "_law_take" 36 (.cons (.var 0) (.cons (.idx (.tup (.cons (.lit (.int 3)) (.cons (.lit (.int 20)) .nil))) (.call "_law_take" 36 (.cons (.var 0) (.cons (.lit (.int 2)) .nil)))) .nil)))))
  (.cons (.asg (.name 6) (.slc (.var 3) .none (.some (.var 5))))
  (.cons (.asg (.name 7) (.slc (.var 3) (.some (.var 5)) (.some (.bin .add (.bin .add (.var 5) (.lit (.int 1))) (.call "_law_take" 36 (.cons (.var 0) (.cons (.idx (.tup (.cons (.lit (.int 2)) (.cons (.lit (.int 6)) .nil))) (.call "_law_take" 36 (.cons (.var 0) (.cons (.lit (.int 2)) .nil)))) .nil)))))))
  (.cons (.asg (.name 8) (.lc (.of (.var 6)) 9 (.cmp .gt (.call "_law_take" 36 (.cons (.var 0) (.cons (.lit (.int 3)) .nil))) (.lit (.int 0))) (.var 9)))
  (.cons (.asg (.name 10) (.call "_law_mixed" 37 (.cons (.var 0) (.cons (.call "_law_more" 38 (.cons (.var 0) (.cons (.var 6) (.cons (.var 6) (.cons (.var 6) .nil))))) .nil))))
  (.cons (.asg (.name 11) (.call "_law_mixed" 37 (.cons (.var 0) (.cons (.call "_law_more" 38 (.cons (.var 0) (.cons (.var 7) (.cons (.var 7) (.cons (.var 7) .nil))))) .nil))))
  (.cons (.asg (.name 12) (.call "_law_mixed" 37 (.cons (.var 0) (.cons (.call "_law_more" 38 (.cons (.var 0) (.cons (.var 8) (.cons (.var 8) (.cons (.var 6) .nil))))) .nil))))
  (.cons (.ret (.make "Script" 19 (.cons (.var 10) (.cons (.var 11) (.cons (.var 12) (.cons (.call "_law_take" 36 (.cons (.var 0) (.cons (.idx (.tup (.cons (.lit (.int 5)) (.cons (.bin .pow (.lit (.int 10)) (.lit (.int 59))) .nil))) (.call "_law_take" 36 (.cons (.var 0) (.cons (.lit (.int 2)) .nil)))) .nil))) .nil))))))
  .nil)))))))))))
def ir__law_unit_9f265eb2 : Stms :=
  (.cons (.asg (.name 2) (.call "_law_take" 36 (.cons (.var 0) (.cons (.lit (.int 4)) .nil))))
  (.cons (.asg (.name 3) (.idx (.meth "Script" "firsts" 20 (.var 1) .nil) (.call "_law_take" 36 (.cons (.var 0) (.cons (.blt .len (.cons (.meth "Script" "firsts" 20 (.var 1) .nil) .nil)) .nil)))))
  (.cons (.asg (.name 4) (.idx (.meth "Script" "middles" 21 (.var 1) .nil) (.call "_law_take" 36 (.cons (.var 0) (.cons (.blt .len (.cons (.meth "Script" "middles" 21 (.var 1) .nil) .nil)) .nil)))))
  (.cons (.asg (.name 5) (.bin .add (.lst (.cons (.lit (.str "")) .nil)) (.meth "Script" "lasts" 22 (.var 1) .nil)))
  (.cons (.ite (.cmp .eq (.var 2) (.lit (.int 0)))
    (.cons (.ret (.var 3))
    .nil)
    .nil)
  (.cons (.ite (.cmp .eq (.var 2) (.lit (.int 1)))
    (.cons (.ret (.var 4))
    .nil)
    .nil)
  (.cons (.ret (.tup (.cons (.var 3) (.cons (.var 4) (.cons (.idx (.var 5) (.call "_law_take" 36 (.cons (.var 0) (.cons (.blt .len (.cons (.var 5) .nil)) .nil)))) .nil)))))
  .nil)))))))
end
local macro_rules | `(tactic| walk_at "mem") => `(tactic| first | assumption | exact .head _ | exact List.mem_append_right _ (.head _) | (refine .tail _ ?_; walk_at "mem") | (refine List.mem_append_right _ (.tail _ ?_); walk_at "mem") | (refine List.mem_append_left _ ?_; walk_at "mem"))
local macro_rules | `(tactic| walk_at "isl") => `(tactic| first | assumption | with_reducible exact .lst _ | exact .own (by walk_at "mem"))
local macro_rules | `(tactic| walk_at "vw") => `(tactic| first | assumption | with_reducible exact .same _ | exact .own (by walk_at "mem"))
local macro_rules | `(tactic| walk_at "iss") => `(tactic| first | assumption | with_reducible exact .tup _ | with_reducible exact .frz _ | exact .lst (by walk_at "isl"))
local macro_rules | `(tactic| walk_at "isi_") => `(tactic| first | assumption | with_reducible exact .ins _ _ | exact .own (by walk_at "mem"))
local macro_rules | `(tactic| walk_at "sp") => `(tactic| first | assumption | with_reducible exact .app | with_reducible exact sp0 | with_reducible exact sp1 | with_reducible exact sp2 | with_reducible exact sp3 | with_reducible exact sp4 | with_reducible exact sp5 | with_reducible exact sp6 | with_reducible exact sp7 | with_reducible exact sp8)
local macro_rules | `(tactic| walk_at "ty") => `(tactic| first | assumption | exact .of rfl | exact .own (by walk_at "mem") | exact .dct (by walk_at "mem"))
local macro_rules | `(tactic| walk_at "pm") => `(tactic| with_reducible first | exact pm0 | exact pm1 | exact pm2 | exact pm3 | exact pm4 | exact pm5 | exact pm6 | exact pm7 | exact pm8)
local macro_rules | `(tactic| walk_at "pm2") => `(tactic| with_reducible first | exact pm0 | exact pm_0_1 | exact pm_1_0 | exact pm_0_2 | exact pm_1_2 | exact pm_2_0 | exact pm_2_1 | exact pm_0_3 | exact pm_1_3 | exact pm_2_3 | exact pm_3_0 | exact pm_3_1 | exact pm_3_2 | exact pm_0_4 | exact pm_1_4 | exact pm_2_4 | exact pm_3_4 | exact pm_4_0 | exact pm_4_1 | exact pm_4_2 | exact pm_4_3 | exact pm_0_5 | exact pm_1_5 | exact pm_2_5 | exact pm_3_5 | exact pm_4_5 | exact pm_5_0 | exact pm_5_1 | exact pm_5_2 | exact pm_5_3 | exact pm_5_4)
local macro_rules | `(tactic| walk_at "lk") => `(tactic| first | assumption | exact rfl)
local macro_rules | `(tactic| walk_at "pd") => `(tactic| first | assumption | exact rfl)
local macro_rules | `(tactic| walk_at "isi") => `(tactic| first | refine p_isiB (b := true) (by walk_at "ty") (by decide) (by decide) ?_ | refine p_isiB (b := false) (by walk_at "ty") (by decide) (by decide) ?_ | refine p_isi2B (b := true) (by walk_at "ty") (by decide) (by decide) (by decide) ?_ | refine p_isi2B (b := false) (by walk_at "ty") (by decide) (by decide) (by decide) ?_ | refine p_isi3B (b := true) (by walk_at "ty") (by decide) (by decide) (by decide) (by decide) ?_ | refine p_isi3B (b := false) (by walk_at "ty") (by decide) (by decide) (by decide) (by decide) ?_)
local macro_rules | `(tactic| walk_at "d") => `(tactic| first | (with_reducible first | (refine s_nil ?_; dsimp only) | (refine e_lit ?_; dsimp only [Lt.d]) | (refine a_nil ?_; try dsimp only [List.nil_append, List.cons_append, List.append_nil]) | (refine kV ?_; first | refine e_v0 ?_ | refine e_v1 ?_ | refine e_v2 ?_ | refine e_v3 ?_ | refine e_v4 ?_ | refine e_v5 ?_ | refine e_v6 ?_ | refine e_v7 ?_ | refine e_v8 ?_ | refine e_v9 ?_ | refine e_v10 ?_ | refine e_v11 ?_ | refine e_v12 ?_ | refine e_v13 ?_ | refine e_v14 ?_ | refine e_v15 ?_ | refine e_v16 ?_ | refine e_v17 ?_ | refine e_v18 ?_ | refine e_v19 ?_ | refine e_v20 ?_ | refine e_v21 ?_ | refine e_v22 ?_ | refine e_v23 ?_ | refine e_v24 ?_ | refine e_v25 ?_) | (refine kM ?_; first | refine e_meth0 (by assumption) (by decide) ?_ | refine e_meth1 (by assumption) (by decide) ?_ | refine e_meth2 (by assumption) (by decide) ?_ | refine e_meth3 (by assumption) (by decide) ?_ | refine e_meth4 (by assumption) (by decide) ?_ | refine e_meth5 (by assumption) (by decide) ?_) | (refine kE ?_; first | refine e_bin ?_ | refine e_cmp ?_ | refine e_call0 (by assumption) ?_ | refine e_call1 (by assumption) ?_ | refine e_call2 (by assumption) ?_ | refine e_call3 (by assumption) ?_ | refine e_call4 (by assumption) ?_ | refine e_call5 (by assumption) ?_ | refine e_call6 (by assumption) ?_ | refine e_call7 (by assumption) ?_ | refine e_blt ?_ | refine e_idx ?_ | refine e_fld ?_ | refine e_glb (by assumption) ?_ | refine e_tup ?_ | refine e_lst ?_ | refine e_mth ?_ | refine e_ty ?_ | refine e_not ?_ | refine e_bool1 ?_ | refine e_and ?_ | refine e_or ?_ | refine e_ite ?_ | refine e_slc ?_ | refine e_get ?_ | refine e_neg ?_ | refine e_lens ?_ | refine e_lc ?_ | refine e_make0 (by assumption) ?_ | refine e_make1 (by assumption) ?_ | refine e_make2 (by assumption) ?_ | refine e_make3 (by assumption) ?_ | refine e_make4 (by assumption) ?_ | refine e_make5 (by assumption) ?_ | refine e_make6 (by assumption) ?_ | refine e_make7 (by assumption) ?_) | (refine kN ?_; first | refine s_n0 ?_ | refine s_n1 ?_ | refine s_n2 ?_ | refine s_n3 ?_ | refine s_n4 ?_ | refine s_n5 ?_ | refine s_n6 ?_ | refine s_n7 ?_ | refine s_n8 ?_ | refine s_n9 ?_ | refine s_n10 ?_ | refine s_n11 ?_ | refine s_n12 ?_ | refine s_n13 ?_ | refine s_n14 ?_ | refine s_n15 ?_ | refine s_n16 ?_ | refine s_n17 ?_ | refine s_n18 ?_ | refine s_n19 ?_ | refine s_n20 ?_ | refine s_n21 ?_ | refine s_n22 ?_ | refine s_n23 ?_ | refine s_n24 ?_ | refine s_n25 ?_) | (refine kS ?_; first | refine s_if ?_ | refine s_ret ?_ | refine s_drop ?_ | refine s_asg ?_ | refine s_for ?_ | refine s_fld ?_ | refine s_pass ?_ | refine s_raise (by assumption) ?_) | (refine kA ?_; first | refine a_cons ?_) | (refine kT ?_; first | refine t_val ?_ | refine t_cmp ?_ | refine t_not ?_ | refine t_one ?_ | refine t_and ?_ | refine t_or ?_ | refine t_yes ?_) | (refine kG ?_; first | refine g_n0 ?_ | refine g_n1 ?_ | refine g_n2 ?_ | refine g_n3 ?_ | refine g_n4 ?_ | refine g_n5 ?_ | refine g_n6 ?_ | refine g_n7 ?_ | refine g_n8 ?_ | refine g_n9 ?_ | refine g_n10 ?_ | refine g_n11 ?_ | refine g_n12 ?_ | refine g_n13 ?_ | refine g_n14 ?_ | refine g_n15 ?_ | refine g_n16 ?_ | refine g_n17 ?_ | refine g_n18 ?_ | refine g_n19 ?_ | refine g_n20 ?_ | refine g_n21 ?_ | refine g_n22 ?_ | refine g_n23 ?_ | refine g_n24 ?_ | refine g_n25 ?_ | refine g_sub ?_ | refine g_tup ?_) | (refine kGs ?_; first | refine gs_cons ?_ | refine gs_nil ?_) | (refine kI ?_; first | refine i_of_ ?_ | refine i_rng_ ?_) | (refine kO ?_; first | refine o_none ?_ | refine o_some ?_) | (refine kBo ?_; first | refine p_add ?_ | refine p_sub ?_) | (refine kCo ?_; first | refine p_lt ?_ | refine p_le ?_ | refine p_gt ?_ | refine p_ge ?_ | refine p_eqi ?_ | refine p_nei ?_ | refine p_is ?_ | refine p_isnt ?_) | refine p_neg ?_ | refine m_ex ?_ | refine m_ref ?_ | refine c_t ?_ | refine c_f ?_ | refine c_nt ?_ | refine c_nf ?_) | ((with_reducible refine kBf ?_); first | (with_reducible first | refine p_lens ?_ | refine p_max ?_ | refine p_min ?_ | refine p_abs ?_ | refine p_tup ?_) | walk_at "isi" | (refine p_len (by walk_at "iss") ?_; try simp only [List.length_map])) | ((with_reducible refine k_isi ?_); refine' m_isi (by walk_at "isi_") (by walk_at "lk") ?_) | ((with_reducible refine k_fld ?_); refine' m_fld (by walk_at "isi_") (by assumption) (by walk_at "lk") ?_) | ((with_reducible refine k_set ?_); refine' m_set (by walk_at "sp") (by assumption) (by walk_at "pd") rfl ?_; try dsimp only [List.nil_append, List.cons_append]) | ((with_reducible refine k_sz ?_); refine m_sz rfl ?_) | ((with_reducible refine k_tym ?_); refine m_tym (by walk_at "tym") ?_))
local macro_rules | `(tactic| walk_at "dd") => `(tactic| repeat (walk_at "d"))
local macro_rules | `(tactic| walk_at "go") => `(tactic| (simp only [start_0, start_1, start_2, start_3, start_4, start_5, start_6, start_7, start_8, List.replicate_succ, List.replicate_zero, Nat.reduceSub, Nat.reduceAdd, Nat.zero_add]; walk_at "dd"))
section
set_option Elab.async false
set_option linter.all false
set_option maxRecDepth 100000
open PySem L2
local macro_rules | `(tactic| walk_at "tym") => `(tactic| first | assumption | with_reducible exact .str _ | exact .lst (by walk_at "isl"))
theorem ty_cases {L : HL} {d : D} {T : String} (h : TyD L d T) : T = "NoneType" ∨ T = "bool" ∨ T = "int" ∨ T = "str" ∨ T = "tuple" ∨ T = "list" ∨ T = "dict" := by
  have := tyD_in h
  simpa only [tyNames, List.mem_cons, List.not_mem_nil, or_false] using this
theorem ixN_nat {n j : Nat} (h : j < n) : ixN n (j : Int) = some j := by
  unfold ixN
  rw [if_pos (by omega), if_pos (by omega)]
  rfl
theorem atI_nat {α : Type} {xs : List α} {j : Nat} {x : α} (h : xs[j]? = some x) : atI xs (j : Int) = some x := by
  unfold atI
  rw [ixN_nat (List.getElem?_eq_some_iff.mp h).1]
  exact h
theorem p_ix {L : HL} {Q : Qd} {x d : D} {ds : List D} {i : Int} {j : Nat} (h : IsS L x ds) (hi : i = (j : Int)) (hx : ds[j]? = some d) (q : Q d L) : oIx x (.int i) L Q := by
  subst hi
  exact .seq h (atI_nat hx) q
def Pot (a b : Int) : Prop := 0 ≤ a ∧ 0 ≤ b ∧ b < 2 ^ 33
def pot (p : Addr) (a b : Int) : Addr × Ch := (p, .lst [.int a, .int b])
def sp_cell : DSp := fun ds L Q E => ∃ ns k, ds = [.frz ns, .int k] ∧ 0 ≤ k ∧ ∀ v, Q (.int v) L
theorem vc_cell {C : Ct} : VC 2 2 sp_cell (wpSs C ir__law_cell_at_792e9224) := by
  rintro ds L Q E hl uq ue ⟨ns, k, rfl, hk, q⟩
  unfold ir__law_cell_at_792e9224
  walk_at "go"
  refine c_b (fun h => ?_) (fun h => ?_) <;> walk_at "dd"
  · have h := of_decide_eq_true h
    refine p_ix (j := k.toNat) (.frz _) (by omega) (d := .int (ns[k.toNat]'(by omega))) ?_ (q _)
    rw [List.getElem?_map, List.getElem?_eq_getElem (by omega)]
    rfl
  · exact q 0
theorem l2 {n : Int} (h : n.natAbs < 2 ^ 200) : n.natAbs.log2 < 9000 := by
  by_cases h0 : n.natAbs = 0
  · rw [h0]; decide
  · have := (Nat.log2_lt h0).mpr h
    omega
def sp_take : DSp := fun ds L Q E => ∃ p a b n F, ds = [.ref p, .int n] ∧ L = pot p a b :: F ∧ Pot a b ∧ 0 < n ∧ n.natAbs < 2 ^ 200 ∧ ∀ r a' b', 0 ≤ r → r < n → Pot a' b' → Q (.int r) (pot p a' b' :: F)
theorem vc_take {C : Ct} : VC 3 2 sp_take (wpSs C ir__law_take_ce8d1c30) := by
  rintro ds L Q E hl uq ue ⟨p, a, b, n, F, rfl, rfl, ⟨ha, hb, hb2⟩, hn, hn2, q⟩
  unfold ir__law_take_ce8d1c30
  walk_at "go"
  refine p_ix (j := 0) (.lst (.own (.head _))) rfl rfl ?_
  walk_at "dd"
  refine c_b (fun h => ?_) (fun h => ?_) <;> walk_at "dd"
  · refine p_ix (j := 0) (.lst (.own (.head _))) rfl rfl ?_
    walk_at "dd"
    refine p_divmod hn (l2 hn2) ?_
    walk_at "dd"
    refine .tup rfl ?_
    walk_at "dd"
    refine .lst .here rfl ?_
    walk_at "dd"
    exact q _ _ _ (Int.emod_nonneg _ (by omega)) (Int.emod_lt_of_pos _ hn) ⟨Int.ediv_nonneg ha (by omega), hb, hb2⟩
  · refine p_ix (j := 1) (.lst (.own (.head _))) rfl rfl ?_
    walk_at "dd"
    refine p_mul ?_ ?_
    · have : b.natAbs.log2 < 34 := by
        by_cases h0 : b.natAbs = 0
        · rw [h0]; decide
        · exact (Nat.log2_lt h0).mpr (by omega)
      have : (48271 : Int).natAbs.log2 = 15 := by decide
      omega
    walk_at "dd"
    refine p_mod (by decide) ?_
    walk_at "dd"
    refine .lst .here rfl ?_
    walk_at "dd"
    refine p_ix (j := 1) (.lst (.own (.head _))) rfl rfl ?_
    walk_at "dd"
    refine p_div (by decide) (by decide) ?_
    walk_at "dd"
    refine p_mod hn ?_
    have h1 := Int.emod_nonneg (b * 48271 + 12345) (b := 2147483647) (by decide)
    have h2 := Int.emod_lt_of_pos (b * 48271 + 12345) (b := 2147483647) (by decide)
    exact q _ _ _ (Int.emod_nonneg _ (by omega)) (Int.emod_lt_of_pos _ hn) ⟨ha, h1, by omega⟩
def sp_pot : DSp := fun ds L Q E => ∃ ns k, ds = [.frz ns, .int k] ∧ 0 ≤ k ∧ k < 2 ^ 31 ∧ ∀ p a b, Pot a b → Q (.ref p) (pot p a b :: L)
theorem vc_pot {C : Ct} (hc : C.fn 34 2 = some (2, permS sp_cell, [])) : VC 3 2 sp_pot (wpSs C ir__law_pot_b4b7bbdf) := by
  rintro ds L Q E hl uq ue ⟨ns, k, rfl, hk, hk2, q⟩
  unfold ir__law_pot_b4b7bbdf
  walk_at "go"
  refine ⟨rfl, L, .refl _, ns, k, rfl, hk, fun v => cl ?_⟩
  walk_at "dd"
  refine p_pow (by decide) ?_
  walk_at "dd"
  refine p_mod (by decide) ?_
  walk_at "dd"
  refine .inr fun p => q p _ _ ?_
  have h1 := Int.emod_nonneg (v.natAbs : Int) (b := 2147483629) (by decide)
  have h2 := Int.emod_lt_of_pos (v.natAbs : Int) (b := 2147483629) (by decide)
  exact ⟨Int.le_max_left _ _, by omega, by omega⟩
theorem perm_ins {α : Type} {x : α} {xs ys : List α} (i : Nat) (h : ys.Perm xs) : (ys.take i ++ [x] ++ ys.drop i).Perm (xs ++ [x]) := by
  rw [List.append_assoc]
  refine (List.perm_append_comm_assoc _ _ _).trans ?_
  rw [List.take_append_drop]
  exact List.perm_append_comm.trans (h.append_right _)
theorem take_next {α : Type} {xs : List α} {i : Nat} {d : α} (h : xs[i]? = some d) : xs.take (i + 1) = xs.take i ++ [d] := by
  rw [List.take_succ, h]
  rfl
theorem lt_of_get {α : Type} {xs : List α} {i : Nat} {d : α} (h : xs[i]? = some d) : i < xs.length := (List.getElem?_eq_some_iff.mp h).1
def sp_mixed : DSp := fun ds L Q E => ∃ p a b xs F, ds = [.ref p, .lst xs] ∧ L = pot p a b :: F ∧ Pot a b ∧ xs.length ≤ 2000 ∧ ∀ ys a' b', ys.Perm xs → Pot a' b' → Q (.lst ys) (pot p a' b' :: F)
theorem vc_mixed {C : Ct} (hc : C.fn 36 2 = some (2, permS sp_take, [])) : VC 4 2 sp_mixed (wpSs C ir__law_mixed_c3c42a6b) := by
  rintro ds L Q E hl uq ue ⟨p, a, b, xs, F, rfl, rfl, hp, hx, q⟩
  unfold ir__law_mixed_c3c42a6b
  walk_at "go"
  refine .inr fun f => ?_
  walk_at "dd"
  refine .frz_lst ⟨fun i σ L => ∃ a b ys d, σ = [some (.ref p), some (.lst xs), some (.ref f), d] ∧ L = (f, .lst ys) :: pot p a b :: F ∧ Pot a b ∧ ys.Perm (xs.take i), ⟨a, b, [], none, rfl, rfl, hp, .nil⟩, ?_⟩
  rintro i σ L ⟨a, b, ys, d, rfl, rfl, hp, hy⟩
  refine ⟨trivial, fun hi => ?_, fun d hd => ?_⟩
  · walk_at "dd"
    refine uq _ _ _ _ .lst (q _ _ _ ?_ hp)
    rwa [hi, List.take_length] at hy
  · have hlt := lt_of_get hd
    have hyl := hy.length_eq
    rw [List.length_take] at hyl
    walk_at "dd"
    refine ⟨rfl, _, by walk_at "pm", p, a, b, _, _, rfl, rfl, hp, by omega, by omega, fun r a b r0 r1 hp => cl ?_⟩
    walk_at "dd"
    obtain ⟨r, rfl⟩ := Int.eq_ofNat_of_zero_le r0
    refine .mk (by walk_at "sp") (by show _ < 16777216; dsimp only at hlt; omega) (by omega) ?_
    walk_at "dd"
    exact ⟨_, .perm (.swap _ _ _), a, b, _, _, rfl, rfl, hp, take_next hd ▸ perm_ins r hy⟩
end
section
set_option Elab.async false
set_option linter.all false
set_option maxRecDepth 100000
open PySem L2
local macro_rules | `(tactic| walk_at "tym") => `(tactic| first | assumption | with_reducible exact .str _ | exact .lst (by walk_at "isl"))
section
variable {C : Ct} {σ : Sl} {L : HL} {Q : Qd} {E : Xd}
theorem lc_map {q : Sq} {j : Nat} {te : Ex} (ys : List D) (hl : ∀ p acc, q.live ((p, .lst acc) :: L)) (hn : ys.length = q.items.length)
    (h : ∀ (p : Addr) (acc : List D) (i : Nat) (d y : D) (K : Qd), q.items[i]? = some d → ys[i]? = some y → K y ((p, Ch.lst acc) :: L) → wpE C te ((wipeD σ [j]).set j (some d)) ((p, .lst acc) :: L) K X0) (r : RetL ys L Q) :
    ∃ W : Nat → List D → HL → Prop, W 0 [] L ∧ LI q j (wpT C .yes) (wpE C te) [j] σ (fun acc L2 => RetL acc L2 Q) W := by
  refine ⟨fun i acc L2 => acc = ys.take i ∧ L2 = L, ⟨rfl, rfl⟩, fun p i acc L2 hw => ?_⟩
  obtain ⟨rfl, rfl⟩ := hw
  refine ⟨hl _ _, fun hi => ?_, fun d hd => ?_⟩
  · rw [hi, ← hn, List.take_length]
    exact r
  · have hlt := lt_of_get hd
    have hy : ys[i]? = some (ys[i]'(by omega)) := List.getElem?_eq_getElem _
    exact h p _ i d _ _ hd hy ⟨L2, .refl _, (take_next hy).symm, rfl⟩
end
theorem p_allf {α : Type} {x : D} {xs : List α} {f : α → Bool} {L : HL} {Q : Qd} (h : IsL L x (xs.map fun z => .bl (f z))) (q : Q (.bl (xs.all f)) L) : wpBf .all [x] L Q := p_all (bs := xs.map f) (by rw [List.map_map]; exact h) (by rw [List.all_map]; exact q)
theorem p_anyf {α : Type} {x : D} {xs : List α} {f : α → Bool} {L : HL} {Q : Qd} (h : IsL L x (xs.map fun z => .bl (f z))) (q : Q (.bl (xs.any f)) L) : wpBf .any [x] L Q := p_any (bs := xs.map f) (by rw [List.map_map]; exact h) (by rw [List.any_map]; exact q)
theorem get_map {α β : Type} {xs : List α} {f : α → β} {i : Nat} {d : β} (h : (xs.map f)[i]? = some d) : ∃ x, xs[i]? = some x ∧ d = f x := by
  rw [List.getElem?_map] at h
  cases e : xs[i]? with
  | none => rw [e] at h; cases h
  | some x => rw [e] at h; exact ⟨x, rfl, (Option.some.inj h).symm⟩
def one (c : Nat) : Str := ⟨#[c]⟩
def chs (z : Str) : List Str := z.cps.toList.map one
theorem signs_eq {z : Str} : signs z = (chs z).map D.str := by
  unfold signs chs
  rw [List.map_map]
  rfl
theorem p_inc {L : HL} {Q : Qd} {c : Nat} {t : Str} (q : Q (.bl (decide (c ∈ t.cps.toList))) L) : wpCo .inn (.str (one c)) (.str t) L Q := by
  refine .str ?_
  show Q (.bl (!(Builtin.Str.occurrences t ⟨#[c]⟩ 0 t.length 1).isEmpty)) L
  rw [PySem.StrLaws.found_one]
  exact q
def letters : Str := "abcdefghijklmnopqrstuvwxyz"
theorem mem_letters {c : Nat} : c ∈ letters.cps.toList ↔ 97 ≤ c ∧ c ≤ 122 := by
  have : letters.cps.toList = List.range' 97 26 := by decide +kernel
  rw [this, List.mem_range'_1]
  omega
def Pt (x : Str) : Prop := x.cps.toList ≠ [] ∧ x.cps.toList.length ≤ 2 ∧ ∀ c ∈ x.cps.toList, 97 ≤ c ∧ c ≤ 122
theorem Pt.ok {x : Str} (h : Pt x) : PyData.strOk x = true := by
  unfold PyData.strOk
  rw [← Array.all_toList, List.all_eq_true]
  intro c m
  have := h.2.2 c m
  exact decide_eq_true (by omega)
theorem Pt.len {x : Str} (h : Pt x) : x.length ≤ 2 := h.2.1
theorem Pt.ne {x : Str} (h : Pt x) : x ≠ "" := fun e => h.1 (by rw [e]; rfl)
theorem strs_ok {xs : List Str} (h : ∀ x ∈ xs, PyData.strOk x = true) (n : Nat) : ∀ z ∈ xs.map D.str, okq n z = true := fun z m => by
  obtain ⟨x, hx, rfl⟩ := List.mem_map.mp m
  unfold okq
  exact h x hx
def sp_is_part : DSp := fun ds L Q E => ∃ x, ds = [.str x] ∧ Pt x ∧ Q (.bl true) L
theorem vc_is_part {C : Ct} (h1 : C.con "MOST_LETTERS" = some (.int 2)) (h2 : C.con "LETTERS" = some (.str letters)) : VC 2 1 sp_is_part (wpSs C ir_is_part) := by
  rintro ds L Q E hl uq ue ⟨x, rfl, hp, q⟩
  unfold ir_is_part
  walk_at "go"
  refine p_eqs hp.ok (by decide +kernel) ?_
  rw [decide_eq_false hp.ne]
  walk_at "dd"
  have := hp.len
  rw [decide_eq_false (by omega)]
  walk_at "dd"
  refine .str (lc_map ((chs x).map fun _ => .bl true) (fun _ _ => trivial) (by rw [signs_eq, List.length_map, List.length_map]) (fun p acc i d y K hd hy k => ?_) (.inl ?_))
  · obtain ⟨c, hc, rfl⟩ := get_map hd
    obtain ⟨c', hc', rfl⟩ := get_map hy
    simp only [wipeD, List.set]
    walk_at "dd"
    refine p_inc (c := c) ?_
    rw [decide_eq_true (mem_letters.mpr (hp.2.2 c (List.mem_of_getElem? hc)))]
    exact k
  · walk_at "dd"
    refine p_allf (.lst _) ?_
    rw [List.all_eq_true.mpr fun _ _ => rfl]
    exact q
theorem mem_strs {x : Str} {xs : List Str} : D.str x ∈ xs.map D.str ↔ x ∈ xs := by
  constructor
  · intro h
    obtain ⟨y, hy, e⟩ := List.mem_map.mp h
    cases e
    exact hy
  · exact fun h => List.mem_map.mpr ⟨x, h, rfl⟩
def sp_are_parts : DSp := fun ds L Q E => ∃ (xs : List Str) (n : Int), ds = [.lst (xs.map D.str), .int n] ∧ (∀ x ∈ xs, Pt x) ∧ xs.Nodup ∧ xs.length ≤ 40 ∧ n ≤ xs.length ∧ Q (.bl true) L
theorem vc_are_parts {C : Ct} (h1 : C.con "MOST_PARTS" = some (.int 40)) (h2 : C.fn 15 1 = some (1, permS sp_is_part, [])) : VC 3 2 sp_are_parts (wpSs C ir_are_parts) := by
  rintro ds L Q E hl uq ue ⟨xs, n, rfl, hp, nd, h40, hn, q⟩
  unfold ir_are_parts
  walk_at "go"
  rw [decide_eq_false (by omega)]
  walk_at "dd"
  rw [decide_eq_false (by omega)]
  walk_at "dd"
  refine .frz_lst (lc_map (xs.map fun _ => .bl true) (fun _ _ => trivial) (by rw [List.length_map, List.length_map]) (fun p acc i d y K hd hy k => ?_) (.inl ?_))
  · obtain ⟨c, hc, rfl⟩ := get_map hd
    obtain ⟨c', hc', rfl⟩ := get_map hy
    simp only [wipeD, List.set]
    walk_at "dd"
    exact ⟨rfl, _, .refl _, c, rfl, hp c (List.mem_of_getElem? hc), cl k⟩
  · walk_at "dd"
    refine p_allf (.lst _) ?_
    rw [List.all_eq_true.mpr fun _ _ => rfl]
    walk_at "dd"
    refine ⟨xs, .lst (.lst _), by omega, ?_⟩
    walk_at "dd"
    rw [(dcount_nodup xs).mpr nd, decide_eq_true rfl]
    exact q
def add1 (acc : List Str) (z : Str) : List Str := if z ∈ acc then acc else acc ++ [z]
def lin (xs : List Str) : List Str := (xs.flatMap chs).foldl add1 []
theorem add1_new {z : Str} {acc : List Str} (h : z ∉ acc) : add1 acc z = acc ++ [z] := if_neg h
theorem add1_old {z : Str} {acc : List Str} (h : z ∈ acc) : add1 acc z = acc := if_pos h
theorem add_mem {z y : Str} {acc : List Str} : z ∈ add1 acc y ↔ z ∈ acc ∨ z = y := by
  unfold add1
  by_cases h : y ∈ acc
  · rw [if_pos h]
    exact ⟨.inl, fun q => q.elim id fun e => e ▸ h⟩
  · rw [if_neg h, List.mem_append, List.mem_singleton]
theorem adds_mem {z : Str} : ∀ {ys acc : List Str}, z ∈ ys.foldl add1 acc ↔ z ∈ acc ∨ z ∈ ys
  | [], acc => by simp
  | y :: ys, acc => by rw [List.foldl_cons, adds_mem, add_mem, List.mem_cons, or_assoc]
theorem add_len {y : Str} {acc : List Str} : (add1 acc y).length ≤ acc.length + 1 := by
  unfold add1
  split
  · omega
  · rw [List.length_append]
    exact Nat.le_refl _
theorem adds_len : ∀ {ys acc : List Str}, (ys.foldl add1 acc).length ≤ acc.length + ys.length
  | [], _ => Nat.le_refl _
  | y :: ys, acc => by
    have h1 := adds_len (ys := ys) (acc := add1 acc y)
    have h2 := add_len (y := y) (acc := acc)
    rw [List.foldl_cons, List.length_cons]
    omega
theorem mem_lin {z : Str} {xs : List Str} : z ∈ lin xs ↔ ∃ x ∈ xs, z ∈ chs x := by
  unfold lin
  rw [adds_mem, List.mem_flatMap]
  simp
theorem mem_chs {x z : Str} (h : z ∈ chs x) : ∃ c ∈ x.cps.toList, z = one c := by
  obtain ⟨c, hc, e⟩ := List.mem_map.mp h
  exact ⟨c, hc, e.symm⟩
theorem ok_chs {x z : Str} (hx : PyData.strOk x = true) (h : z ∈ chs x) : PyData.strOk z = true := by
  obtain ⟨c, hc, rfl⟩ := mem_chs h
  unfold PyData.strOk at hx ⊢
  rw [← Array.all_toList, List.all_eq_true] at hx
  rw [← Array.all_toList, List.all_eq_true]
  intro d hd
  rw [show (one c).cps.toList = [c] from rfl, List.mem_singleton] at hd
  rw [hd]
  exact hx c hc
theorem len_chs {x : Str} : (chs x).length = x.length := by
  unfold chs
  rw [List.length_map]
  rfl
theorem flat_len {xs : List Str} (h : ∀ x ∈ xs, x.length ≤ 2) : (xs.flatMap chs).length ≤ 2 * xs.length := by
  induction xs with
  | nil => exact Nat.zero_le _
  | cons a xs ih =>
    have h1 := h a (.head _)
    have h2 := ih fun x m => h x (.tail _ m)
    rw [List.flatMap_cons, List.length_append, len_chs, List.length_cons]
    omega
def sp_letters_in : DSp := fun ds L Q E => ∃ xs : List Str, ds = [.lst (xs.map D.str)] ∧ (∀ x ∈ xs, PyData.strOk x = true ∧ x.length ≤ 2) ∧ xs.length ≤ 500 ∧ Q (.lst ((lin xs).map D.str)) L
theorem vc_letters_in {C : Ct} : VC 4 1 sp_letters_in (wpSs C ir_letters_in) := by
  rintro ds L Q E hl uq ue ⟨xs, rfl, hx, hxl, q⟩
  unfold ir_letters_in
  walk_at "go"
  refine .inr fun f => ?_
  walk_at "dd"
  refine .frz_lst ⟨fun i σ L1 => ∃ d e, σ = [some (.lst (xs.map D.str)), some (.ref f), d, e] ∧ L1 = (f, .lst ((lin (xs.take i)).map D.str)) :: L, ⟨none, none, rfl, rfl⟩, ?_⟩
  rintro i σ L1 ⟨d, e, rfl, rfl⟩
  refine ⟨trivial, fun hi => ?_, fun d hd => ?_⟩
  · walk_at "dd"
    refine uq _ _ _ _ .lst ?_
    rw [hi, List.length_map, List.take_length]
    exact q
  · obtain ⟨x, hx1, rfl⟩ := get_map hd
    have hm := List.mem_of_getElem? hx1
    have hlt := lt_of_get hx1
    obtain ⟨ok, hx2⟩ := hx x hm
    walk_at "dd"
    refine .str ⟨fun j σ L1 => ∃ e, σ = [some (.lst (xs.map D.str)), some (.ref f), some (.str x), e] ∧ L1 = (f, .lst ((((chs x).take j).foldl add1 (lin (xs.take i))).map D.str)) :: L, ⟨e, rfl, rfl⟩, ?_⟩
    rintro j σ L1 ⟨e, rfl, rfl⟩
    refine ⟨trivial, fun hj => ?_, fun d hd2 => ?_⟩
    · walk_at "dd"
      refine ⟨_, .refl _, some (.str x), e, rfl, ?_⟩
      rw [hj, signs_eq, List.length_map, List.take_length, take_next hx1]
      unfold lin
      rw [List.flatMap_append, List.foldl_append, List.flatMap_singleton]
    · rw [signs_eq] at hd2
      obtain ⟨z, hz, rfl⟩ := get_map hd2
      have hzm := List.mem_of_getElem? hz
      walk_at "dd"
      have hb : ∀ y ∈ ((chs x).take j).foldl add1 (lin (xs.take i)), PyData.strOk y = true := fun y hy => by
        rcases adds_mem.mp hy with hy | hy
        · obtain ⟨x', m', h'⟩ := mem_lin.mp hy
          exact ok_chs (hx x' (List.mem_of_mem_take m')).1 h'
        · exact ok_chs ok (List.mem_of_mem_take hy)
      refine p_nin (.own (.head _)) (by unfold okq; exact ok_chs ok hzm) (strs_ok hb 7) fun b hbb => ?_
      rw [mem_strs] at hbb
      walk_at "dd"
      refine c_b (fun h => ?_) (fun h => ?_) <;> walk_at "dd"
      · refine .mk .here ?_ ?_
        · rw [List.length_map]
          have h1 := adds_len (ys := (chs x).take j) (acc := lin (xs.take i))
          have h2 := adds_len (ys := (xs.take i).flatMap chs) (acc := [])
          have h3 := flat_len (xs := xs.take i) fun y m => (hx y (List.mem_of_mem_take m)).2
          have h4 : (chs x).length = x.length := len_chs
          rw [List.length_take] at h1 h3
          show _ < 16777216
          unfold lin at h1 ⊢
          simp only [List.length_nil] at h2
          omega
        walk_at "dd"
        refine ⟨_, .refl _, some (.str z), rfl, ?_⟩
        rw [take_next hz, List.foldl_append]
        rw [List.foldl_cons, List.foldl_nil, add1_new (hbb.mp h), List.map_append]
        rfl
      · refine ⟨_, .refl _, some (.str z), rfl, ?_⟩
        rw [take_next hz, List.foldl_append]
        rw [List.foldl_cons, List.foldl_nil, add1_old (Decidable.of_not_not fun n => by rw [hbb.mpr n] at h; cases h)]
end
section
set_option Elab.async false
set_option linter.all false
set_option maxRecDepth 100000
open PySem L2
local macro_rules | `(tactic| walk_at "tym") => `(tactic| first | assumption | with_reducible exact .str _ | exact .lst (by walk_at "isl"))
structure Scr where
  f : List Str
  m : List Str
  l : List Str
  b : Int
abbrev sts (xs : List Str) : D := .lst (xs.map D.str)
def Scr.fs (s : Scr) : List (Str × D) := [("first_parts", .lst (s.f.map D.str)), ("middle_parts", .lst (s.m.map D.str)), ("last_parts", .lst (s.l.map D.str)), ("least", .int s.b)]
abbrev Scr.d (s : Scr) : D := .ins "Script" s.fs
structure Scr.Ok (s : Scr) : Prop where
  pf : ∀ x ∈ s.f, Pt x
  pm : ∀ x ∈ s.m, Pt x
  pl : ∀ x ∈ s.l, Pt x
  nf : s.f.Nodup
  nm : s.m.Nodup
  nl : s.l.Nodup
  f1 : 1 ≤ s.f.length
  m1 : 1 ≤ s.m.length
  f40 : s.f.length ≤ 40
  m40 : s.m.length ≤ 40
  l40 : s.l.length ≤ 40
  b0 : 0 ≤ s.b
  dis : ∀ z ∈ lin (s.f ++ s.l), z ∉ lin s.m
  cf : ∀ z ∈ lin (s.f ++ s.l), z ∈ s.f
  vm : ∀ z ∈ lin s.m, z ∈ s.m
  ll : ∀ x ∈ s.l, ∃ c r, x.cps.toList = c :: r ∧ one c ∈ s.l
theorem Scr.Ok.kf {s : Scr} (h : s.Ok) : ∀ x ∈ s.f, PyData.strOk x = true := fun x m => (h.pf x m).ok
theorem Scr.Ok.km {s : Scr} (h : s.Ok) : ∀ x ∈ s.m, PyData.strOk x = true := fun x m => (h.pm x m).ok
theorem Scr.Ok.kl {s : Scr} (h : s.Ok) : ∀ x ∈ s.l, PyData.strOk x = true := fun x m => (h.pl x m).ok
theorem lin_ok {xs : List Str} (h : ∀ x ∈ xs, PyData.strOk x = true) : ∀ z ∈ lin xs, PyData.strOk z = true := fun z m => by
  obtain ⟨x, hx, hz⟩ := mem_lin.mp m
  exact ok_chs (h x hx) hz
theorem okq_str {x : Str} {n : Nat} (h : PyData.strOk x = true) : okq n (.str x) = true := by
  unfold okq
  exact h
def sp_are_script : DSp := fun ds L Q E => ∃ s : Scr, ds = [sts s.f, sts s.m, sts s.l] ∧ s.Ok ∧ Q (.bl true) L
theorem vc_are_script {C : Ct} (h1 : C.fn 17 1 = some (1, permS sp_letters_in, [])) : VC 7 3 sp_are_script (wpSs C ir_are_script) := by
  rintro ds L Q E hl uq ue ⟨s, rfl, ok, q⟩
  unfold ir_are_script sts
  have := ok.f40
  have := ok.l40
  have := ok.m40
  have kfl : ∀ x ∈ s.f ++ s.l, PyData.strOk x = true := fun x m => (List.mem_append.mp m).elim (ok.kf x) (ok.kl x)
  walk_at "go"
  refine p_list (.lst (.lst _)) ?_
  walk_at "dd"
  refine p_list (.lst (.lst _)) ?_
  walk_at "dd"
  refine p_ladd (.lst _) (.lst _) (szl2 (by simp only [List.length_map]; omega)) ?_
  walk_at "dd"
  refine ⟨rfl, _, .refl _, s.f ++ s.l, by rw [List.map_append], fun x m => ?_, by rw [List.length_append]; omega, cl ?_⟩
  · exact ⟨kfl x m, (List.mem_append.mp m).elim (fun m => (ok.pf x m).len) fun m => (ok.pl x m).len⟩
  walk_at "dd"
  refine ⟨rfl, _, .refl _, s.m, rfl, fun x m => ⟨ok.km x m, (ok.pm x m).len⟩, by omega, cl ?_⟩
  walk_at "dd"
  refine .frz_lst (lc_map ((lin (s.f ++ s.l)).map fun _ => .bl false) (fun _ _ => trivial) (by rw [List.length_map, List.length_map]) (fun p acc i d y K hd hy k => ?_) (.inl ?_))
  · obtain ⟨z, hz, rfl⟩ := get_map hd
    obtain ⟨_, _, rfl⟩ := get_map hy
    have hz := List.mem_of_getElem? hz
    simp only [wipeD, List.set]
    walk_at "dd"
    refine p_in (.same _) (okq_str (lin_ok kfl z hz)) (strs_ok (lin_ok ok.km) 7) fun b hb => ?_
    rw [mem_strs] at hb
    cases b
    · exact k
    · exact (ok.dis z hz (hb.mp rfl)).elim
  walk_at "dd"
  refine p_anyf (.lst _) ?_
  rw [List.any_eq_false.mpr fun _ _ => by simp]
  walk_at "dd"
  refine .frz_lst (lc_map ((lin (s.f ++ s.l)).map fun _ => .bl true) (fun _ _ => trivial) (by rw [List.length_map, List.length_map]) (fun p acc i d y K hd hy k => ?_) (.inl ?_))
  · obtain ⟨z, hz, rfl⟩ := get_map hd
    obtain ⟨_, _, rfl⟩ := get_map hy
    have hz := List.mem_of_getElem? hz
    simp only [wipeD, List.set]
    walk_at "dd"
    refine p_in (.same _) (okq_str (lin_ok kfl z hz)) (strs_ok ok.kf 7) fun b hb => ?_
    rw [mem_strs] at hb
    cases b
    · exact absurd (hb.mpr (ok.cf z hz)) (by simp)
    · exact k
  walk_at "dd"
  refine p_allf (.lst _) ?_
  rw [List.all_eq_true.mpr fun _ _ => rfl]
  walk_at "dd"
  refine .frz_lst (lc_map ((lin s.m).map fun _ => .bl true) (fun _ _ => trivial) (by rw [List.length_map, List.length_map]) (fun p acc i d y K hd hy k => ?_) (.inl ?_))
  · obtain ⟨z, hz, rfl⟩ := get_map hd
    obtain ⟨_, _, rfl⟩ := get_map hy
    have hz := List.mem_of_getElem? hz
    simp only [wipeD, List.set]
    walk_at "dd"
    refine p_in (.same _) (okq_str (lin_ok ok.km z hz)) (strs_ok ok.km 7) fun b hb => ?_
    rw [mem_strs] at hb
    cases b
    · exact absurd (hb.mpr (ok.vm z hz)) (by simp)
    · exact k
  walk_at "dd"
  refine p_allf (.lst _) ?_
  rw [List.all_eq_true.mpr fun _ _ => rfl]
  walk_at "dd"
  refine .frz_lst (lc_map (s.l.map fun _ => .bl true) (fun _ _ => trivial) (by rw [List.length_map, List.length_map]) (fun p acc i d y K hd hy k => ?_) (.inl ?_))
  · obtain ⟨z, hz, rfl⟩ := get_map hd
    obtain ⟨_, _, rfl⟩ := get_map hy
    have hz := List.mem_of_getElem? hz
    obtain ⟨c, r, hc, hm⟩ := ok.ll z hz
    simp only [wipeD, List.set]
    walk_at "dd"
    refine .str (c := c) (by rw [hc]; exact atI_nat (j := 0) rfl) ?_
    walk_at "dd"
    refine p_in (.same _) (okq_str (ok.kl _ hm)) (strs_ok ok.kl 7) fun b hb => ?_
    rw [show D.str ⟨#[c]⟩ = D.str (one c) from rfl, mem_strs] at hb
    cases b
    · exact absurd (hb.mpr hm) (by simp)
    · exact k
  walk_at "dd"
  refine p_allf (.lst _) ?_
  rw [List.all_eq_true.mpr fun _ _ => rfl]
  exact q
end
section
set_option Elab.async false
set_option linter.all false
set_option maxRecDepth 100000
open PySem L2
local macro_rules | `(tactic| walk_at "tym") => `(tactic| first | assumption | with_reducible exact .str _ | exact .lst (by walk_at "isl"))
theorem lkS1 (s : Scr) : s.fs.lookup ("first_parts" : Str) = some (.lst (s.f.map D.str)) := rfl
theorem lkS2 (s : Scr) : s.fs.lookup ("middle_parts" : Str) = some (.lst (s.m.map D.str)) := rfl
theorem lkS3 (s : Scr) : s.fs.lookup ("last_parts" : Str) = some (.lst (s.l.map D.str)) := rfl
theorem lkS4 (s : Scr) : s.fs.lookup ("least" : Str) = some (.int s.b) := rfl
theorem lk_none {m : Str} : ∀ {fs : List (Str × D)}, (fs.map (·.1)).contains m = false → fs.lookup m = none
  | [], _ => rfl
  | (a, d) :: fs, h => by
    rw [List.map_cons, List.contains_cons, Bool.or_eq_false_iff] at h
    rw [List.lookup_cons, h.1]
    exact lk_none h.2
theorem lkS0 {s : Scr} {m : Str} (h : (["first_parts", "middle_parts", "last_parts", "least"] : List Str).contains m = false) : s.fs.lookup m = none := lk_none h
def tyFs (s : Scr) (l : Addr) (h : D) : List (Str × D) := [("script", s.d), ("done", .ref l), ("at_hand", h)]
theorem lkT1 (s : Scr) (l : Addr) (h : D) : (tyFs s l h).lookup ("script" : Str) = some s.d := rfl
theorem lkT2 (s : Scr) (l : Addr) (h : D) : (tyFs s l h).lookup ("done" : Str) = some (.ref l) := rfl
theorem lkT3 (s : Scr) (l : Addr) (h : D) : (tyFs s l h).lookup ("at_hand" : Str) = some h := rfl
theorem lkT0 {s : Scr} {l : Addr} {h : D} {m : Str} (q : (["script", "done", "at_hand"] : List Str).contains m = false) : (tyFs s l h).lookup m = none := lk_none q
theorem pdT (s : Scr) (l : Addr) (h h' : D) : putD "at_hand" h' (tyFs s l h) = tyFs s l h' := rfl
theorem pdS1 (d : D) : putD "first_parts" d [] = ([("first_parts", d)] : List (Str × D)) := rfl
theorem pdS2 (a d : D) : putD "middle_parts" d [("first_parts", a)] = ([("first_parts", a), ("middle_parts", d)] : List (Str × D)) := rfl
theorem pdS3 (a b d : D) : putD "last_parts" d [("first_parts", a), ("middle_parts", b)] = ([("first_parts", a), ("middle_parts", b), ("last_parts", d)] : List (Str × D)) := rfl
theorem pdS4 (a b c d : D) : putD "least" d [("first_parts", a), ("middle_parts", b), ("last_parts", c)] = ([("first_parts", a), ("middle_parts", b), ("last_parts", c), ("least", d)] : List (Str × D)) := rfl
theorem pdT1 (d : D) : putD "script" d [] = ([("script", d)] : List (Str × D)) := rfl
theorem pdT2 (a d : D) : putD "done" d [("script", a)] = ([("script", a), ("done", d)] : List (Str × D)) := rfl
theorem pdT3 (a b d : D) : putD "at_hand" d [("script", a), ("done", b)] = ([("script", a), ("done", b), ("at_hand", d)] : List (Str × D)) := rfl
local macro_rules | `(tactic| walk_at "lk") => `(tactic| first | exact lkS1 _ | exact lkS2 _ | exact lkS3 _ | exact lkS4 _ | exact lkT1 _ _ _ | exact lkT2 _ _ _ | exact lkT3 _ _ _ | exact lkS0 (by decide +kernel) | exact lkT0 (by decide +kernel))
local macro_rules | `(tactic| walk_at "pd") => `(tactic| first | exact pdT _ _ _ _ | exact pdS1 _ | exact pdS2 _ _ | exact pdS3 _ _ _ | exact pdS4 _ _ _ _ | exact pdT1 _ | exact pdT2 _ _ | exact pdT3 _ _ _)
structure FdS (C : Ct) : Prop where
  f1 : ("first_parts" : Str) ∈ C.fds "Script"
  f2 : ("middle_parts" : Str) ∈ C.fds "Script"
  f3 : ("last_parts" : Str) ∈ C.fds "Script"
  f4 : ("least" : Str) ∈ C.fds "Script"
def sp_is_whole : DSp := fun ds L Q E => ∃ d T b, ds = [d] ∧ TyD L d T ∧ (T == "int") = b ∧ Q (.bl b) L
theorem vc_is_whole {C : Ct} : VC 1 1 sp_is_whole (wpSs C ir_is_whole) := by
  rintro ds L Q E hl uq ue ⟨d, T, _, rfl, ty, rfl, q⟩
  unfold ir_is_whole
  rcases ty_cases ty with rfl | rfl | rfl | rfl | rfl | rfl | rfl <;> (walk_at "go"; exact q)
def sp_Script_init : DSp := fun ds L Q E => ∃ (s : Scr) (x : Addr) (F : HL), ds = [.ref x, sts s.f, sts s.m, sts s.l, .int s.b] ∧ L = (x, .ins "Script" []) :: F ∧ s.Ok ∧ Q .non ((x, .ins "Script" s.fs) :: F)
theorem vc_Script_init {C : Ct} (F : FdS C) (h1 : C.fn 16 2 = some (2, permS sp_are_parts, [])) (h2 : C.fn 14 1 = some (1, permS sp_is_whole, [])) (h3 : C.fn 18 3 = some (3, permS sp_are_script, [])) : VC 5 5 sp_Script_init (wpSs C ir_Script___init__) := by
  rintro ds L Q E hl uq ue ⟨s, x, F0, rfl, rfl, ok, q⟩
  obtain ⟨f1, f2, f3, f4⟩ := F
  unfold ir_Script___init__
  walk_at "go"
  refine ⟨rfl, _, .refl _, s.f, 1, rfl, ok.pf, ok.nf, ok.f40, by have := ok.f1; omega, cl ?_⟩
  walk_at "dd"
  refine ⟨rfl, _, .refl _, s.m, 1, rfl, ok.pm, ok.nm, ok.m40, by have := ok.m1; omega, cl ?_⟩
  walk_at "dd"
  refine ⟨rfl, _, .refl _, s.l, 0, rfl, ok.pl, ok.nl, ok.l40, by omega, cl ?_⟩
  walk_at "dd"
  refine ⟨rfl, _, .refl _, _, "int", true, rfl, .of rfl, by decide, cl ?_⟩
  walk_at "dd"
  rw [decide_eq_false (by have := ok.b0; omega)]
  walk_at "dd"
  refine ⟨rfl, _, .refl _, s, rfl, ok, cl ?_⟩
  walk_at "dd"
  refine p_list (.lst (.lst _)) ?_
  walk_at "dd"
  refine p_list (.lst (.lst _)) ?_
  walk_at "dd"
  refine p_list (.lst (.lst _)) ?_
  walk_at "dd"
  exact q
def getter (g : Scr → D) : DSp := fun ds L Q E => ∃ s : Scr, ds = [s.d] ∧ Q (g s) L
theorem vc_firsts {C : Ct} (F : FdS C) : VC 1 1 (getter fun s => sts s.f) (wpSs C ir_Script_firsts) := by
  rintro ds L Q E hl uq ue ⟨s, rfl, q⟩
  obtain ⟨f1, f2, f3, f4⟩ := F
  unfold ir_Script_firsts
  walk_at "go"
  exact p_list (.lst (.lst _)) q
theorem vc_middles {C : Ct} (F : FdS C) : VC 1 1 (getter fun s => sts s.m) (wpSs C ir_Script_middles) := by
  rintro ds L Q E hl uq ue ⟨s, rfl, q⟩
  obtain ⟨f1, f2, f3, f4⟩ := F
  unfold ir_Script_middles
  walk_at "go"
  exact p_list (.lst (.lst _)) q
theorem vc_lasts {C : Ct} (F : FdS C) : VC 1 1 (getter fun s => sts s.l) (wpSs C ir_Script_lasts) := by
  rintro ds L Q E hl uq ue ⟨s, rfl, q⟩
  obtain ⟨f1, f2, f3, f4⟩ := F
  unfold ir_Script_lasts
  walk_at "go"
  exact p_list (.lst (.lst _)) q
def getterO (g : Scr → D) : DSp := fun ds L Q E => ∃ s : Scr, ds = [s.d] ∧ s.Ok ∧ Q (g s) L
/-- is_first, is_middle, is_last of a text -/
def inD (xs : List Str) : D → Bool
  | .str x => decide (x ∈ xs)
  | _ => false
def nilD : D → Bool
  | .str x => decide (x = "")
  | _ => false
def blk3 (s : Scr) : List D → Bool
  | [a, b, c] => inD s.f a && (inD s.m b && (nilD c || inD s.l c))
  | _ => false
def blkD (s : Scr) : D → Bool
  | .tup ds => blk3 s ds
  | .lst ds => blk3 s ds
  | _ => false
def looD (s : Scr) (d : D) : Bool := inD s.f d || inD s.m d
def unitD (s : Scr) (d : D) : Bool := looD s d || blkD s d
def toldD : D → D
  | .lst ds => .tup ds
  | d => d
theorem kind_of {n : Nat} {d : D} (h : okq n d = true) : (∃ x, d = .str x) ∨ (∃ ds, d = .tup ds) ∨ (∃ ds, d = .lst ds) ∨
    ∃ T, tyD d = some T ∧ subB T "str" = false ∧ subB T "list" = false ∧ subB T "tuple" = false ∧ (∀ xs, inD xs d = false) ∧ ∀ s, blkD s d = false := by
  cases d with
  | str x => exact .inl ⟨x, rfl⟩
  | tup ds => exact .inr (.inl ⟨ds, rfl⟩)
  | lst ds => exact .inr (.inr (.inl ⟨ds, rfl⟩))
  | non => exact .inr (.inr (.inr ⟨_, rfl, by decide, by decide, by decide, fun _ => rfl, fun _ => rfl⟩))
  | int i => exact .inr (.inr (.inr ⟨_, rfl, by decide, by decide, by decide, fun _ => rfl, fun _ => rfl⟩))
  | bl b => cases n <;> (unfold okq at h; cases h)
  | ty b => cases n <;> (unfold okq at h; cases h)
  | ref b => cases n <;> (unfold okq at h; cases h)
  | frz b => cases n <;> (unfold okq at h; cases h)
  | ins b c => cases n <;> (unfold okq at h; cases h)
  | exc b c => cases n <;> (unfold okq at h; cases h)
  | lam b => cases n <;> (unfold okq at h; cases h)
def isIn (g : Scr → List Str) : DSp := fun ds L Q E => ∃ (s : Scr) (d : D), ds = [s.d, d] ∧ s.Ok ∧ okq 8 d = true ∧ Q (.bl (inD (g s) d)) L
theorem bl_dec {b : Bool} {P : Prop} [Decidable P] (h : b = true ↔ P) : b = decide P := by
  cases b <;> simp_all
theorem vc_is_first {C : Ct} (F : FdS C) : VC 2 2 (isIn (·.f)) (wpSs C ir_Script_is_first) := by
  rintro ds L Q E hl uq ue ⟨s, d, rfl, ok, od, q⟩
  obtain ⟨f1, f2, f3, f4⟩ := F
  unfold ir_Script_is_first
  rcases kind_of od with ⟨x, rfl⟩ | ⟨es, rfl⟩ | ⟨es, rfl⟩ | ⟨T, hT, h1, h2, h3, h4, h5⟩
  · have kx : PyData.strOk x = true := by unfold okq at od; exact od
    walk_at "go"
    refine p_in (.same _) (okq_str kx) (strs_ok ok.kf 7) fun b hb => ?_
    rw [mem_strs] at hb
    rw [bl_dec hb]
    exact q
  · walk_at "go"
    exact q
  · walk_at "go"
    exact q
  · walk_at "go"
    refine .one (.of hT) (by decide) ?_
    rw [h1]
    walk_at "dd"
    rw [h4] at q
    exact q
theorem vc_is_middle {C : Ct} (F : FdS C) : VC 2 2 (isIn (·.m)) (wpSs C ir_Script_is_middle) := by
  rintro ds L Q E hl uq ue ⟨s, d, rfl, ok, od, q⟩
  obtain ⟨f1, f2, f3, f4⟩ := F
  unfold ir_Script_is_middle
  rcases kind_of od with ⟨x, rfl⟩ | ⟨es, rfl⟩ | ⟨es, rfl⟩ | ⟨T, hT, h1, h2, h3, h4, h5⟩
  · have kx : PyData.strOk x = true := by unfold okq at od; exact od
    walk_at "go"
    refine p_in (.same _) (okq_str kx) (strs_ok ok.km 7) fun b hb => ?_
    rw [mem_strs] at hb
    rw [bl_dec hb]
    exact q
  · walk_at "go"
    exact q
  · walk_at "go"
    exact q
  · walk_at "go"
    refine .one (.of hT) (by decide) ?_
    rw [h1]
    walk_at "dd"
    rw [h4] at q
    exact q
theorem vc_is_last {C : Ct} (F : FdS C) : VC 2 2 (isIn (·.l)) (wpSs C ir_Script_is_last) := by
  rintro ds L Q E hl uq ue ⟨s, d, rfl, ok, od, q⟩
  obtain ⟨f1, f2, f3, f4⟩ := F
  unfold ir_Script_is_last
  rcases kind_of od with ⟨x, rfl⟩ | ⟨es, rfl⟩ | ⟨es, rfl⟩ | ⟨T, hT, h1, h2, h3, h4, h5⟩
  · have kx : PyData.strOk x = true := by unfold okq at od; exact od
    walk_at "go"
    refine p_in (.same _) (okq_str kx) (strs_ok ok.kl 7) fun b hb => ?_
    rw [mem_strs] at hb
    rw [bl_dec hb]
    exact q
  · walk_at "go"
    exact q
  · walk_at "go"
    exact q
  · walk_at "go"
    refine .one (.of hT) (by decide) ?_
    rw [h1]
    walk_at "dd"
    rw [h4] at q
    exact q
end
local macro_rules | `(tactic| walk_at "lk") => `(tactic| first | assumption | exact rfl)
local macro_rules | `(tactic| walk_at "lk") => `(tactic| first | exact lkS1 _ | exact lkS2 _ | exact lkS3 _ | exact lkS4 _ | exact lkT1 _ _ _ | exact lkT2 _ _ _ | exact lkT3 _ _ _ | exact lkS0 (by decide +kernel) | exact lkT0 (by decide +kernel))
local macro_rules | `(tactic| walk_at "pd") => `(tactic| first | assumption | exact rfl)
local macro_rules | `(tactic| walk_at "pd") => `(tactic| first | exact pdT _ _ _ _ | exact pdS1 _ | exact pdS2 _ _ | exact pdS3 _ _ _ | exact pdS4 _ _ _ _ | exact pdT1 _ | exact pdT2 _ _ | exact pdT3 _ _ _)
section
set_option Elab.async false
set_option linter.all false
set_option maxRecDepth 100000
open PySem L2
local macro_rules | `(tactic| walk_at "tym") => `(tactic| first | assumption | with_reducible exact .str _ | exact .lst (by walk_at "isl"))
inductive Un where
  | n
  | p (x : Str)
  | b (f m l : Str)
  deriving DecidableEq
def Un.d : Un → D
  | .n => .non
  | .p x => .str x
  | .b f m l => .tup [.str f, .str m, .str l]
def Ss (x : Str) : Prop := PyData.strOk x = true ∧ x.length ≤ 2
def Un.Ok : Un → Prop
  | .n => True
  | .p x => Ss x
  | .b f m l => Ss f ∧ Ss m ∧ Ss l
def wc (s : Scr) (u : Un) (k : Str) : Un := match u with
  | .n => .n
  | .b f m l => if l ++ k ∈ s.l then .b f m (l ++ k) else .n
  | .p x => if x ++ k ∈ s.f then .p (x ++ k) else .n
def wv (s : Scr) (u : Un) (k : Str) : Un := match u with
  | .n => .n
  | .b f m l => if l = "" ∧ m ++ k ∈ s.m then .b f (m ++ k) "" else .n
  | .p x => if x ∈ s.f then .b x k "" else if x ++ k ∈ s.m then .p (x ++ k) else .n
theorem Pt.ss {x : Str} (h : Pt x) : Ss x := ⟨h.ok, h.len⟩
theorem ok_app {x y : Str} (h1 : PyData.strOk x = true) (h2 : PyData.strOk y = true) : PyData.strOk (x ++ y) = true := by
  unfold PyData.strOk at *
  show (x.cps ++ y.cps).all _ = true
  rw [Array.all_append, h1, h2]
  rfl
theorem ss_sz {x y : Str} (h1 : Ss x) (h2 : Ss y) : x.length + y.length ≤ sizeLine := szl2 (by have := h1.2; have := h2.2; omega)
theorem ss_nil : Ss "" := ⟨by decide +kernel, by decide +kernel⟩
end
section
set_option Elab.async false
set_option linter.all false
set_option maxRecDepth 100000
open PySem L2
local macro_rules | `(tactic| walk_at "tym") => `(tactic| first | assumption | with_reducible exact .str _ | exact .lst (by walk_at "isl"))
theorem dp {z : Str} : (Un.p z).d = .str z := rfl
theorem db {f m l : Str} : (Un.b f m l).d = .tup [.str f, .str m, .str l] := rfl
def fin (us : List Un) (h : Un) : List Un := if h = .n then us else us ++ [h]
theorem p_app {L A B : HL} {Q : Qd} {p : Addr} {d : D} {ds : List D} (h : Sp L p (.lst ds) A B) (z : ds.length ≤ 5000) (q : Q .non (A ++ (p, .lst (ds ++ [d])) :: B)) : wpMf .append (.ref p) [d] L Q :=
  .mk h (by show _ < 16777216; omega) q
/-- the state behind a unit that is joined, or none -/
def joinT (us : List Un) (h u : Un) (k : Str) : List Un × Un := if u = .n then (fin us h, .p k) else (us, u)
def initS (x : Str) : Str := ⟨x.cps.toList.dropLast.toArray⟩
def lastS (x : Str) : Str := one (x.cps.toList.getLastD 0)
def goT (us : List Un) (f m l k : Str) : List Un × Un := (us ++ [.b f m (initS l)], .b (lastS l) k "")
def sp_unit_told : DSp := fun ds L Q E => ∃ d : D, ds = [d] ∧ ((∃ x, d = .str x) ∨ (∃ es, d = .tup es) ∨ ∃ es, d = .lst es) ∧ Q (toldD d) L
theorem vc_unit_told {C : Ct} : VC 1 1 sp_unit_told (wpSs C ir_unit_told) := by
  rintro ds L Q E hl uq ue ⟨d, rfl, ⟨x, rfl⟩ | ⟨es, rfl⟩ | ⟨es, rfl⟩, q⟩
  all_goals unfold ir_unit_told
  · walk_at "go"
    exact q
  · walk_at "go"
    exact q
  · walk_at "go"
    exact .lst (.lst _) q
end
section
set_option Elab.async false
set_option linter.all false
set_option maxRecDepth 100000
open PySem L2
local macro_rules | `(tactic| walk_at "tym") => `(tactic| first | assumption | with_reducible exact .str _ | exact .lst (by walk_at "isl"))
abbrev isKey (s : Scr) (x : Str) : Prop := x = "|" ∨ x ∈ lin (s.f ++ s.l) ∨ x ∈ lin s.m
theorem Scr.Ok.kfl {s : Scr} (ok : s.Ok) : ∀ x ∈ s.f ++ s.l, PyData.strOk x = true := fun x m => (List.mem_append.mp m).elim (ok.kf x) (ok.kl x)
theorem one_ss {z : Str} {xs : List Str} (h : ∀ x ∈ xs, PyData.strOk x = true) (m : z ∈ lin xs) : Ss z := by
  refine ⟨lin_ok h z m, ?_⟩
  obtain ⟨x, _, hz⟩ := mem_lin.mp m
  obtain ⟨c, _, rfl⟩ := mem_chs hz
  show 1 ≤ 2
  decide
theorem isKey.ss {s : Scr} (ok : s.Ok) {k : Str} (h : isKey s k) : Ss k := by
  rcases h with rfl | h | h
  · exact ⟨by decide +kernel, by decide +kernel⟩
  · exact one_ss ok.kfl h
  · exact one_ss ok.km h
def pr (s : Scr) (t : List Un × Un) (k : Str) : List Un × Un :=
  if k = "|" then (fin t.1 t.2, .n) else if k ∈ lin (s.f ++ s.l) then joinT t.1 t.2 (wc s t.2 k) k else match t.2 with
    | .b f m l => if l ≠ "" then goT t.1 f m l k else joinT t.1 t.2 (wv s t.2 k) k
    | _ => joinT t.1 t.2 (wv s t.2 k) k
end
section
set_option Elab.async false
set_option linter.all false
set_option maxRecDepth 100000
open PySem L2
local macro_rules | `(tactic| walk_at "tym") => `(tactic| first | assumption | with_reducible exact .str _ | exact .lst (by walk_at "isl"))
def run (s : Scr) (ks : List Str) : List Un × Un := ks.foldl (pr s) ([], .n)
end
section
set_option Elab.async false
set_option linter.all false
set_option maxRecDepth 100000
open PySem L2
local macro_rules | `(tactic| walk_at "tym") => `(tactic| first | assumption | with_reducible exact .str _ | exact .lst (by walk_at "isl"))
structure Mo (parts ones others ys : List Str) : Prop where
  ex : ∃ zs, ys = parts ++ zs ∧ zs.length ≤ 8 ∧ ∀ z ∈ zs, ∃ a ∈ ones, ∃ b ∈ others, z = a ++ b
  nd : parts.Nodup → ys.Nodup
def sp_more : DSp := fun ds L Q E => ∃ (p : Addr) (a b : Int) (xs ones others : List Str) (F : HL), ds = [.ref p, sts xs, sts ones, sts others] ∧ L = pot p a b :: F ∧ Pot a b ∧ (∀ x ∈ xs ++ ones ++ others, Ss x) ∧ (∀ x ∈ ones ++ others, x.length ≤ 1) ∧ xs.length ≤ 1000 ∧ ones.length ≤ 1000 ∧ others.length ≤ 1000 ∧ (ones ≠ [] → others ≠ []) ∧
  ∀ ys a' b', Mo xs ones others ys → Pot a' b' → Q (.lst (ys.map D.str)) (pot p a' b' :: F)
theorem okq_sts {xs : List Str} (h : ∀ x ∈ xs, PyData.strOk x = true) : okq 8 (.lst (xs.map D.str)) = true := by
  unfold okq
  exact okqs_iff.mpr (strs_ok h 7)
theorem len_app (x y : Str) : (x ++ y).length = x.length + y.length := by
  show (x.cps ++ y.cps).size = _
  rw [Array.size_append]
  rfl
theorem vc_more {C : Ct} (hc : C.fn 36 2 = some (2, permS sp_take, [])) : VC 7 4 sp_more (wpSs C ir__law_more_dcb3c2a0) := by
  rintro ds L Q E hl uq ue ⟨p, a, b, xs, ones, others, F, rfl, rfl, hp, hs, h1, z1, z2, z3, hne, q⟩
  have sx : ∀ x ∈ xs, Ss x := fun x m => hs x (List.mem_append_left _ (List.mem_append_left _ m))
  have so : ∀ x ∈ ones, Ss x := fun x m => hs x (List.mem_append_left _ (List.mem_append_right _ m))
  have st : ∀ x ∈ others, Ss x := fun x m => hs x (List.mem_append_right _ m)
  unfold ir__law_more_dcb3c2a0
  walk_at "go"
  refine p_listR (.lst (.lst _)) fun f => ?_
  walk_at "dd"
  refine ⟨rfl, _, by walk_at "pm", p, a, b, 9, _, rfl, rfl, hp, by omega, by decide, fun r a b r0 r1 hp => cl ?_⟩
  walk_at "dd"
  refine .one (by omega) (by omega) ⟨fun i σ L => ∃ a b ys d e, σ = [some (.ref p), some (sts xs), some (sts ones), some (sts others), some (.ref f), d, e] ∧ L = pot p a b :: (f, .lst (ys.map D.str)) :: F ∧ Pot a b ∧ (∃ zs, ys = xs ++ zs ∧ zs.length ≤ i ∧ ∀ z ∈ zs, ∃ a ∈ ones, ∃ b ∈ others, z = a ++ b) ∧ (xs.Nodup → ys.Nodup), ?_, ?_⟩
  · exact ⟨_, _, xs, none, none, rfl, rfl, hp, ⟨[], by simp, Nat.zero_le _, fun _ m => nomatch m⟩, id⟩
  rintro i σ L ⟨a, b, ys, d, e, rfl, rfl, hp, hy, hn⟩
  refine ⟨trivial, fun hi => ?_, fun d hd => ?_⟩
  · walk_at "dd"
    refine uq _ _ _ _ (.trans (.perm (.swap _ _ _)) .lst) (q _ _ _ ⟨?_, hn⟩ hp)
    obtain ⟨zs, h1, h2, h3⟩ := hy
    exact ⟨zs, h1, by rw [hi, rgD_len] at h2; omega, h3⟩
  · walk_at "dd"
    refine .inl ?_
    refine p_ne (.same _) (.same _) (okq_sts fun x m => (so x m).1) rfl fun b0 hb => ?_
    walk_at "dd"
    refine c_b (fun h => ?_) (fun h => ?_)
    · have hone : ones ≠ [] := fun e => by
        have := hb.mp h
        rw [e] at this
        exact this rfl
      have l1 : 0 < ones.length := List.length_pos_iff.mpr hone
      have l2 : 0 < others.length := List.length_pos_iff.mpr (hne hone)
      walk_at "dd"
      refine ⟨rfl, _, by walk_at "pm", p, a, b, ones.length, _, rfl, rfl, hp, by omega, by omega, fun r a b r0 r1 hp => cl ?_⟩
      obtain ⟨r, rfl⟩ := Int.eq_ofNat_of_zero_le r0
      have hr : r < ones.length := by omega
      refine p_ix (j := r) (.lst (.lst _)) rfl (d := .str ones[r]) (by rw [List.getElem?_map, List.getElem?_eq_getElem hr]; rfl) ?_
      walk_at "dd"
      refine ⟨rfl, _, by walk_at "pm", p, a, b, others.length, _, rfl, rfl, hp, by omega, by omega, fun t a b t0 t1 hp => cl ?_⟩
      obtain ⟨t, rfl⟩ := Int.eq_ofNat_of_zero_le t0
      have ht : t < others.length := by omega
      refine p_ix (j := t) (.lst (.lst _)) rfl (d := .str others[t]) (by rw [List.getElem?_map, List.getElem?_eq_getElem ht]; rfl) ?_
      have m1 : ones[r] ∈ ones := List.getElem_mem hr
      have m2 : others[t] ∈ others := List.getElem_mem ht
      walk_at "dd"
      refine p_cat (ss_sz (so _ m1) (st _ m2)) ?_
      walk_at "dd"
      obtain ⟨zs, e1, e2, e3⟩ := hy
      have oky : ∀ y ∈ ys, PyData.strOk y = true := fun y m => by
        rw [e1] at m
        rcases List.mem_append.mp m with m | m
        · exact (sx y m).1
        · obtain ⟨c, hc, d, hd, e⟩ := e3 y m
          rw [e]
          exact ok_app (so c hc).1 (st d hd).1
      refine p_nin (.own (by walk_at "mem")) (okq_str (ok_app (so _ m1).1 (st _ m2).1)) (strs_ok oky 7) fun b0 hb => ?_
      rw [mem_strs] at hb
      walk_at "dd"
      have hlen : ys.length ≤ 2000 := by
        have hi' := lt_of_get hd
        rw [rgD_len] at hi'
        rw [e1, List.length_append]
        omega
      refine c_b (fun h => ?_) (fun h => ?_)
      · walk_at "dd"
        refine p_app (by walk_at "sp") (by rw [List.length_map]; omega) ?_
        walk_at "dd"
        refine ⟨_, .refl _, a, b, ys ++ [ones[r] ++ others[t]], _, _, rfl, by rw [List.map_append]; rfl, hp, ⟨zs ++ [ones[r] ++ others[t]], by rw [e1, List.append_assoc], ?_, ?_⟩, fun nd => ?_⟩
        · rw [List.length_append]
          exact Nat.succ_le_succ e2
        · intro z m
          rcases List.mem_append.mp m with m | m
          · exact e3 z m
          · exact ⟨_, m1, _, m2, List.mem_singleton.mp m⟩
        · rw [List.nodup_append]
          exact ⟨hn nd, List.nodup_cons.mpr ⟨List.not_mem_nil, List.nodup_nil⟩, fun x hx y hy e => hb.mp h (by rw [← List.mem_singleton.mp hy, ← e]; exact hx)⟩
      · walk_at "dd"
        exact ⟨_, .refl _, a, b, ys, _, _, rfl, rfl, hp, ⟨zs, e1, by omega, e3⟩, hn⟩
    · walk_at "dd"
      obtain ⟨zs, e1, e2, e3⟩ := hy
      exact ⟨_, .refl _, a, b, ys, _, _, rfl, rfl, hp, ⟨zs, e1, by omega, e3⟩, hn⟩
end
section
set_option Elab.async false
set_option linter.all false
set_option maxRecDepth 100000
open PySem L2
local macro_rules | `(tactic| walk_at "tym") => `(tactic| first | assumption | with_reducible exact .str _ | exact .lst (by walk_at "isl"))
/-- one small letter -/
def On (x : Str) : Prop := ∃ c, 97 ≤ c ∧ c ≤ 122 ∧ x = one c
theorem On.ss {x : Str} (h : On x) : Ss x := by
  obtain ⟨c, h1, h2, rfl⟩ := h
  refine ⟨?_, by show 1 ≤ 2; decide⟩
  unfold PyData.strOk one
  rw [← Array.all_toList, List.all_eq_true]
  intro d m
  rw [List.mem_singleton.mp m]
  exact decide_eq_true (by omega)
theorem chs_app (x y : Str) : chs (x ++ y) = chs x ++ chs y := by
  unfold chs
  rw [show (x ++ y).cps.toList = x.cps.toList ++ y.cps.toList from Array.toList_append, List.map_append]
theorem pt_one {x : Str} (h : On x) : Pt x := by
  obtain ⟨c, h1, h2, rfl⟩ := h
  exact ⟨(by intro e; cases e), (by show 1 ≤ 2; decide), fun d m => by rw [List.mem_singleton.mp m]; exact ⟨h1, h2⟩⟩
theorem pt_two {x y : Str} (h : On x) (h' : On y) : Pt (x ++ y) := by
  obtain ⟨c, h1, h2, rfl⟩ := h
  obtain ⟨d, h3, h4, rfl⟩ := h'
  refine ⟨(by intro e; cases e), (by show 2 ≤ 2; decide), fun e m => ?_⟩
  have m : e ∈ [c, d] := m
  rcases List.mem_cons.mp m with rfl | m
  · exact ⟨h1, h2⟩
  · rw [List.mem_singleton.mp m]
    exact ⟨h3, h4⟩
section
variable {xs as bs cs : List Str}
theorem Mo.pt (h : Mo xs as bs cs) (hx : ∀ x ∈ xs, On x) (ha : ∀ x ∈ as, On x) (hb : ∀ x ∈ bs, On x) : ∀ x ∈ cs, Pt x := fun x m => by
  obtain ⟨zs, rfl, _, h3⟩ := h.ex
  rcases List.mem_append.mp m with m | m
  · exact pt_one (hx x m)
  · obtain ⟨a, ma, b, mb, rfl⟩ := h3 x m
    exact pt_two (ha a ma) (hb b mb)
theorem Mo.chs (h : Mo xs as bs cs) (hx : ∀ x ∈ xs, On x) (ha : ∀ x ∈ as, On x) (hb : ∀ x ∈ bs, On x) {ys : List Str} (sx : ∀ x ∈ xs, x ∈ ys) (sa : ∀ x ∈ as, x ∈ ys) (sb : ∀ x ∈ bs, x ∈ ys) : ∀ x ∈ cs, ∀ z ∈ DM.chs x, z ∈ ys := fun x m z hz => by
  have single : ∀ {x : Str}, On x → ∀ {z}, z ∈ DM.chs x → z = x := fun {x} hx {z} hz => by
    obtain ⟨c, _, _, rfl⟩ := hx
    exact List.mem_singleton.mp hz
  obtain ⟨zs, rfl, _, h3⟩ := h.ex
  rcases List.mem_append.mp m with m | m
  · rw [single (hx x m) hz]
    exact sx x m
  · obtain ⟨a, ma, b, mb, rfl⟩ := h3 x m
    rw [chs_app] at hz
    rcases List.mem_append.mp hz with hz | hz
    · rw [single (ha a ma) hz]
      exact sa a ma
    · rw [single (hb b mb) hz]
      exact sb b mb
theorem Mo.sub (h : Mo xs as bs cs) : ∀ x ∈ xs, x ∈ cs := fun x m => by
  obtain ⟨zs, rfl, _, h3⟩ := h.ex
  exact List.mem_append_left _ m
theorem Mo.len (h : Mo xs as bs cs) : xs.length ≤ cs.length ∧ cs.length ≤ xs.length + 8 := by
  obtain ⟨zs, rfl, h2, h3⟩ := h.ex
  rw [List.length_append]
  omega
end
theorem scr_ok {cons vow ends f m l f0 m0 l0 : List Str} {b : Int} (oc : ∀ x ∈ cons, On x) (ov : ∀ x ∈ vow, On x) (nd : (cons ++ vow).Nodup) (c1 : 1 ≤ cons.length) (c2 : cons.length ≤ 20) (v1 : 1 ≤ vow.length) (v2 : vow.length ≤ 6)
    (se : ends.Sublist cons) (pf : f.Perm f0) (pm : m.Perm m0) (pl : l.Perm l0) (mf : Mo cons cons cons f0) (mm : Mo vow vow vow m0) (ml : Mo ends ends cons l0) (b0 : 0 ≤ b) : Scr.Ok ⟨f, m, l, b⟩ := by
  have oe : ∀ x ∈ ends, On x := fun x m => oc x (se.subset m)
  obtain ⟨n1, n2, n3⟩ := List.nodup_append.mp nd
  have cf : ∀ x ∈ f, ∀ z ∈ chs x, z ∈ cons := fun x m => mf.chs oc oc oc (fun _ h => h) (fun _ h => h) (fun _ h => h) x (pf.mem_iff.mp m)
  have cl : ∀ x ∈ l, ∀ z ∈ chs x, z ∈ cons := fun x m => ml.chs oe oe oc (fun _ h => se.subset h) (fun _ h => se.subset h) (fun _ h => h) x (pl.mem_iff.mp m)
  have cm : ∀ x ∈ m, ∀ z ∈ chs x, z ∈ vow := fun x h => mm.chs ov ov ov (fun _ h => h) (fun _ h => h) (fun _ h => h) x (pm.mem_iff.mp h)
  have lc : ∀ z ∈ lin (f ++ l), z ∈ cons := fun z h => by
    obtain ⟨x, hx, hz⟩ := mem_lin.mp h
    exact (List.mem_append.mp hx).elim (fun q => cf x q z hz) fun q => cl x q z hz
  have lv : ∀ z ∈ lin m, z ∈ vow := fun z h => by
    obtain ⟨x, hx, hz⟩ := mem_lin.mp h
    exact cm x hx z hz
  have lf := mf.len
  have lm := mm.len
  have ll := ml.len
  have le := se.length_le
  exact {
    pf := fun x h => mf.pt oc oc oc x (pf.mem_iff.mp h)
    pm := fun x h => mm.pt ov ov ov x (pm.mem_iff.mp h)
    pl := fun x h => ml.pt oe oe oc x (pl.mem_iff.mp h)
    nf := pf.nodup_iff.mpr (mf.nd n1)
    nm := pm.nodup_iff.mpr (mm.nd n2)
    nl := pl.nodup_iff.mpr (ml.nd (n1.sublist se))
    f1 := by show 1 ≤ f.length; rw [pf.length_eq]; omega
    m1 := by show 1 ≤ m.length; rw [pm.length_eq]; omega
    f40 := by show f.length ≤ 40; rw [pf.length_eq]; omega
    m40 := by show m.length ≤ 40; rw [pm.length_eq]; omega
    l40 := by show l.length ≤ 40; rw [pl.length_eq]; omega
    b0 := b0
    dis := fun z h h' => n3 z (lc z h) z (lv z h') rfl
    cf := fun z h => pf.mem_iff.mpr (mf.sub z (lc z h))
    vm := fun z h => pm.mem_iff.mpr (mm.sub z (lv z h))
    ll := fun x h => by
      obtain ⟨zs, rfl, h2, h3⟩ := ml.ex
      rcases List.mem_append.mp (pl.mem_iff.mp h) with q | q
      · obtain ⟨c, _, _, rfl⟩ := oe x q
        exact ⟨c, [], rfl, h⟩
      · obtain ⟨a, ma, b, mb, rfl⟩ := h3 x q
        obtain ⟨c, _, _, rfl⟩ := oe a ma
        exact ⟨c, b.cps.toList, by show (#[c] ++ b.cps).toList = _; rw [Array.toList_append]; rfl, pl.mem_iff.mpr (List.mem_append_left _ ma)⟩ }
def letterAt (st sp k : Nat) : Str := one (97 + (st + k * sp) % 26)
def steps : List Nat := [1, 3, 5, 7, 9, 11, 15, 17, 19, 21, 23, 25]
def alphabet (st sp : Nat) : List Str := (List.range 26).map (letterAt st sp)
theorem nums_nd : ((List.range 26).all fun st => steps.all fun sp => ((List.range 26).map fun k => (st + k * sp) % 26).Nodup) = true := by decide +kernel
theorem alphabet_nd {st sp : Nat} (h1 : st < 26) (h2 : sp ∈ steps) : (alphabet st sp).Nodup := by
  have h := List.all_eq_true.mp (List.all_eq_true.mp nums_nd st (List.mem_range.mpr h1)) sp h2
  have h := of_decide_eq_true h
  have e : alphabet st sp = ((List.range 26).map fun k => (st + k * sp) % 26).map fun n => one (97 + n) := by
    unfold alphabet letterAt
    rw [List.map_map]
    rfl
  rw [e]
  refine List.Pairwise.map _ (fun a b hab he => hab ?_) h
  have he : one (97 + a) = one (97 + b) := he
  unfold one at he
  injection he with he
  injection he with he
  injection he with he
  omega
theorem alphabet_on {st sp : Nat} : ∀ x ∈ alphabet st sp, On x := fun x m => by
  obtain ⟨k, _, rfl⟩ := List.mem_map.mp m
  exact ⟨_, by omega, by have := Nat.mod_lt (st + k * sp) (show 0 < 26 by decide); omega, rfl⟩
theorem alphabet_len {st sp : Nat} : (alphabet st sp).length = 26 := by
  unfold alphabet
  rw [List.length_map, List.length_range]
theorem cut_to {ds : List D} {n : Nat} : cutD ds none (some (n : Int)) = ds.take n := by
  unfold cutD
  rw [HT.sIx_none, HT.sIx_nat, List.drop_zero, Nat.sub_zero]
  by_cases h : n ≤ ds.length
  · rw [Nat.min_eq_left h]
  · rw [Nat.min_eq_right (by omega), List.take_length, List.take_of_length_le (by omega)]
theorem cut_mid {ds : List D} {a b : Nat} (h : a ≤ b) (hb : b ≤ ds.length) : cutD ds (some (a : Int)) (some (b : Int)) = (ds.drop a).take (b - a) := by
  unfold cutD
  rw [HT.sIx_nat, HT.sIx_nat, Nat.min_eq_left hb, Nat.min_eq_left (by omega)]
end
section
set_option Elab.async false
set_option linter.all false
set_option maxRecDepth 100000
open PySem L2
local macro_rules | `(tactic| walk_at "tym") => `(tactic| first | assumption | with_reducible exact .str _ | exact .lst (by walk_at "isl"))
theorem p_take {p : Addr} {a b n : Int} {F L : HL} {Q : Qd} {E : DX → HL → Prop} (pm : L.Perm (pot p a b :: F)) (hp : Pot a b) (h0 : 0 < n) (h1 : n.natAbs < 2 ^ 200) (q : ∀ (r : Nat) a' b', (r : Int) < n → Pot a' b' → Q (.int (r : Int)) (pot p a' b' :: F)) :
    ([D.ref p, .int n].length = 2 ∧ permS sp_take [.ref p, .int n] L (Cl Q) E) := ⟨rfl, _, pm, p, a, b, n, F, rfl, rfl, hp, h0, h1, fun r a' b' r0 r1 hp' => by
  obtain ⟨r, rfl⟩ := Int.eq_ofNat_of_zero_le r0
  exact cl (q r a' b' r1 hp')⟩
def unS : D → Str
  | .str x => x
  | _ => ""
theorem perm_strs {ys : List D} {xs : List Str} (h : ys.Perm (xs.map D.str)) : ∃ zs : List Str, ys = zs.map D.str ∧ zs.Perm xs := by
  refine ⟨ys.map unS, ?_, ?_⟩
  · rw [List.map_map]
    have : ∀ y ∈ ys, (D.str ∘ unS) y = y := fun y m => by
      obtain ⟨x, _, rfl⟩ := List.mem_map.mp (h.mem_iff.mp m)
      rfl
    rw [List.map_congr_left this, List.map_id']
  · have := h.map unS
    rw [List.map_map, show unS ∘ D.str = id from rfl, List.map_id] at this
    exact this
def sp_script : DSp := fun ds L Q E => ∃ (p : Addr) (a b : Int) (F : HL), ds = [.ref p] ∧ L = pot p a b :: F ∧ Pot a b ∧ ∀ (s : Scr) a' b', s.Ok → Pot a' b' → Q s.d (pot p a' b' :: F)
theorem vc_script {C : Ct} (hc : C.fn 36 2 = some (2, permS sp_take, [])) (e1 : C.fn 37 2 = some (2, permS sp_mixed, [])) (e2 : C.fn 38 4 = some (4, permS sp_more, [])) (e3 : C.fn 19 4 = some (5, permS sp_Script_init, [])) : VC 13 1 sp_script (wpSs C ir__law_script_ca86632e) := by
  rintro ds L Q E hl uq ue ⟨p, a, b, F, rfl, rfl, hp, q⟩
  unfold ir__law_script_ca86632e
  walk_at "go"
  refine p_take (.refl _) hp (by decide) (by decide) fun st a b st1 hp => ?_
  walk_at "dd"
  refine p_take (.refl _) hp (by decide) (by decide) fun k a b k1 hp => ?_
  have hst : st < 26 := by omega
  have hk : k < steps.length := by show k < 12; omega
  refine p_ix (j := k) (.tup _) rfl (d := .int (steps[k] : Nat)) ?_ ?_
  · have : ([D.int 1, D.int 3, D.int 5, D.int 7, D.int 9, D.int 11, D.int 15, D.int 17, D.int 19, D.int 21, D.int 23, D.int 25] : List D) = steps.map fun (n : Nat) => D.int (n : Int) := rfl
    rw [this, List.getElem?_map, List.getElem?_eq_getElem hk]
    rfl
  have hsp : steps[k] ∈ steps := List.getElem_mem hk
  generalize steps[k] = sp at hsp
  have hspl : sp ≤ 25 := by
    have : (steps.all fun x => decide (x ≤ 25)) = true := by decide
    exact of_decide_eq_true (List.all_eq_true.mp this sp hsp)
  walk_at "dd"
  refine .one (by decide) (by decide) (lc_map ((alphabet st sp).map D.str) (fun _ _ => trivial) (by rw [List.length_map, alphabet_len, rgD_len]; rfl) (fun p' acc i d y K hd hy kk => ?_) (.inl ?_))
  · unfold rgD at hd
    obtain ⟨i', hi', rfl⟩ := get_map hd
    obtain ⟨z, hz, rfl⟩ := get_map hy
    obtain ⟨rfl, hlt⟩ : i' = i ∧ i < 26 := by
      have := lt_of_get hi'
      rw [List.length_range] at this
      rw [List.getElem?_range this] at hi'
      exact ⟨(Option.some.inj hi').symm, this⟩
    unfold alphabet at hz
    obtain ⟨j', hj', rfl⟩ := get_map hz
    rw [List.getElem?_range (by omega)] at hj'
    cases hj'
    simp only [wipeD, List.set]
    walk_at "dd"
    refine p_mul ?_ ?_
    · have h1 : (0 + (i' : Int)).natAbs.log2 < 6 := by
        by_cases h0 : (0 + (i' : Int)).natAbs = 0
        · rw [h0]; decide
        · exact (Nat.log2_lt h0).mpr (by omega)
      have h2 : (sp : Int).natAbs.log2 < 6 := by
        by_cases h0 : (sp : Int).natAbs = 0
        · rw [h0]; decide
        · exact (Nat.log2_lt h0).mpr (by omega)
      omega
    walk_at "dd"
    refine p_mod (by decide) ?_
    have e : ((st : Int) + (0 + (i' : Int)) * (sp : Int)) % 26 = (((st + i' * sp) % 26 : Nat) : Int) := by
      rw [Int.zero_add]
      push_cast
      rfl
    rw [e]
    refine .str (c := 97 + (st + i' * sp) % 26) (atI_nat ?_) kk
    have hm := Nat.mod_lt (st + i' * sp) (show 0 < 26 by decide)
    have : (Str.ofString "abcdefghijklmnopqrstuvwxyz").cps.toList = List.range' 97 26 := by decide +kernel
    rw [this, List.getElem?_range' hm]
    simp
  have two : ∀ {x y : Int} {r : Nat}, (r : Int) < 2 → ∃ z : Int, (z = x ∨ z = y) ∧ ([D.int x, D.int y] : List D)[r]? = some (.int z) := by
    intro x y r h
    match r, h with
    | 0, _ => exact ⟨x, .inl rfl, rfl⟩
    | 1, _ => exact ⟨y, .inr rfl, rfl⟩
  walk_at "dd"
  refine p_take (.refl _) hp (by decide) (by decide) fun k a b k1 hp => ?_
  obtain ⟨z, hz, ez⟩ := two (x := 3) (y := 20) k1
  refine p_ix (j := k) (.tup _) rfl ez ?_
  walk_at "dd"
  refine p_take (.refl _) hp (by omega) (by omega) fun mm a b m1 hp => ?_
  walk_at "dd"
  refine .lst (.lst _) (.inl ?_)
  rw [show (1 : Int) + (mm : Int) = ((1 + mm : Nat) : Int) by omega, cut_to]
  walk_at "dd"
  refine p_take (.refl _) hp (by decide) (by decide) fun k a b k1 hp => ?_
  obtain ⟨z2, hz2, ez2⟩ := two (x := 2) (y := 6) k1
  refine p_ix (j := k) (.tup _) rfl ez2 ?_
  walk_at "dd"
  refine p_take (.refl _) hp (by omega) (by omega) fun nn a b n1 hp => ?_
  walk_at "dd"
  refine .lst (.lst _) (.inl ?_)
  have al := alphabet_len (st := st) (sp := sp)
  rw [show ((1 + mm : Nat) : Int) + 1 + (nn : Int) = ((1 + mm + (1 + nn) : Nat) : Int) by omega, cut_mid (by omega) (by rw [List.length_map, al]; omega), ← List.map_take, ← List.map_drop, ← List.map_take]
  rw [show 1 + mm + (1 + nn) - (1 + mm) = 1 + nn by omega]
  have nd := alphabet_nd hst hsp
  have on := alphabet_on (st := st) (sp := sp)
  generalize alphabet st sp = al0 at al nd on
  obtain ⟨cons, hcons⟩ : ∃ c, c = al0.take (1 + mm) := ⟨_, rfl⟩
  obtain ⟨vow, hvow⟩ : ∃ c, c = (al0.drop (1 + mm)).take (1 + nn) := ⟨_, rfl⟩
  have lc : cons.length = 1 + mm := by rw [hcons, List.length_take]; omega
  have lv : vow.length = 1 + nn := by rw [hvow, List.length_take, List.length_drop]; omega
  have oc : ∀ x ∈ cons, On x := fun x m => on x (by rw [hcons] at m; exact List.mem_of_mem_take m)
  have ov : ∀ x ∈ vow, On x := fun x m => on x (by rw [hvow] at m; exact List.mem_of_mem_drop (List.mem_of_mem_take m))
  have ndc : (cons ++ vow).Nodup := by
    have : (cons ++ vow).Sublist al0 := by
      have h := List.take_append_drop (1 + mm) al0
      rw [hcons, hvow]
      conv => rhs; rw [← h]
      exact (List.Sublist.refl _).append (List.take_sublist _ _)
    exact nd.sublist this
  rw [← hcons, ← hvow]
  walk_at "dd"
  refine .frz_lst ⟨fun i acc L2 => ∃ a b es, acc = es.map D.str ∧ es.Sublist (cons.take i) ∧ L2 = pot p a b :: F ∧ Pot a b, ⟨a, b, [], rfl, .slnil, rfl, hp⟩, ?_⟩
  rintro f i acc L2 ⟨a, b, es, rfl, hes, rfl, hp⟩
  refine ⟨trivial, fun hi => .inl ?_, fun d hd => ?_⟩
  · have hi : i = cons.length := by rw [hi, List.length_map]
    rw [hi, List.take_length] at hes
    have oe : ∀ x ∈ es, On x := fun x m => oc x (hes.subset m)
    have le := hes.length_le
    have sc : ∀ x ∈ cons, Ss x ∧ x.length ≤ 1 := fun x m => ⟨(oc x m).ss, by obtain ⟨c, _, _, rfl⟩ := oc x m; exact Nat.le_refl _⟩
    have sv : ∀ x ∈ vow, Ss x ∧ x.length ≤ 1 := fun x m => ⟨(ov x m).ss, by obtain ⟨c, _, _, rfl⟩ := ov x m; exact Nat.le_refl _⟩
    have se : ∀ x ∈ es, Ss x ∧ x.length ≤ 1 := fun x m => sc x (hes.subset m)
    have cn : cons ≠ [] := fun e => by rw [e, List.length_nil] at lc; omega
    walk_at "dd"
    refine ⟨rfl, _, .refl _, p, a, b, cons, cons, cons, F, rfl, rfl, hp, fun x m => ?_, fun x m => ?_, by omega, by omega, by omega, id, fun f0 a b mf hp => cl ?_⟩
    · rcases List.mem_append.mp m with m | m
      · exact (List.mem_append.mp m).elim (fun m => (sc x m).1) fun m => (sc x m).1
      · exact (sc x m).1
    · exact (List.mem_append.mp m).elim (fun m => (sc x m).2) fun m => (sc x m).2
    have mfl := mf.len
    walk_at "dd"
    refine ⟨rfl, _, .refl _, p, a, b, _, F, rfl, rfl, hp, by rw [List.length_map]; omega, fun f1 a b pf hp => cl ?_⟩
    obtain ⟨ff, rfl, pf2⟩ := perm_strs pf
    walk_at "dd"
    refine ⟨rfl, _, .refl _, p, a, b, vow, vow, vow, F, rfl, rfl, hp, fun x m => ?_, fun x m => ?_, by omega, by omega, by omega, id, fun m0 a b mm0 hp => cl ?_⟩
    · rcases List.mem_append.mp m with m | m
      · exact (List.mem_append.mp m).elim (fun m => (sv x m).1) fun m => (sv x m).1
      · exact (sv x m).1
    · exact (List.mem_append.mp m).elim (fun m => (sv x m).2) fun m => (sv x m).2
    have mml := mm0.len
    walk_at "dd"
    refine ⟨rfl, _, .refl _, p, a, b, _, F, rfl, rfl, hp, by rw [List.length_map]; omega, fun m1 a b pm hp => cl ?_⟩
    obtain ⟨mmm, rfl, pm2⟩ := perm_strs pm
    walk_at "dd"
    refine ⟨rfl, _, .refl _, p, a, b, es, es, cons, F, rfl, rfl, hp, fun x m => ?_, fun x m => ?_, by omega, by omega, by omega, fun _ => cn, fun l0 a b ml hp => cl ?_⟩
    · rcases List.mem_append.mp m with m | m
      · exact (List.mem_append.mp m).elim (fun m => (se x m).1) fun m => (se x m).1
      · exact (sc x m).1
    · exact (List.mem_append.mp m).elim (fun m => (se x m).2) fun m => (sc x m).2
    have mll := ml.len
    walk_at "dd"
    refine ⟨rfl, _, .refl _, p, a, b, _, F, rfl, rfl, hp, by rw [List.length_map]; omega, fun l1 a b pl hp => cl ?_⟩
    obtain ⟨lll, rfl, pl2⟩ := perm_strs pl
    walk_at "dd"
    refine p_pow (by decide) ?_
    walk_at "dd"
    refine p_take (.refl _) hp (by decide) (by decide) fun k a b k1 hp => ?_
    obtain ⟨z3, hz3, ez3⟩ := two (x := 5) (y := 10 ^ Int.toNat 59) k1
    refine p_ix (j := k) (.tup _) rfl ez3 ?_
    walk_at "dd"
    have hz4 : 0 < z3 ∧ z3.natAbs < 2 ^ 200 := by
      rcases hz3 with rfl | rfl
      · exact ⟨by decide, by decide⟩
      · exact ⟨by decide, by decide⟩
    refine p_take (.refl _) hp hz4.1 hz4.2 fun base a b base1 hp => ?_
    walk_at "dd"
    intro x
    refine ⟨rfl, _, .refl _, ⟨ff, mmm, lll, base⟩, x, _, rfl, rfl, ?_, cl ⟨rfl, cl ?_⟩⟩
    · exact scr_ok oc ov ndc (by omega) (by omega) (by omega) (by omega) hes pf2 pm2 pl2 mf mm0 ml (by omega)
    · exact uq _ _ _ _ .ins (q _ _ _ (scr_ok oc ov ndc (by omega) (by omega) (by omega) (by omega) hes pf2 pm2 pl2 mf mm0 ml (by omega)) hp)
  · obtain ⟨z, hz, rfl⟩ := get_map hd
    simp only [wipeD, List.set]
    walk_at "dd"
    refine p_take (by walk_at "pm") hp (by decide) (by decide) fun r a b r1 hp => ?_
    walk_at "dd"
    have hcut := take_next hz
    by_cases h : (0 : Int) < r
    · rw [if_pos (decide_eq_true h)]
      walk_at "dd"
      refine ⟨_, .perm (.swap _ _ _), a, b, es ++ [z], by rw [List.map_append]; rfl, ?_, rfl, hp⟩
      rw [hcut]
      exact hes.append (.refl _)
    · rw [if_neg (by rw [decide_eq_false h]; decide)]
      refine ⟨_, .perm (.swap _ _ _), a, b, es, rfl, ?_, rfl, hp⟩
      rw [hcut]
      exact hes.trans (List.sublist_append_left _ _)
end
section
set_option Elab.async false
set_option linter.all false
set_option maxRecDepth 100000
open PySem L2
local macro_rules | `(tactic| walk_at "tym") => `(tactic| first | assumption | with_reducible exact .str _ | exact .lst (by walk_at "isl"))
theorem Str.ext' {x y : Str} (h : x.cps.toList = y.cps.toList) : x = y := by
  obtain ⟨⟨a⟩⟩ := x
  obtain ⟨⟨b⟩⟩ := y
  have h : a = b := h
  rw [h]
theorem Pt.two {x : Str} (h : Pt x) : (∃ c, 97 ≤ c ∧ c ≤ 122 ∧ x = one c) ∨ ∃ c d, 97 ≤ c ∧ c ≤ 122 ∧ 97 ≤ d ∧ d ≤ 122 ∧ x = one c ++ one d := by
  obtain ⟨h1, h2, h3⟩ := h
  match e : x.cps.toList, h1, h2 with
  | [], h1, _ => exact absurd rfl h1
  | [c], _, _ =>
    have := h3 c (by rw [e]; exact .head _)
    exact .inl ⟨c, this.1, this.2, Str.ext' e⟩
  | [c, d], _, _ =>
    have a := h3 c (by rw [e]; exact .head _)
    have b := h3 d (by rw [e]; exact .tail _ (.head _))
    exact .inr ⟨c, d, a.1, a.2, b.1, b.2, Str.ext' e⟩
  | _ :: _ :: _ :: _, _, h2 => exact absurd h2 (by simp)
abbrev bar : Str := "|"
def uw : Un → Str
  | .n => ""
  | .p x => x
  | .b f m l => f ++ (m ++ l)
def IsU (s : Scr) (u : Un) : Prop := (∃ x ∈ s.f, u = .p x) ∨ (∃ x ∈ s.m, u = .p x) ∨ ∃ f ∈ s.f, ∃ m ∈ s.m, ∃ l : Str, (l = ("" : Str) ∨ l ∈ s.l) ∧ u = .b f m l
section
variable {s : Scr} (ok : s.Ok) {us : List Un} {h : Un} {k : Str}
theorem not_bar {c : Nat} (h1 : 97 ≤ c) (h2 : c ≤ 122) : one c ≠ "|" := fun e => by
  have e2 : [c] = ("|" : Str).cps.toList := congrArg (fun x : Str => x.cps.toList) e
  rw [show ("|" : Str).cps.toList = [124] by decide +kernel] at e2
  injection e2 with e2
  omega
include ok
theorem nb {k : Str} {xs : List Str} (hx : ∀ x ∈ xs, Pt x) (h : k ∈ lin xs) : k ≠ "|" := by
  obtain ⟨x, m, hz⟩ := mem_lin.mp h
  obtain ⟨c, hc, rfl⟩ := mem_chs hz
  have := (hx x m).2.2 c hc
  exact not_bar this.1 this.2
theorem unit_ok {u : Un} (hu : IsU s u) : u.Ok ∧ u ≠ .n ∧ (uw u).length ≤ 6 := by
  rcases hu with ⟨x, hx, rfl⟩ | ⟨x, hx, rfl⟩ | ⟨f, hf, m, hm, l, hl, rfl⟩
  · exact ⟨(ok.pf x hx).ss, (by intro e; cases e), Nat.le_trans (ok.pf x hx).len (by decide)⟩
  · exact ⟨(ok.pm x hx).ss, (by intro e; cases e), Nat.le_trans (ok.pm x hx).len (by decide)⟩
  · have hl2 : Ss l := by
      rcases hl with rfl | hl
      · exact ss_nil
      · exact (ok.pl l hl).ss
    refine ⟨⟨(ok.pf f hf).ss, (ok.pm m hm).ss, hl2⟩, (by intro e; cases e), ?_⟩
    show (f ++ (m ++ l)).length ≤ 6
    rw [len_app, len_app]
    have := (ok.pf f hf).len
    have := (ok.pm m hm).len
    have := hl2.2
    omega
end
/-- units with stops behind -/
def flat (us : List Un) : List Str := us.flatMap fun u => chs (uw u) ++ [bar]
end
local macro_rules | `(tactic| walk_at "tym") => `(tactic| first | assumption | exact .str _ | exact .lst (by walk_at "isl"))
section
set_option Elab.async false
set_option linter.all false
set_option maxRecDepth 100000
open PySem L2
def sp_unit : DSp := fun ds L Q E => ∃ (s : Scr) (p : Addr) (a b : Int) (F : HL), ds = [.ref p, s.d] ∧ L = pot p a b :: F ∧ Pot a b ∧ s.Ok ∧ ∀ (u : Un) a' b', IsU s u → Pot a' b' → Q u.d (pot p a' b' :: F)
theorem vc_unit {C : Ct} (hc : C.fn 36 2 = some (2, permS sp_take, [])) (e1 : C.fn 20 0 = some (1, permS (getter fun s => sts s.f), [])) (e2 : C.fn 21 0 = some (1, permS (getter fun s => sts s.m), [])) (e3 : C.fn 22 0 = some (1, permS (getter fun s => sts s.l), [])) : VC 6 2 sp_unit (wpSs C ir__law_unit_9f265eb2) := by
  rintro ds L Q E hl uq ue ⟨s, p, a, b, F, rfl, rfl, hp, ok, q⟩
  have := ok.f1
  have := ok.m1
  have := ok.f40
  have := ok.m40
  have := ok.l40
  unfold ir__law_unit_9f265eb2
  walk_at "go"
  refine p_take (.refl _) hp (by decide) (by decide) fun way a b w1 hp => ?_
  walk_at "dd"
  refine ⟨rfl, _, .refl _, s, rfl, cl ?_⟩
  walk_at "dd"
  refine ⟨rfl, _, .refl _, s, rfl, cl ?_⟩
  walk_at "dd"
  refine p_take (.refl _) hp (by omega) (by omega) fun i a b i1 hp => ?_
  have hi : i < s.f.length := by omega
  refine p_ix (j := i) (.lst (.lst _)) rfl (d := .str s.f[i]) (by rw [List.getElem?_map, List.getElem?_eq_getElem hi]; rfl) ?_
  have mi : s.f[i] ∈ s.f := List.getElem_mem hi
  walk_at "dd"
  refine ⟨rfl, _, .refl _, s, rfl, cl ?_⟩
  walk_at "dd"
  refine ⟨rfl, _, .refl _, s, rfl, cl ?_⟩
  walk_at "dd"
  refine p_take (.refl _) hp (by omega) (by omega) fun j a b j1 hp => ?_
  have hj : j < s.m.length := by omega
  refine p_ix (j := j) (.lst (.lst _)) rfl (d := .str s.m[j]) (by rw [List.getElem?_map, List.getElem?_eq_getElem hj]; rfl) ?_
  have mj : s.m[j] ∈ s.m := List.getElem_mem hj
  walk_at "dd"
  refine .inl ?_
  walk_at "dd"
  refine ⟨rfl, _, .refl _, s, rfl, cl ?_⟩
  refine p_ladd (.lst _) (.lst _) (szl2 (by simp only [List.length_map, List.length_cons, List.length_nil]; omega)) ?_
  walk_at "dd"
  refine c_d (fun h => ?_) (fun h => ?_) <;> walk_at "dd"
  · exact q (.p s.f[i]) _ _ (.inl ⟨_, mi, rfl⟩) hp
  refine c_d (fun h => ?_) (fun h => ?_) <;> walk_at "dd"
  · exact q (.p s.m[j]) _ _ (.inr (.inl ⟨_, mj, rfl⟩)) hp
  have e : (.str "" :: s.l.map D.str : List D) = (("" : Str) :: s.l).map D.str := rfl
  refine p_take (.refl _) hp (by rw [e, List.length_map, List.length_cons]; omega) (by rw [e, List.length_map, List.length_cons]; omega) fun k a b k1 hp => ?_
  rw [e, List.length_map] at k1
  have hk : k < (("" : Str) :: s.l).length := by omega
  refine p_ix (j := k) (.lst (.lst _)) rfl (d := .str ((("" : Str) :: s.l)[k])) (by rw [e, List.getElem?_map, List.getElem?_eq_getElem hk]; rfl) ?_
  have mk : (("" : Str) :: s.l)[k] ∈ ("" : Str) :: s.l := List.getElem_mem hk
  walk_at "dd"
  exact q (.b s.f[i] s.m[j] _) _ _ (.inr (.inr ⟨_, mi, _, mj, _, List.mem_cons.mp mk, rfl⟩)) hp
end
local macro_rules | `(tactic| walk_at "d") => `(tactic| first | (with_reducible first | (refine s_nil ?_; dsimp only) | (refine e_lit ?_; dsimp only [Lt.d]) | (refine a_nil ?_; try dsimp only [List.nil_append, List.cons_append, List.append_nil]) | (refine kV ?_; first | refine e_v0 ?_ | refine e_v1 ?_ | refine e_v2 ?_ | refine e_v3 ?_ | refine e_v4 ?_ | refine e_v5 ?_ | refine e_v6 ?_ | refine e_v7 ?_ | refine e_v8 ?_ | refine e_v9 ?_ | refine e_v10 ?_ | refine e_v11 ?_ | refine e_v12 ?_ | refine e_v13 ?_ | refine e_v14 ?_ | refine e_v15 ?_ | refine e_v16 ?_ | refine e_v17 ?_ | refine e_v18 ?_ | refine e_v19 ?_ | refine e_v20 ?_ | refine e_v21 ?_ | refine e_v22 ?_ | refine e_v23 ?_ | refine e_v24 ?_ | refine e_v25 ?_) | (refine kM ?_; first | refine e_meth0 (by assumption) (by decide) ?_ | refine e_meth1 (by assumption) (by decide) ?_ | refine e_meth2 (by assumption) (by decide) ?_ | refine e_meth3 (by assumption) (by decide) ?_ | refine e_meth4 (by assumption) (by decide) ?_ | refine e_meth5 (by assumption) (by decide) ?_) | (refine kE ?_; first | refine e_bin ?_ | refine e_cmp ?_ | refine e_call0 (by assumption) ?_ | refine e_call1 (by assumption) ?_ | refine e_call2 (by assumption) ?_ | refine e_call3 (by assumption) ?_ | refine e_call4 (by assumption) ?_ | refine e_call5 (by assumption) ?_ | refine e_call6 (by assumption) ?_ | refine e_call7 (by assumption) ?_ | refine e_blt ?_ | refine e_idx ?_ | refine e_fld ?_ | refine e_glb (by assumption) ?_ | refine e_tup ?_ | refine e_lst ?_ | refine e_mth ?_ | refine e_ty ?_ | refine e_not ?_ | refine e_bool1 ?_ | refine e_and ?_ | refine e_or ?_ | refine e_ite ?_ | refine e_slc ?_ | refine e_get ?_ | refine e_neg ?_ | refine e_lens ?_ | refine e_lrev ?_ | refine e_lrng ?_ | refine e_rvs ?_ | refine e_lc ?_ | refine e_lcp ?_ | refine e_or2 ?_ | refine e_make0 (by assumption) ?_ | refine e_make1 (by assumption) ?_ | refine e_make2 (by assumption) ?_ | refine e_make3 (by assumption) ?_ | refine e_make4 (by assumption) ?_ | refine e_make5 (by assumption) ?_ | refine e_make6 (by assumption) ?_ | refine e_make7 (by assumption) ?_) | (refine kN ?_; first | refine s_n0 ?_ | refine s_n1 ?_ | refine s_n2 ?_ | refine s_n3 ?_ | refine s_n4 ?_ | refine s_n5 ?_ | refine s_n6 ?_ | refine s_n7 ?_ | refine s_n8 ?_ | refine s_n9 ?_ | refine s_n10 ?_ | refine s_n11 ?_ | refine s_n12 ?_ | refine s_n13 ?_ | refine s_n14 ?_ | refine s_n15 ?_ | refine s_n16 ?_ | refine s_n17 ?_ | refine s_n18 ?_ | refine s_n19 ?_ | refine s_n20 ?_ | refine s_n21 ?_ | refine s_n22 ?_ | refine s_n23 ?_ | refine s_n24 ?_ | refine s_n25 ?_) | (refine kS ?_; first | refine s_if ?_ | refine s_ret ?_ | refine s_drop ?_ | refine s_asg ?_ | refine s_for ?_ | refine s_fld ?_ | refine s_pass ?_ | refine s_forE ?_ | refine s_while ?_ | refine s_raise (by assumption) ?_) | (refine kA ?_; first | refine a_cons ?_) | (refine kT ?_; first | refine t_val ?_ | refine t_cmp ?_ | refine t_not ?_ | refine t_one ?_ | refine t_and ?_ | refine t_or ?_ | refine t_yes ?_) | (refine kG ?_; first | refine g_n0 ?_ | refine g_n1 ?_ | refine g_n2 ?_ | refine g_n3 ?_ | refine g_n4 ?_ | refine g_n5 ?_ | refine g_n6 ?_ | refine g_n7 ?_ | refine g_n8 ?_ | refine g_n9 ?_ | refine g_n10 ?_ | refine g_n11 ?_ | refine g_n12 ?_ | refine g_n13 ?_ | refine g_n14 ?_ | refine g_n15 ?_ | refine g_n16 ?_ | refine g_n17 ?_ | refine g_n18 ?_ | refine g_n19 ?_ | refine g_n20 ?_ | refine g_n21 ?_ | refine g_n22 ?_ | refine g_n23 ?_ | refine g_n24 ?_ | refine g_n25 ?_ | refine g_sub ?_ | refine g_tup ?_ | refine g_fld ?_) | (refine kGs ?_; first | refine gs_cons ?_ | refine gs_nil ?_) | (refine kI ?_; first | refine i_of_ ?_ | refine i_rng_ ?_) | (refine kO ?_; first | refine o_none ?_ | refine o_some ?_) | (refine kBo ?_; first | refine p_add ?_ | refine p_sub ?_) | (refine kCo ?_; first | refine p_lt ?_ | refine p_le ?_ | refine p_gt ?_ | refine p_ge ?_ | refine p_eqi ?_ | refine p_nei ?_ | refine p_is ?_ | refine p_isnt ?_) | refine p_neg ?_ | refine m_ex ?_ | refine m_ref ?_ | refine c_t ?_ | refine c_f ?_ | refine c_nt ?_ | refine c_nf ?_) | ((with_reducible refine kBf ?_); first | (with_reducible first | refine p_lens ?_ | refine p_max ?_ | refine p_min ?_ | refine p_abs ?_ | refine p_tup ?_) | walk_at "isi" | (refine p_len (by walk_at "iss") ?_; try simp only [List.length_map])) | ((with_reducible refine k_isi ?_); refine' m_isi (by walk_at "isi_") (by walk_at "lk") ?_) | ((with_reducible refine k_fld ?_); refine' m_fld (by walk_at "isi_") (by assumption) (by walk_at "lk") ?_) | ((with_reducible refine k_set ?_); refine' m_set (by walk_at "sp") (by assumption) (by walk_at "pd") rfl ?_; try dsimp only [List.nil_append, List.cons_append]) | ((with_reducible refine k_sz ?_); refine m_sz rfl ?_) | ((with_reducible refine k_tym ?_); refine m_tym (by walk_at "tym") ?_))
section
set_option Elab.async false
set_option linter.all false
set_option maxRecDepth 100000
open PySem L2
section
end
section
end
section
end
end
section
set_option Elab.async false
open PySem L2
end
section
set_option Elab.async false
open PySem L2
end
section
set_option Elab.async false
open PySem L2
end
section
set_option Elab.async false
open PySem L2
end
section
set_option Elab.async false
open PySem L2
end
section
set_option Elab.async false
open PySem L2
end
section
set_option Elab.async false
open PySem L2
def ir_is_block : Stms :=
  (.cons (.ret (.meth "Script" "has_block" 29 (.var 0) (.cons (.var 1) .nil)))
  .nil)
def ir_is_loose : Stms :=
  (.cons (.ret (.bool false (.cons (.meth "Script" "is_first" 26 (.var 0) (.cons (.var 1) .nil)) (.cons (.meth "Script" "is_middle" 27 (.var 0) (.cons (.var 1) .nil)) .nil))))
  .nil)
def ir_is_unit : Stms :=
  (.cons (.ret (.bool false (.cons (.call "is_loose" 65 (.cons (.var 0) (.cons (.var 1) .nil))) (.cons (.call "is_block" 64 (.cons (.var 0) (.cons (.var 1) .nil))) .nil))))
  .nil)
def ir_looked_over : Stms :=
  (.cons (.ite (.bool false (.cons (.not_ (.val (.blt .isi (.cons (.var 1) (.cons (.tup (.cons (.ty "list") (.cons (.ty "tuple") .nil))) .nil))))) (.cons (.not_ (.val (.blt .all (.cons (.lc (.of (.var 1)) 2 (.yes) (.call "is_unit" 66 (.cons (.var 0) (.cons (.var 2) .nil)))) .nil)))) .nil)))
    (.cons (.raise "NoPiece")
    .nil)
    .nil)
  (.cons (.ret (.lc (.of (.var 1)) 2 (.yes) (.call "unit_told" 1 (.cons (.var 2) .nil))))
  .nil))
end
section
set_option Elab.async false
set_option linter.all false
set_option maxRecDepth 100000
open PySem L2
abbrev ExN (E : DX → HL → Prop) (x : Str) (L : HL) : Prop := ∀ L', L'.Perm L → E (x, none) L'
theorem c_nb {b : Bool} {p q : Prop} (h1 : b = false → p) (h2 : b = true → q) : cond (!b) p q := by
  cases b
  · exact h1 rfl
  · exact h2 rfl
theorem okq_up {n m : Nat} (hm : n ≤ m) {d : D} (h : okq n d = true) : okq m d = true := by
  induction n generalizing m d with
  | zero => cases d <;> (unfold okq at h ⊢) <;> first | rfl | exact h | cases h
  | succ n ih =>
    obtain ⟨m, rfl⟩ : ∃ k, m = k + 1 := ⟨m - 1, by omega⟩
    cases d <;> (unfold okq at h ⊢) <;> first | rfl | exact h | (exact okqs_iff.mpr fun d hd => ih (Nat.le_of_succ_le_succ hm) (okqs_iff.mp h d hd)) | cases h
theorem blk3_len {s : Scr} : ∀ {es : List D}, es.length ≠ 3 → blk3 s es = false
  | [], _ => rfl
  | [_], _ => rfl
  | [_, _], _ => rfl
  | [_, _, _], h => (h rfl).elim
  | _ :: _ :: _ :: _ :: _, _ => rfl
theorem three_of : ∀ {es : List D}, es.length = 3 → ∃ a b c, es = [a, b, c]
  | [a, b, c], _ => ⟨a, b, c, rfl⟩
  | [], h => by cases h
  | [_], h => by cases h
  | [_, _], h => by cases h
  | _ :: _ :: _ :: _ :: _, h => by simp at h
theorem nilD_of {b : Bool} {c : D} (h : b = true ↔ c = .str "") : b = nilD c := by
  cases c with
  | str x =>
    show b = decide (x = "")
    exact bl_dec (h.trans ⟨fun e => by cases e; rfl, fun e => e ▸ rfl⟩)
  | _ =>
    cases b
    · rfl
    · exact absurd (h.mp rfl) (by intro e; cases e)
def sp_has_block2 : DSp := fun ds L Q E => ∃ (s : Scr) (d : D), ds = [s.d, d] ∧ s.Ok ∧ okq 8 d = true ∧ Q (.bl (blkD s d)) L
theorem vc_has_block2 {C : Ct} (e1 : C.fn 26 1 = some (2, permS (isIn (·.f)), [])) (e2 : C.fn 27 1 = some (2, permS (isIn (·.m)), [])) (e3 : C.fn 28 1 = some (2, permS (isIn (·.l)), [])) : VC 2 2 sp_has_block2 (wpSs C ir_Script_has_block) := by
  rintro ds L Q E hl uq ue ⟨s, d, rfl, ok, od, q⟩
  unfold ir_Script_has_block
  rcases kind_of od with ⟨x, rfl⟩ | ⟨es, rfl⟩ | ⟨es, rfl⟩ | ⟨T, hT, h1, h2, h3, h4, h5⟩
  · walk_at "go"
    exact q
  rotate_left 2
  · walk_at "go"
    refine p_isi2 (.of hT) (by decide) ?_
    rw [h2, h3]
    walk_at "dd"
    rw [h5] at q
    exact q
  all_goals
    have oe : ∀ e ∈ es, okq 7 e = true := by
      unfold okq at od
      exact okqs_iff.mp od
    walk_at "go"
    refine c_d (fun h3 => ?_) (fun h3 => ?_)
    · walk_at "dd"
      have q : Q (.bl (blk3 s es)) L := q
      rw [blk3_len (by omega)] at q
      exact q
    obtain ⟨a, b, c, rfl⟩ := three_of (by omega : es.length = 3)
    have oa := okq_up (by decide : 7 ≤ 8) (oe a (by simp))
    have ob := okq_up (by decide : 7 ≤ 8) (oe b (by simp))
    have oc := okq_up (by decide : 7 ≤ 8) (oe c (by simp))
    have q : Q (.bl (inD s.f a && (inD s.m b && (nilD c || inD s.l c)))) L := q
    walk_at "dd"
    refine p_ix (j := 0) (by walk_at "iss") rfl (d := a) rfl ?_
    walk_at "dd"
    refine ⟨rfl, _, .refl _, s, a, rfl, ok, oa, cl ?_⟩
    walk_at "dd"
    refine c_nb (fun ha => ?_) (fun ha => ?_)
    · walk_at "dd"
      rw [ha] at q
      exact q
    rw [ha] at q
    walk_at "dd"
    refine p_ix (j := 1) (by walk_at "iss") rfl (d := b) rfl ?_
    walk_at "dd"
    refine ⟨rfl, _, .refl _, s, b, rfl, ok, ob, cl ?_⟩
    walk_at "dd"
    refine c_nb (fun hb => ?_) (fun hb => ?_)
    · walk_at "dd"
      rw [hb] at q
      exact q
    rw [hb] at q
    walk_at "dd"
    refine p_ix (j := 2) (by walk_at "iss") rfl (d := c) rfl ?_
    walk_at "dd"
    refine p_eq (.same _) (.same _) oc (by decide +kernel) fun b0 h0 => ?_
    rw [nilD_of h0]
    walk_at "dd"
    refine c_b (fun hc => ?_) (fun hc => ?_)
    · rw [hc] at q
      exact q
    rw [hc] at q
    walk_at "dd"
    refine p_ix (j := 2) (by walk_at "iss") rfl (d := c) rfl ?_
    walk_at "dd"
    exact ⟨rfl, _, .refl _, s, c, rfl, ok, oc, cl q⟩
theorem vc_is_block2 {C : Ct} (e1 : C.fn 29 1 = some (2, permS sp_has_block2, [])) : VC 2 2 sp_has_block2 (wpSs C ir_is_block) := by
  rintro ds L Q E hl uq ue ⟨s, d, rfl, ok, od, q⟩
  unfold ir_is_block
  walk_at "go"
  exact ⟨rfl, _, .refl _, s, d, rfl, ok, od, cl q⟩
def sp_is_loose2 : DSp := fun ds L Q E => ∃ (s : Scr) (d : D), ds = [s.d, d] ∧ s.Ok ∧ okq 8 d = true ∧ Q (.bl (looD s d)) L
theorem vc_is_loose2 {C : Ct} (e1 : C.fn 26 1 = some (2, permS (isIn (·.f)), [])) (e2 : C.fn 27 1 = some (2, permS (isIn (·.m)), [])) : VC 2 2 sp_is_loose2 (wpSs C ir_is_loose) := by
  rintro ds L Q E hl uq ue ⟨s, d, rfl, ok, od, q⟩
  unfold looD at q
  unfold ir_is_loose
  walk_at "go"
  refine ⟨rfl, _, .refl _, s, d, rfl, ok, od, cl ?_⟩
  walk_at "dd"
  refine c_b (fun hc => ?_) (fun hc => ?_)
  · rw [hc] at q
    exact q
  rw [hc] at q
  walk_at "dd"
  exact ⟨rfl, _, .refl _, s, d, rfl, ok, od, cl q⟩
def sp_is_unit2 : DSp := fun ds L Q E => ∃ (s : Scr) (d : D), ds = [s.d, d] ∧ s.Ok ∧ okq 8 d = true ∧ Q (.bl (unitD s d)) L
theorem vc_is_unit2 {C : Ct} (e1 : C.fn 65 2 = some (2, permS sp_is_loose2, [])) (e2 : C.fn 64 2 = some (2, permS sp_has_block2, [])) : VC 2 2 sp_is_unit2 (wpSs C ir_is_unit) := by
  rintro ds L Q E hl uq ue ⟨s, d, rfl, ok, od, q⟩
  unfold unitD at q
  unfold ir_is_unit
  walk_at "go"
  refine ⟨rfl, _, .refl _, s, d, rfl, ok, od, cl ?_⟩
  walk_at "dd"
  refine c_b (fun hc => ?_) (fun hc => ?_)
  · rw [hc] at q
    exact q
  rw [hc] at q
  walk_at "dd"
  exact ⟨rfl, _, .refl _, s, d, rfl, ok, od, cl q⟩
/-- a list or tuple of plain data, as it is looked over -/
inductive PcV (L : HL) : D → List D → Prop
  | tup (ds : List D) : PcV L (.tup ds) ds
  | lst (ds : List D) : PcV L (.lst ds) ds
  | own {p : Addr} {ds : List D} : (p, Ch.lst ds) ∈ L → PcV L (.ref p) ds
theorem PcV.mono {L L' : HL} {x : D} {ds : List D} (h : PcV L x ds) (hm : ∀ e ∈ L, e ∈ L') : PcV L' x ds := by
  cases h with
  | tup => exact .tup _
  | lst => exact .lst _
  | own m => exact .own (hm _ m)
theorem unit_kind {s : Scr} {d : D} (h : unitD s d = true) : (∃ x, d = .str x) ∨ (∃ es, d = .tup es) ∨ ∃ es, d = .lst es := by
  cases d with
  | str x => exact .inl ⟨x, rfl⟩
  | tup ds => exact .inr (.inl ⟨ds, rfl⟩)
  | lst ds => exact .inr (.inr ⟨ds, rfl⟩)
  | _ => cases h
theorem told_blk {s : Scr} {d : D} : unitD s (toldD d) = unitD s d := by cases d <;> rfl
def sp_looked : DSp := fun ds L Q E => ∃ (s : Scr) (x : D), ds = [s.d, x] ∧ s.Ok ∧
  ((∃ es, PcV L x es ∧ es.length ≤ 50000 ∧ (∀ e ∈ es, okq 7 e = true) ∧ ((es.all (unitD s) = true ∧ RetL (es.map toldD) L Q) ∨ (es.all (unitD s) = false ∧ ∀ L', L'.Perm L → E ("NoPiece", none) L'))) ∨
   ∃ T, TyD L x T ∧ subB T "list" = false ∧ subB T "tuple" = false ∧ ∀ L', L'.Perm L → E ("NoPiece", none) L')
theorem vc_looked {C : Ct} (hx : ("NoPiece" : Str) ∈ C.exn) (e1 : C.fn 66 2 = some (2, permS sp_is_unit2, [])) (e2 : C.fn 1 1 = some (1, permS sp_unit_told, [])) : VC 3 2 sp_looked (wpSs C ir_looked_over) := by
  rintro ds L Q E hl uq ue ⟨s, x, rfl, ok, ⟨es, pv, hl5, oe, q⟩ | ⟨T, hT, h1, h2, q⟩⟩
  rotate_left
  · unfold ir_looked_over
    walk_at "go"
    refine p_isi2 hT (by decide) ?_
    rw [h1, h2, show (false || false) = false from rfl]
    walk_at "dd"
    exact q _ (.refl _)
  unfold ir_looked_over
  cases pv
  case own p m =>
    walk_at "go"
    refine .own m (lc_map (es.map fun d => .bl (unitD s d)) (fun _ _ => .tail _ m) (by rw [List.length_map]) (fun p acc i d y K hd hy k => ?_) (.inl ?_))
    · obtain ⟨d', hd', rfl⟩ := get_map hy
      obtain rfl : d' = d := Option.some.inj (hd'.symm.trans hd)
      simp only [wipeD, List.set]
      walk_at "dd"
      exact ⟨rfl, _, .refl _, s, d', rfl, ok, okq_up (by decide) (oe d' (List.mem_of_getElem? hd)), cl k⟩
    walk_at "dd"
    refine p_allf (.lst _) ?_
    rcases q with ⟨ha, q⟩ | ⟨ha, q⟩
    · rw [ha]
      walk_at "dd"
      refine .own m (lc_map (es.map toldD) (fun _ _ => .tail _ m) (by rw [List.length_map]) (fun p acc i d y K hd hy k => ?_) q)
      obtain ⟨d', hd', rfl⟩ := get_map hy
      obtain rfl : d' = d := Option.some.inj (hd'.symm.trans hd)
      simp only [wipeD, List.set]
      walk_at "dd"
      exact ⟨rfl, _, .refl _, d', rfl, unit_kind (List.all_eq_true.mp ha d' (List.mem_of_getElem? hd)), cl k⟩
    · rw [ha]
      walk_at "dd"
      exact q _ (.refl _)
  case lst =>
    walk_at "go"
    refine .frz_lst (lc_map (es.map fun d => .bl (unitD s d)) (fun _ _ => trivial) (by rw [List.length_map]) (fun p acc i d y K hd hy k => ?_) (.inl ?_))
    · obtain ⟨d', hd', rfl⟩ := get_map hy
      obtain rfl : d' = d := Option.some.inj (hd'.symm.trans hd)
      simp only [wipeD, List.set]
      walk_at "dd"
      exact ⟨rfl, _, .refl _, s, d', rfl, ok, okq_up (by decide) (oe d' (List.mem_of_getElem? hd)), cl k⟩
    walk_at "dd"
    refine p_allf (.lst _) ?_
    rcases q with ⟨ha, q⟩ | ⟨ha, q⟩
    · rw [ha]
      walk_at "dd"
      refine .frz_lst (lc_map (es.map toldD) (fun _ _ => trivial) (by rw [List.length_map]) (fun p acc i d y K hd hy k => ?_) q)
      obtain ⟨d', hd', rfl⟩ := get_map hy
      obtain rfl : d' = d := Option.some.inj (hd'.symm.trans hd)
      simp only [wipeD, List.set]
      walk_at "dd"
      exact ⟨rfl, _, .refl _, d', rfl, unit_kind (List.all_eq_true.mp ha d' (List.mem_of_getElem? hd)), cl k⟩
    · rw [ha]
      walk_at "dd"
      exact q _ (.refl _)
  case tup =>
    walk_at "go"
    refine .tup (lc_map (es.map fun d => .bl (unitD s d)) (fun _ _ => trivial) (by rw [List.length_map]) (fun p acc i d y K hd hy k => ?_) (.inl ?_))
    · obtain ⟨d', hd', rfl⟩ := get_map hy
      obtain rfl : d' = d := Option.some.inj (hd'.symm.trans hd)
      simp only [wipeD, List.set]
      walk_at "dd"
      exact ⟨rfl, _, .refl _, s, d', rfl, ok, okq_up (by decide) (oe d' (List.mem_of_getElem? hd)), cl k⟩
    walk_at "dd"
    refine p_allf (.lst _) ?_
    rcases q with ⟨ha, q⟩ | ⟨ha, q⟩
    · rw [ha]
      walk_at "dd"
      refine .tup (lc_map (es.map toldD) (fun _ _ => trivial) (by rw [List.length_map]) (fun p acc i d y K hd hy k => ?_) q)
      obtain ⟨d', hd', rfl⟩ := get_map hy
      obtain rfl : d' = d := Option.some.inj (hd'.symm.trans hd)
      simp only [wipeD, List.set]
      walk_at "dd"
      exact ⟨rfl, _, .refl _, d', rfl, unit_kind (List.all_eq_true.mp ha d' (List.mem_of_getElem? hd)), cl k⟩
    · rw [ha]
      walk_at "dd"
      exact q _ (.refl _)
end
section
set_option Elab.async false
set_option linter.all false
set_option maxRecDepth 100000
open PySem L2
end
section
set_option Elab.async false
set_option linter.all false
set_option maxRecDepth 100000
open PySem L2
def On1 (x : Str) : Prop := ∃ c, x = one c ∧ PyData.strOk x = true
theorem On1.ss {x : Str} (h : On1 x) : Ss x := ⟨h.choose_spec.2, by obtain ⟨c, rfl, _⟩ := h; show 1 ≤ 2; decide⟩
end
section
set_option Elab.async false
set_option linter.all false
set_option maxRecDepth 100000
open PySem L2
end
section
set_option Elab.async false
set_option linter.all false
set_option maxRecDepth 100000
open PySem L2
section
end
end
section
set_option Elab.async false
set_option linter.all false
set_option maxRecDepth 100000
open PySem L2
end
section
set_option Elab.async false
set_option linter.all false
set_option maxRecDepth 100000
open PySem L2
end
section
set_option Elab.async false
set_option linter.all false
set_option maxRecDepth 100000
open PySem L2
section
variable {s : Scr} (ok : s.Ok)
include ok
theorem isU_D {u : Un} (hu : IsU s u) : unitD s u.d = true := by
  rcases hu with ⟨x, hx, rfl⟩ | ⟨x, hx, rfl⟩ | ⟨f, hf, m, hm, l, hl, rfl⟩
  · show ((decide (x ∈ s.f) || _) || _) = true
    rw [decide_eq_true hx]
    rfl
  · show ((_ || decide (x ∈ s.m)) || _) = true
    rw [decide_eq_true hx]
    simp
  · show (false || (decide (f ∈ s.f) && (decide (m ∈ s.m) && (decide (l = "") || decide (l ∈ s.l))))) = true
    rw [decide_eq_true hf, decide_eq_true hm]
    rcases hl with rfl | hl
    · rfl
    · rw [decide_eq_true hl]
      simp
theorem all_D {es : List D} {us : List Un} (he : es.map toldD = us.map Un.d) (hu : ∀ u ∈ us, IsU s u) : es.all (unitD s) = true := by
  refine List.all_eq_true.mpr fun e he1 => ?_
  have : toldD e ∈ us.map Un.d := he ▸ List.mem_map_of_mem he1
  obtain ⟨u, m, e2⟩ := List.mem_map.mp this
  rw [← told_blk, ← e2]
  exact isU_D ok (hu u m)
end
end
section
set_option Elab.async false
open PySem L2
end
section
set_option Elab.async false
set_option linter.all false
set_option maxRecDepth 100000
open PySem L2
section
end
end
section
set_option Elab.async false
set_option linter.all false
set_option maxRecDepth 100000
open PySem L2
structure Mo2 (parts ones others ys : List Str) : Prop where
  ex : ∃ zs, ys = parts ++ zs ∧ ∀ z ∈ zs, ∃ a ∈ ones, ∃ b ∈ others, z = a ++ b
  nd : ys.Nodup
  le : ys.length ≤ 40
section
variable {xs as bs cs : List Str}
theorem Mo2.pt (h : Mo2 xs as bs cs) (hx : ∀ x ∈ xs, On x) (ha : ∀ x ∈ as, On x) (hb : ∀ x ∈ bs, On x) : ∀ x ∈ cs, Pt x := fun x m => by
  obtain ⟨zs, rfl, h3⟩ := h.ex
  rcases List.mem_append.mp m with m | m
  · exact pt_one (hx x m)
  · obtain ⟨a, ma, b, mb, rfl⟩ := h3 x m
    exact pt_two (ha a ma) (hb b mb)
theorem On.single {x z : Str} (hx : On x) (hz : z ∈ DM.chs x) : z = x := by
  obtain ⟨c, _, _, rfl⟩ := hx
  exact List.mem_singleton.mp hz
theorem Mo2.chs (h : Mo2 xs as bs cs) (hx : ∀ x ∈ xs, On x) (ha : ∀ x ∈ as, On x) (hb : ∀ x ∈ bs, On x) {ys : List Str} (sx : ∀ x ∈ xs, x ∈ ys) (sa : ∀ x ∈ as, x ∈ ys) (sb : ∀ x ∈ bs, x ∈ ys) : ∀ x ∈ cs, ∀ z ∈ DM.chs x, z ∈ ys := fun x m z hz => by
  obtain ⟨zs, rfl, h3⟩ := h.ex
  rcases List.mem_append.mp m with m | m
  · rw [(hx x m).single hz]
    exact sx x m
  · obtain ⟨a, ma, b, mb, rfl⟩ := h3 x m
    rw [chs_app] at hz
    rcases List.mem_append.mp hz with hz | hz
    · rw [(ha a ma).single hz]
      exact sa a ma
    · rw [(hb b mb).single hz]
      exact sb b mb
theorem Mo2.sub (h : Mo2 xs as bs cs) : ∀ x ∈ xs, x ∈ cs := fun x m => by
  obtain ⟨zs, rfl, h3⟩ := h.ex
  exact List.mem_append_left _ m
theorem On.len {x : Str} (h : On x) : x.length = 1 := by
  obtain ⟨c, _, _, rfl⟩ := h
  rfl
end
end
section
set_option Elab.async false
open PySem L2
end
section
set_option Elab.async false
set_option linter.all false
set_option maxRecDepth 100000
open PySem L2
end
section
set_option Elab.async false
open PySem L2
end
section
set_option Elab.async false
set_option linter.all false
set_option maxRecDepth 100000
open PySem L2
open TL
def IsB (s : Scr) (u : Un) : Prop := ∃ f, f ∈ s.f ∧ ∃ m, m ∈ s.m ∧ ∃ l, (l = ("" : Str) ∨ l ∈ s.l) ∧ u = .b f m l
theorem IsB.u {s : Scr} {u : Un} (h : IsB s u) : IsU s u := .inr (.inr h)
structure IsW (s : Scr) (w : List Un) : Prop where
  ne : w ≠ []
  le : w.length ≤ 60
  b : ∀ u ∈ w, IsB s u
theorem IsW.u {s : Scr} {w : List Un} (h : IsW s w) : ∀ u ∈ w, IsU s u := fun u m => (h.b u m).u
abbrev wD (w : List Un) : D := .lst (w.map Un.d)
theorem Un.d_inj {u v : Un} (h : u.d = v.d) : u = v := by
  cases u <;> cases v <;> first | rfl | (cases h; done) | (cases h; rfl)
theorem wD_inj {v w : List Un} (h : wD v = wD w) : v = w := by
  have h : v.map Un.d = w.map Un.d := by injection h
  exact (List.map_inj_right fun _ _ => Un.d_inj).mp h
theorem mem_wD {w : List Un} {ws : List (List Un)} : wD w ∈ ws.map wD ↔ w ∈ ws := by
  constructor
  · intro h
    obtain ⟨v, m, e⟩ := List.mem_map.mp h
    exact wD_inj e ▸ m
  · exact fun h => List.mem_map.mpr ⟨w, h, rfl⟩
theorem uD_ok7 {s : Scr} (ok : s.Ok) {u : Un} (h : IsU s u) : okq 6 u.d = true := by
  have := (unit_ok ok h).1
  cases u with
  | n => rfl
  | p x => exact okq_str this.1
  | b f m l =>
    show okqs 5 _ = true
    refine okqs_iff.mpr fun d hd => ?_
    simp only [List.mem_cons, List.not_mem_nil, or_false] at hd
    rcases hd with rfl | rfl | rfl
    · exact okq_str this.1.1
    · exact okq_str this.2.1.1
    · exact okq_str this.2.2.1
def bookFs (s : Scr) (rp : Addr) : List (Str × D) := [("script", s.d), ("rows", .ref rp)]
theorem lkK1 (s : Scr) (rp : Addr) : (bookFs s rp).lookup ("script" : Str) = some s.d := rfl
theorem lkK2 (s : Scr) (rp : Addr) : (bookFs s rp).lookup ("rows" : Str) = some (.ref rp) := rfl
theorem lkK0 {s : Scr} {rp : Addr} {m : Str} (q : (["script", "rows"] : List Str).contains m = false) : (bookFs s rp).lookup m = none := lk_none q
theorem pdK1 (d : D) : putD "script" d [] = ([("script", d)] : List (Str × D)) := rfl
theorem pdK2 (s : Scr) (rp : Addr) : putD "rows" (.ref rp) [("script", s.d)] = bookFs s rp := rfl
local macro_rules | `(tactic| walk_at "lk") => `(tactic| first | exact lkK1 _ _ | exact lkK2 _ _ | exact lkS1 _ | exact lkK0 (by decide +kernel) | exact lkS0 (by decide +kernel))
local macro_rules | `(tactic| walk_at "pd") => `(tactic| first | exact pdK1 _ | exact pdK2 _ _)
def rowOk (s : Scr) (z : Str) : Prop := PyData.strOk z = true ∧ ∀ c ∈ chs z, c ∈ lin (s.f ++ s.l) ++ lin s.m
/-- what stands for a word -/
structure Hd (L : HL) (x : D) (us : List Un) (es : List D) : Prop where
  pv : PcV L x es
  ok : ∀ e ∈ es, okq 7 e = true
  told : es.map toldD = us.map Un.d
theorem Hd.len {L : HL} {x : D} {us : List Un} {es : List D} (h : Hd L x us es) : es.length = us.length := by
  have := congrArg List.length h.told
  rwa [List.length_map, List.length_map] at this
theorem hd_self {s : Scr} (ok : s.Ok) {us : List Un} (h : ∀ u ∈ us, IsU s u) (L : HL) : Hd L (wD us) us (us.map Un.d) :=
  ⟨.lst _, fun e m => by
    obtain ⟨u, mu, rfl⟩ := List.mem_map.mp m
    exact okq_up (by decide : 6 ≤ 7) (uD_ok7 ok (h u mu)), by
    rw [List.map_map]
    refine List.map_congr_left fun u m => ?_
    rcases (h u m) with ⟨x, _, rfl⟩ | ⟨x, _, rfl⟩ | ⟨f, _, m, _, l, _, rfl⟩ <;> rfl⟩
end
section
set_option Elab.async false
set_option linter.all false
set_option maxRecDepth 100000
open PySem L2
open TL
end
section
set_option Elab.async false
set_option linter.all false
set_option maxRecDepth 100000
open PySem L2
open TL
section
end
end
section
set_option Elab.async false
set_option linter.all false
set_option maxRecDepth 100000
open PySem L2
open TL
theorem rowOk.app {s : Scr} {x y : Str} (h1 : rowOk s x) (h2 : rowOk s y) : rowOk s (x ++ y) := ⟨ok_app h1.1 h2.1, fun c m => by
  rw [chs_app] at m
  rcases List.mem_append.mp m with m | m
  · exact h1.2 c m
  · exact h2.2 c m⟩
theorem rowOk.nil (s : Scr) : rowOk s "" := ⟨ss_nil.1, fun c m => nomatch m⟩
end
section
set_option Elab.async false
set_option linter.all false
set_option maxRecDepth 100000
open PySem L2
open TL
end
section
set_option Elab.async false
open PySem L2
end
section
set_option Elab.async false
set_option linter.all false
set_option maxRecDepth 100000
open PySem L2
open TL
local macro_rules | `(tactic| walk_at "lk") => `(tactic| first | exact lkK1 _ _ | exact lkK2 _ _ | exact lkS1 _ | exact lkK0 (by decide +kernel) | exact lkS0 (by decide +kernel))
def rowB (s : Scr) (z : Str) : Bool := (chs z).all fun c => decide (c ∈ lin (s.f ++ s.l) ++ lin s.m)
theorem rowB_ok {s : Scr} {z : Str} (oz : PyData.strOk z = true) (h : rowB s z = true) : rowOk s z := ⟨oz, fun c m => of_decide_eq_true (List.all_eq_true.mp h c m)⟩
inductive Rw (s : Scr) (L : HL) : D → Bool → Prop
  | str {z : Str} : PyData.strOk z = true → z.length ≤ 1000 → Rw s L (.str z) (rowB s z)
  | odd {x : D} {T : String} : TyD L x T → subB T "str" = false → Rw s L x false
theorem Rw.at {s : Scr} {L : HL} {x : D} (h : Rw s L x true) : ∃ z, x = .str z ∧ rowOk s z ∧ z.length ≤ 1000 := by
  obtain ⟨b, hb⟩ : ∃ b, b = true := ⟨_, rfl⟩
  rw [← hb] at h
  cases h with
  | str oz hz => exact ⟨_, rfl, rowB_ok oz hb, hz⟩
  | odd => cases hb
def Od65 (s : Scr) (J : HL) (od : D) (b : Bool) : Prop := ∀ L2, (∀ c ∈ J, c ∈ L2) → Rw s L2 od b
theorem Od65.mono {s : Scr} {J J' : HL} {od : D} {b : Bool} (h : Od65 s J od b) (hj : ∀ c ∈ J, c ∈ J') : Od65 s J' od b := fun L2 h2 => h L2 fun c m => h2 c (hj c m)
section
end
end
section
set_option Elab.async false
open PySem L2
def ir_T_Script_has_block : Stms :=
  (.cons (.ite (.bool false (.cons (.not_ (.val (.blt .isi (.cons (.var 1) (.cons (.tup (.cons (.ty "list") (.cons (.ty "tuple") .nil))) .nil))))) (.cons (.cmp .ne (.blt .len (.cons (.var 1) .nil)) (.lit (.int 3))) .nil)))
    (.cons (.ret (.lit (.bl false)))
    .nil)
    .nil)
  (.cons (.ite (.bool false (.cons (.not_ (.val (.meth "Script" "is_first" 1026 (.var 0) (.cons (.idx (.var 1) (.lit (.int 0))) .nil)))) (.cons (.not_ (.val (.meth "Script" "is_middle" 1027 (.var 0) (.cons (.idx (.var 1) (.lit (.int 1))) .nil)))) .nil)))
    (.cons (.ret (.lit (.bl false)))
    .nil)
    .nil)
  (.cons (.ret (.bool false (.cons (.cmp .eq (.idx (.var 1) (.lit (.int 2))) (.lit (.str ""))) (.cons (.meth "Script" "is_last" 1028 (.var 0) (.cons (.idx (.var 1) (.lit (.int 2))) .nil)) .nil))))
  .nil)))
def ir_T_is_block : Stms :=
  (.cons (.ret (.meth "Script" "has_block" 1029 (.var 0) (.cons (.var 1) .nil)))
  .nil)
def ir_T_is_loose : Stms :=
  (.cons (.ret (.bool false (.cons (.meth "Script" "is_first" 1026 (.var 0) (.cons (.var 1) .nil)) (.cons (.meth "Script" "is_middle" 1027 (.var 0) (.cons (.var 1) .nil)) .nil))))
  .nil)
def ir_T_is_unit : Stms :=
  (.cons (.ret (.bool false (.cons (.call "is_loose" 1065 (.cons (.var 0) (.cons (.var 1) .nil))) (.cons (.call "is_block" 1064 (.cons (.var 0) (.cons (.var 1) .nil))) .nil))))
  .nil)
def ir_T_looked_over : Stms :=
  (.cons (.ite (.bool false (.cons (.not_ (.val (.blt .isi (.cons (.var 1) (.cons (.tup (.cons (.ty "list") (.cons (.ty "tuple") .nil))) .nil))))) (.cons (.not_ (.val (.blt .all (.cons (.lc (.of (.var 1)) 2 (.yes) (.call "is_unit" 1066 (.cons (.var 0) (.cons (.var 2) .nil)))) .nil)))) .nil)))
    (.cons (.raise "NoPiece")
    .nil)
    .nil)
  (.cons (.ret (.lc (.of (.var 1)) 2 (.yes) (.call "unit_told" 1001 (.cons (.var 2) .nil))))
  .nil))
end
section
set_option Elab.async false
set_option linter.all false
set_option maxRecDepth 100000
open PySem L2
open TL
mutual
def okr : Nat → D → Bool
  | _, .non => true
  | _, .int _ => true
  | _, .bl _ => true
  | _, .str x => PyData.strOk x
  | n + 1, .tup ds => okrs n ds
  | n + 1, .lst ds => okrs n ds
  | n, .ty t => decide (8 ≤ n) && decide (t = "dict")
  | _, _ => false
def okrs : Nat → List D → Bool
  | _, [] => true
  | n, d :: ds => okr n d && okrs n ds
end
theorem okrs_iff {n : Nat} : ∀ {ds : List D}, okrs n ds = true ↔ ∀ d ∈ ds, okr n d = true
  | [] => by unfold okrs; simp
  | d :: ds => by
    unfold okrs
    rw [Bool.and_eq_true, okrs_iff]
    simp
theorem okr_str {n : Nat} {x : Str} (h : PyData.strOk x = true) : okr n (.str x) = true := by cases n <;> (unfold okr; exact h)
theorem okr_strOf {n : Nat} {x : Str} (h : okr n (.str x) = true) : PyData.strOk x = true := by cases n <;> (unfold okr at h; exact h)
theorem okr_up {n m : Nat} (hm : n ≤ m) {d : D} (h : okr n d = true) : okr m d = true := by
  induction n generalizing m d with
  | zero => cases d <;> cases m <;> (unfold okr at h ⊢) <;> first | rfl | exact h | cases h | (simp at h)
  | succ n ih =>
    obtain ⟨m, rfl⟩ : ∃ k, m = k + 1 := ⟨m - 1, by omega⟩
    cases d with
    | tup ds => unfold okr at h ⊢; exact okrs_iff.mpr fun d hd => ih (Nat.le_of_succ_le_succ hm) (okrs_iff.mp h d hd)
    | lst ds => unfold okr at h ⊢; exact okrs_iff.mpr fun d hd => ih (Nat.le_of_succ_le_succ hm) (okrs_iff.mp h d hd)
    | ty t =>
      unfold okr at h ⊢
      rw [Bool.and_eq_true] at h ⊢
      have := of_decide_eq_true h.1
      exact ⟨decide_eq_true (by omega), h.2⟩
    | str x => exact okr_str (okr_strOf h)
    | non => rfl
    | int i => rfl
    | bl b => rfl
    | ref p => unfold okr at h; cases h
    | frz p => unfold okr at h; cases h
    | ins p q => unfold okr at h; cases h
    | exc p q => unfold okr at h; cases h
    | lam p => unfold okr at h; cases h
theorem okr_seq {n : Nat} {d : D} {ds : List D} (h : okr (n + 1) d = true) (e : d = .tup ds ∨ d = .lst ds) : ∀ z ∈ ds, okr n z = true := by
  rcases e with rfl | rfl <;> (unfold okr at h; exact okrs_iff.mp h)
mutual
inductive Th (L : HL) : D → D → Prop
  | non : Th L .non .non
  | int (i : Int) : Th L (.int i) (.int i)
  | bl (b : Bool) : Th L (.bl b) (.bl b)
  | str (x : Str) : Th L (.str x) (.str x)
  | tup {xs ds : List D} : ThL L xs ds → Th L (.tup xs) (.tup ds)
  | lst {xs ds : List D} : ThL L xs ds → Th L (.lst xs) (.lst ds)
  | own {p : Addr} {xs ds : List D} : (p, Ch.lst xs) ∈ L → ThL L xs ds → Th L (.ref p) (.lst ds)
  | dct {p : Addr} {kvs : List (Str × D)} : (p, Ch.dct kvs) ∈ L → Th L (.ref p) (.ty "dict")
inductive ThL (L : HL) : List D → List D → Prop
  | nil : ThL L [] []
  | cons {x d : D} {xs ds : List D} : Th L x d → ThL L xs ds → ThL L (x :: xs) (d :: ds)
end
mutual
theorem Th.mono {L L' : HL} (hm : ∀ c ∈ L, c ∈ L') : ∀ {x d : D}, Th L x d → Th L' x d
  | _, _, .non => .non
  | _, _, .int i => .int i
  | _, _, .bl b => .bl b
  | _, _, .str x => .str x
  | _, _, .tup h => .tup (ThL.mono hm h)
  | _, _, .lst h => .lst (ThL.mono hm h)
  | _, _, .own m h => .own (hm _ m) (ThL.mono hm h)
  | _, _, .dct m => .dct (hm _ m)
theorem ThL.mono {L L' : HL} (hm : ∀ c ∈ L, c ∈ L') : ∀ {xs ds : List D}, ThL L xs ds → ThL L' xs ds
  | _, _, .nil => .nil
  | _, _, .cons h t => .cons (Th.mono hm h) (ThL.mono hm t)
end
theorem ThL.len {L : HL} : ∀ {xs ds : List D}, ThL L xs ds → xs.length = ds.length
  | _, _, .nil => rfl
  | _, _, .cons _ t => by rw [List.length_cons, List.length_cons, t.len]
theorem ThL.at {L : HL} : ∀ {xs ds : List D} {i : Nat} {x : D}, ThL L xs ds → xs[i]? = some x → ∃ d, ds[i]? = some d ∧ Th L x d
  | _, _, 0, _, .cons h t, e => by cases e; exact ⟨_, rfl, h⟩
  | _, _, i + 1, _, .cons h t, e => t.at (i := i) e
  | _, _, _, _, .nil, e => by cases e
theorem ThL.app {L : HL} : ∀ {xs ds xs' ds' : List D}, ThL L xs ds → ThL L xs' ds' → ThL L (xs ++ xs') (ds ++ ds')
  | _, _, _, _, .nil, h => h
  | _, _, _, _, .cons a t, h => .cons a (t.app h)
mutual
theorem Th.self {L : HL} : ∀ {n : Nat} {d : D}, n ≤ 7 → okr n d = true → Th L d d
  | n, .non, _, _ => .non
  | n, .int i, _, _ => .int i
  | n, .bl b, _, _ => .bl b
  | n, .str x, _, _ => .str x
  | n + 1, .tup ds, hn, h => .tup (ThL.self (n := n) (by omega) (by unfold okr at h; exact h))
  | n + 1, .lst ds, hn, h => .lst (ThL.self (n := n) (by omega) (by unfold okr at h; exact h))
  | 0, .tup ds, _, h => by unfold okr at h; cases h
  | 0, .lst ds, _, h => by unfold okr at h; cases h
  | n, .ty t, hn, h => by
    exfalso
    cases n <;> (unfold okr at h; rw [Bool.and_eq_true] at h; have := of_decide_eq_true h.1; omega)
  | n, .ref p, _, h => by cases n <;> (unfold okr at h; cases h)
  | n, .frz p, _, h => by cases n <;> (unfold okr at h; cases h)
  | n, .ins p q, _, h => by cases n <;> (unfold okr at h; cases h)
theorem ThL.self {L : HL} : ∀ {n : Nat} {ds : List D}, n ≤ 7 → okrs n ds = true → ThL L ds ds
  | n, [], _, _ => .nil
  | n, d :: ds, hn, h => by
    unfold okrs at h
    rw [Bool.and_eq_true] at h
    exact .cons (Th.self hn h.1) (ThL.self hn h.2)
end
theorem okq_okr : ∀ {n : Nat} {d : D}, okq n d = true → okr n d = true := by
  intro n
  induction n with
  | zero =>
    intro d h
    cases d <;> (unfold okq at h; unfold okr) <;> first | rfl | exact h | cases h
  | succ n ih =>
    intro d h
    cases d <;> (unfold okq at h; unfold okr) <;> first | rfl | exact h | (exact okrs_iff.mpr fun d hd => ih (okqs_iff.mp h d hd)) | cases h
theorem Th.str_inv {L : HL} {x : D} {z : Str} (h : Th L x (.str z)) : x = .str z := by cases h; rfl
theorem ThL.strs {L : HL} : ∀ {xs : List D} {zs : List Str}, ThL L xs (zs.map D.str) → xs = zs.map D.str
  | _, [], .nil => rfl
  | _, z :: zs, .cons h t => by rw [h.str_inv, t.strs]; rfl
inductive Kd3 (L : HL) (n : Nat) (x d : D) : Prop
  | str (z : Str) : x = .str z → d = .str z → PyData.strOk z = true → Kd3 L n x d
  | seq (T : String) (xs es : List D) : TyD L x T → (T = "list" ∨ T = "tuple") → PcV L x xs → ThL L xs es → (d = .tup es ∨ d = .lst es) → (∀ e ∈ es, okr (n - 1) e = true) → (T = "list" → d = .lst es) → (T = "tuple" → x = .tup xs ∧ d = .tup es) → Kd3 L n x d
  | odd (T : String) : TyD L x T → subB T "str" = false → subB T "list" = false → subB T "tuple" = false → (∀ xs, inD xs d = false) → (∀ s, blkD s d = false) → (∀ es, d ≠ .tup es ∧ d ≠ .lst es) → Kd3 L n x d
theorem Th.kind {L : HL} {x d : D} {n : Nat} (h : Th L x d) (o : okr n d = true) : Kd3 L n x d := by
  cases h with
  | non => exact .odd _ (.of rfl) (by decide) (by decide) (by decide) (fun _ => rfl) (fun _ => rfl) fun es => ⟨(by intro e; cases e), by intro e; cases e⟩
  | int i => exact .odd _ (.of rfl) (by decide) (by decide) (by decide) (fun _ => rfl) (fun _ => rfl) fun es => ⟨(by intro e; cases e), by intro e; cases e⟩
  | bl b => exact .odd _ (.of rfl) (by decide) (by decide) (by decide) (fun _ => rfl) (fun _ => rfl) fun es => ⟨(by intro e; cases e), by intro e; cases e⟩
  | str z => exact .str z rfl rfl (okr_strOf o)
  | @tup xs ds t =>
    cases n with
    | zero => unfold okr at o; cases o
    | succ n => exact .seq "tuple" xs ds (.of rfl) (.inr rfl) (.tup _) t (.inl rfl) (okr_seq o (.inl rfl)) (fun e => absurd e (by decide)) fun _ => ⟨rfl, rfl⟩
  | @lst xs ds t =>
    cases n with
    | zero => unfold okr at o; cases o
    | succ n => exact .seq "list" xs ds (.of rfl) (.inl rfl) (.lst _) t (.inr rfl) (okr_seq o (.inr rfl)) (fun _ => rfl) fun e => absurd e (by decide)
  | @own p xs ds m t =>
    cases n with
    | zero => unfold okr at o; cases o
    | succ n => exact .seq "list" xs ds (.own m) (.inl rfl) (.own m) t (.inr rfl) (okr_seq o (.inr rfl)) (fun _ => rfl) fun e => absurd e (by decide)
  | @dct p kvs m => exact .odd "dict" (.dct m) (by decide) (by decide) (by decide) (fun _ => rfl) (fun _ => rfl) fun es => ⟨(by intro e; cases e), by intro e; cases e⟩
theorem PcV.iss {L : HL} {x : D} {xs : List D} (h : PcV L x xs) : IsS L x xs := by
  cases h with
  | tup => exact .tup _
  | lst => exact .lst (.lst _)
  | own m => exact .lst (.own m)
theorem isi_seq {L : HL} {Q : Qd} {x : D} {T : String} (h : TyD L x T) (e : T = "list" ∨ T = "tuple") (q : Q (.bl true) L) : wpBf .isi [x, .tup [.ty "list", .ty "tuple"]] L Q :=
  p_isi2B (b := true) h (by decide) (by decide) (by rcases e with rfl | rfl <;> decide) q
theorem isi_odd {L : HL} {Q : Qd} {x : D} {T : String} (h : TyD L x T) (e1 : subB T "list" = false) (e2 : subB T "tuple" = false) (q : Q (.bl false) L) : wpBf .isi [x, .tup [.ty "list", .ty "tuple"]] L Q :=
  p_isi2B (b := false) h (by decide) (by decide) (by rw [e1, e2]; rfl) q
theorem isi_str {L : HL} {Q : Qd} {x : D} {T : String} (h : TyD L x T) (e1 : subB T "str" = false) (q : Q (.bl false) L) : wpBf .isi [x, .ty "str"] L Q :=
  p_isiB (b := false) h (by decide) e1 q
mutual
theorem okr_py {L : HL} : ∀ {n : Nat} {x d : D}, n ≤ 7 → okr n d = true → Th L x d → Py L x d.py ∧ d.py.canLay0 = true ∧ d.py.depth ≤ n
  | n, .non, .non, _, _, .non => ⟨.non, rfl, Nat.zero_le _⟩
  | n, .int i, .int _, _, _, .int _ => ⟨.int i, rfl, Nat.zero_le _⟩
  | n, .bl b, .bl _, _, _, .bl _ => ⟨.bl b, rfl, Nat.zero_le _⟩
  | n, .str x, .str _, _, h, .str _ => ⟨.str x, okr_strOf h, Nat.zero_le _⟩
  | n + 1, .tup xs, .tup ds, hn, h, .tup t => by
    unfold okr at h
    obtain ⟨h1, h2, h3⟩ := okrs_py (n := n) (by omega) h t
    exact ⟨.tup h1, h2, Nat.succ_le_succ h3⟩
  | n + 1, .lst xs, .lst ds, hn, h, .lst t => by
    unfold okr at h
    obtain ⟨h1, h2, h3⟩ := okrs_py (n := n) (by omega) h t
    exact ⟨.lst h1, h2, Nat.succ_le_succ h3⟩
  | n + 1, .ref p, .lst ds, hn, h, .own m t => by
    unfold okr at h
    obtain ⟨h1, h2, h3⟩ := okrs_py (n := n) (by omega) h t
    exact ⟨.own m h1, h2, Nat.succ_le_succ h3⟩
  | 0, .tup xs, .tup ds, _, h, .tup t => by unfold okr at h; cases h
  | 0, .lst xs, .lst ds, _, h, .lst t => by unfold okr at h; cases h
  | 0, .ref p, .lst ds, _, h, .own m t => by unfold okr at h; cases h
  | n, .ref p, .ty _, hn, h, .dct m => by
    exfalso
    cases n <;> (unfold okr at h; rw [Bool.and_eq_true] at h; have := of_decide_eq_true h.1; omega)
theorem okrs_py {L : HL} : ∀ {n : Nat} {xs ds : List D}, n ≤ 7 → okrs n ds = true → ThL L xs ds → PyL L xs (pyAll ds) ∧ PyData.canLayAll0 (pyAll ds) = true ∧ PyData.depthAll (pyAll ds) ≤ n
  | n, [], [], _, _, .nil => ⟨.nil, rfl, Nat.zero_le _⟩
  | n, x :: xs, d :: ds, hn, h, .cons a t => by
    unfold okrs at h
    rw [Bool.and_eq_true] at h
    obtain ⟨a1, a2, a3⟩ := okr_py hn h.1 a
    obtain ⟨b1, b2, b3⟩ := okrs_py hn h.2 t
    refine ⟨.cons a1 b1, ?_, ?_⟩
    · show (d.py.canLay0 && PyData.canLayAll0 (pyAll ds)) = true
      rw [a2, b2]
      rfl
    · show max d.py.depth (PyData.depthAll (pyAll ds)) ≤ n
      exact Nat.max_le.mpr ⟨a3, b3⟩
end
theorem Th.py {L : HL} {n : Nat} {x d : D} (h : Th L x d) (hn : n ≤ 7) (o : okr n d = true) : Py L x d.py ∧ SeqAt.shaped d.py = true := by
  obtain ⟨h1, h2, h3⟩ := okr_py hn o h
  refine ⟨h1, ?_⟩
  unfold SeqAt.shaped
  rw [h2, Bool.true_and]
  exact decide_eq_true (by omega)
theorem eqv_emp {d : D} : PyData.eqv d.py (.str "") = nilD d := by
  cases d with
  | str x => exact rfl
  | _ => rfl
theorem p_eq_emp {L : HL} {Q : Qd} {n : Nat} {x d : D} (h : Th L x d) (hn : n ≤ 7) (o : okr n d = true) (q : Q (.bl (nilD d)) L) : wpCo .eq x (.str "") L Q := by
  obtain ⟨a1, a2⟩ := h.py hn o
  refine .mk a1 (.str "") a2 (by decide +kernel) ?_
  rw [show PyData.eqv d.py (.str "") = nilD d from eqv_emp]
  exact q
theorem it_map {C : Ct} {σ : Sl} {L : HL} {Q : Qd} {j : Nat} {te : Ex} {x : D} {xs : List D} (hs : PcV L x xs) (ys : List D) (hn : ys.length = xs.length)
    (h : ∀ (p : Addr) (acc : List D) (i : Nat) (d y : D) (K : Qd), xs[i]? = some d → ys[i]? = some y → K y ((p, Ch.lst acc) :: L) → wpE C te ((wipeD σ [j]).set j (some d)) ((p, .lst acc) :: L) K X0) (r : RetL ys L Q) :
    oIter x L (fun q L1 => ∃ W : Nat → List D → HL → Prop, W 0 [] L1 ∧ LI q j (wpT C .yes) (wpE C te) [j] σ (fun acc L2 => RetL acc L2 Q) W) := by
  cases hs with
  | tup => exact .tup (lc_map ys (fun _ _ => trivial) hn h r)
  | lst => exact .frz_lst (lc_map ys (fun _ _ => trivial) hn h r)
  | own m => exact .own m (lc_map ys (fun _ _ => .tail _ m) hn h r)
def isInT (g : Scr → List Str) : DSp := fun ds L Q E => ∃ (s : Scr) (x d : D), ds = [s.d, x] ∧ s.Ok ∧ Th L x d ∧ okr 9 d = true ∧ Q (.bl (inD (g s) d)) L
theorem vc_is_firstT {C : Ct} (F : FdS C) : VC 2 2 (isInT (·.f)) (wpSs C ir_Script_is_first) := by
  rintro ds L Q E hl uq ue ⟨s, x, d, rfl, ok, h, o, q⟩
  obtain ⟨f1, f2, f3, f4⟩ := F
  unfold ir_Script_is_first
  rcases h.kind o with ⟨z, rfl, rfl, kx⟩ | ⟨T, xs, es, hT, eT, pv, tl, ed, oe, t1, t2⟩ | ⟨T, hT, h1, h2, h3, h4, h5, h6⟩
  · walk_at "go"
    refine p_in (.same _) (okq_str kx) (strs_ok ok.kf 7) fun b hb => ?_
    rw [mem_strs] at hb
    rw [bl_dec hb]
    exact q
  · walk_at "go"
    refine isi_str hT (by rcases eT with rfl | rfl <;> decide) ?_
    walk_at "dd"
    rcases ed with rfl | rfl <;> exact q
  · walk_at "go"
    refine isi_str hT h1 ?_
    walk_at "dd"
    rw [h4] at q
    exact q
theorem vc_is_middleT {C : Ct} (F : FdS C) : VC 2 2 (isInT (·.m)) (wpSs C ir_Script_is_middle) := by
  rintro ds L Q E hl uq ue ⟨s, x, d, rfl, ok, h, o, q⟩
  obtain ⟨f1, f2, f3, f4⟩ := F
  unfold ir_Script_is_middle
  rcases h.kind o with ⟨z, rfl, rfl, kx⟩ | ⟨T, xs, es, hT, eT, pv, tl, ed, oe, t1, t2⟩ | ⟨T, hT, h1, h2, h3, h4, h5, h6⟩
  · walk_at "go"
    refine p_in (.same _) (okq_str kx) (strs_ok ok.km 7) fun b hb => ?_
    rw [mem_strs] at hb
    rw [bl_dec hb]
    exact q
  · walk_at "go"
    refine isi_str hT (by rcases eT with rfl | rfl <;> decide) ?_
    walk_at "dd"
    rcases ed with rfl | rfl <;> exact q
  · walk_at "go"
    refine isi_str hT h1 ?_
    walk_at "dd"
    rw [h4] at q
    exact q
theorem vc_is_lastT {C : Ct} (F : FdS C) : VC 2 2 (isInT (·.l)) (wpSs C ir_Script_is_last) := by
  rintro ds L Q E hl uq ue ⟨s, x, d, rfl, ok, h, o, q⟩
  obtain ⟨f1, f2, f3, f4⟩ := F
  unfold ir_Script_is_last
  rcases h.kind o with ⟨z, rfl, rfl, kx⟩ | ⟨T, xs, es, hT, eT, pv, tl, ed, oe, t1, t2⟩ | ⟨T, hT, h1, h2, h3, h4, h5, h6⟩
  · walk_at "go"
    refine p_in (.same _) (okq_str kx) (strs_ok ok.kl 7) fun b hb => ?_
    rw [mem_strs] at hb
    rw [bl_dec hb]
    exact q
  · walk_at "go"
    refine isi_str hT (by rcases eT with rfl | rfl <;> decide) ?_
    walk_at "dd"
    rcases ed with rfl | rfl <;> exact q
  · walk_at "go"
    refine isi_str hT h1 ?_
    walk_at "dd"
    rw [h4] at q
    exact q
def sp_has_blockT : DSp := fun ds L Q E => ∃ (s : Scr) (x d : D), ds = [s.d, x] ∧ s.Ok ∧ Th L x d ∧ okr 8 d = true ∧ Q (.bl (blkD s d)) L
theorem blkD_seq {s : Scr} {d : D} {es : List D} (e : d = .tup es ∨ d = .lst es) : blkD s d = blk3 s es := by rcases e with rfl | rfl <;> rfl
theorem vc_has_blockT {C : Ct} (e1 : C.fn 1026 1 = some (2, permS (isInT (·.f)), [])) (e2 : C.fn 1027 1 = some (2, permS (isInT (·.m)), [])) (e3 : C.fn 1028 1 = some (2, permS (isInT (·.l)), [])) : VC 2 2 sp_has_blockT (wpSs C ir_T_Script_has_block) := by
  rintro ds L Q E hl uq ue ⟨s, x, d, rfl, ok, h, o, q⟩
  unfold ir_T_Script_has_block
  rcases h.kind o with ⟨z, rfl, rfl, kx⟩ | ⟨T, xs, es, hT, eT, pv, tl, ed, oe, t1, t2⟩ | ⟨T, hT, h1, h2, h3, h4, h5, h6⟩
  · walk_at "go"
    exact q
  rotate_left
  · walk_at "go"
    refine isi_odd hT h2 h3 ?_
    walk_at "dd"
    rw [h5] at q
    exact q
  have hlen := tl.len
  have iss := pv.iss
  rw [blkD_seq ed] at q
  walk_at "go"
  refine isi_seq hT eT ?_
  walk_at "dd"
  refine c_d (fun h3 => ?_) (fun h3 => ?_)
  · walk_at "dd"
    rw [blk3_len (by omega)] at q
    exact q
  obtain ⟨a, b, c, rfl⟩ := three_of (by omega : es.length = 3)
  cases tl with
  | @cons xa _ xs1 _ ha tl =>
  cases tl with
  | @cons xb _ xs2 _ hb tl =>
  cases tl with
  | @cons xc _ xs3 _ hc tl =>
  cases tl with
  | nil =>
  have oa := oe a (by simp)
  have ob := oe b (by simp)
  have oc := oe c (by simp)
  have q : Q (.bl (inD s.f a && (inD s.m b && (nilD c || inD s.l c)))) L := q
  walk_at "dd"
  refine p_ix (j := 0) iss rfl (d := xa) rfl ?_
  walk_at "dd"
  refine ⟨rfl, _, .refl _, s, xa, a, rfl, ok, ha, okr_up (by decide) oa, cl ?_⟩
  walk_at "dd"
  refine c_nb (fun ha => ?_) (fun ha => ?_)
  · walk_at "dd"
    rw [ha] at q
    exact q
  rw [ha] at q
  walk_at "dd"
  refine p_ix (j := 1) iss rfl (d := xb) rfl ?_
  walk_at "dd"
  refine ⟨rfl, _, .refl _, s, xb, b, rfl, ok, hb, okr_up (by decide) ob, cl ?_⟩
  walk_at "dd"
  refine c_nb (fun hb => ?_) (fun hb => ?_)
  · walk_at "dd"
    rw [hb] at q
    exact q
  rw [hb] at q
  walk_at "dd"
  refine p_ix (j := 2) iss rfl (d := xc) rfl ?_
  walk_at "dd"
  refine p_eq_emp (n := 7) hc (by decide) oc ?_
  walk_at "dd"
  refine c_b (fun hc0 => ?_) (fun hc0 => ?_)
  · rw [hc0] at q
    exact q
  rw [hc0] at q
  walk_at "dd"
  refine p_ix (j := 2) iss rfl (d := xc) rfl ?_
  walk_at "dd"
  exact ⟨rfl, _, .refl _, s, xc, c, rfl, ok, hc, okr_up (by decide) oc, cl q⟩
theorem vc_is_blockT {C : Ct} (e1 : C.fn 1029 1 = some (2, permS sp_has_blockT, [])) : VC 2 2 sp_has_blockT (wpSs C ir_T_is_block) := by
  rintro ds L Q E hl uq ue ⟨s, x, d, rfl, ok, h, o, q⟩
  unfold ir_T_is_block
  walk_at "go"
  exact ⟨rfl, _, .refl _, s, x, d, rfl, ok, h, o, cl q⟩
def sp_is_looseT : DSp := fun ds L Q E => ∃ (s : Scr) (x d : D), ds = [s.d, x] ∧ s.Ok ∧ Th L x d ∧ okr 9 d = true ∧ Q (.bl (looD s d)) L
theorem vc_is_looseT {C : Ct} (e1 : C.fn 1026 1 = some (2, permS (isInT (·.f)), [])) (e2 : C.fn 1027 1 = some (2, permS (isInT (·.m)), [])) : VC 2 2 sp_is_looseT (wpSs C ir_T_is_loose) := by
  rintro ds L Q E hl uq ue ⟨s, x, d, rfl, ok, h, o, q⟩
  unfold looD at q
  unfold ir_T_is_loose
  walk_at "go"
  refine ⟨rfl, _, .refl _, s, x, d, rfl, ok, h, o, cl ?_⟩
  walk_at "dd"
  refine c_b (fun hc => ?_) (fun hc => ?_)
  · rw [hc] at q
    exact q
  rw [hc] at q
  walk_at "dd"
  exact ⟨rfl, _, .refl _, s, x, d, rfl, ok, h, o, cl q⟩
def sp_is_unitT : DSp := fun ds L Q E => ∃ (s : Scr) (x d : D), ds = [s.d, x] ∧ s.Ok ∧ Th L x d ∧ okr 8 d = true ∧ Q (.bl (unitD s d)) L
theorem vc_is_unitT {C : Ct} (e1 : C.fn 1065 2 = some (2, permS sp_is_looseT, [])) (e2 : C.fn 1064 2 = some (2, permS sp_has_blockT, [])) : VC 2 2 sp_is_unitT (wpSs C ir_T_is_unit) := by
  rintro ds L Q E hl uq ue ⟨s, x, d, rfl, ok, h, o, q⟩
  unfold unitD at q
  unfold ir_T_is_unit
  walk_at "go"
  refine ⟨rfl, _, .refl _, s, x, d, rfl, ok, h, okr_up (by decide) o, cl ?_⟩
  walk_at "dd"
  refine c_b (fun hc => ?_) (fun hc => ?_)
  · rw [hc] at q
    exact q
  rw [hc] at q
  walk_at "dd"
  exact ⟨rfl, _, .refl _, s, x, d, rfl, ok, h, o, cl q⟩
theorem blk_strs {s : Scr} {es : List D} (h : blk3 s es = true) : ∃ f m l : Str, es = [.str f, .str m, .str l] ∧ f ∈ s.f ∧ m ∈ s.m ∧ (l = "" ∨ l ∈ s.l) := by
  by_cases hl : es.length = 3
  · obtain ⟨a, b, c, rfl⟩ := three_of hl
    have h : (inD s.f a && (inD s.m b && (nilD c || inD s.l c))) = true := h
    rw [Bool.and_eq_true, Bool.and_eq_true, Bool.or_eq_true] at h
    obtain ⟨h1, h2, h3⟩ := h
    cases a with
    | str f =>
      cases b with
      | str m =>
        cases c with
        | str l => exact ⟨f, m, l, rfl, of_decide_eq_true h1, of_decide_eq_true h2, h3.elim (fun h => .inl (of_decide_eq_true h)) fun h => .inr (of_decide_eq_true h)⟩
        | _ => rcases h3 with h3 | h3 <;> cases h3
      | _ => cases h2
    | _ => cases h1
  · rw [blk3_len hl] at h
    cases h
theorem unit_cases {s : Scr} {d : D} (h : unitD s d = true) : (∃ z, d = .str z ∧ (z ∈ s.f ∨ z ∈ s.m)) ∨ ∃ f m l : Str, (d = .tup [.str f, .str m, .str l] ∨ d = .lst [.str f, .str m, .str l]) ∧ f ∈ s.f ∧ m ∈ s.m ∧ (l = "" ∨ l ∈ s.l) := by
  cases d with
  | str z =>
    have h : ((decide (z ∈ s.f) || decide (z ∈ s.m)) || false) = true := h
    rw [Bool.or_false, Bool.or_eq_true] at h
    exact .inl ⟨z, rfl, h.elim (fun h => .inl (of_decide_eq_true h)) fun h => .inr (of_decide_eq_true h)⟩
  | tup es =>
    have h : (false || blk3 s es) = true := h
    obtain ⟨f, m, l, rfl, r⟩ := blk_strs (by rwa [Bool.false_or] at h)
    exact .inr ⟨f, m, l, .inl rfl, r⟩
  | lst es =>
    have h : (false || blk3 s es) = true := h
    obtain ⟨f, m, l, rfl, r⟩ := blk_strs (by rwa [Bool.false_or] at h)
    exact .inr ⟨f, m, l, .inr rfl, r⟩
  | _ => cases h
def sp_unit_toldT : DSp := fun ds L Q E => ∃ (s : Scr) (x d : D), ds = [x] ∧ Th L x d ∧ unitD s d = true ∧ Q (toldD d) L
theorem vc_unit_toldT {C : Ct} : VC 1 1 sp_unit_toldT (wpSs C ir_unit_told) := by
  rintro ds L Q E hl uq ue ⟨s, x, d, rfl, h, hu, q⟩
  unfold ir_unit_told
  rcases unit_cases hu with ⟨z, rfl, _⟩ | ⟨f, m, l, rfl | rfl, _⟩
  · obtain rfl := h.str_inv
    walk_at "go"
    exact q
  · cases h with
    | tup t =>
      obtain rfl := ThL.strs (zs := [f, m, l]) t
      walk_at "go"
      exact q
  · cases h with
    | lst t =>
      obtain rfl := ThL.strs (zs := [f, m, l]) t
      walk_at "go"
      exact .lst (.lst _) q
    | own mm t =>
      obtain rfl := ThL.strs (zs := [f, m, l]) t
      walk_at "go"
      exact .lst (.own mm) q
/-- the units of a thing, if it is a piece -/
def seqD : D → Option (List D)
  | .lst es => some es
  | .tup es => some es
  | _ => none
def pieceB (s : Scr) (d : D) : Bool := match seqD d with
  | some es => es.all (unitD s)
  | none => false
def sp_lookedT : DSp := fun ds L Q E => ∃ (s : Scr) (x d : D), ds = [s.d, x] ∧ s.Ok ∧ Th L x d ∧ okr 9 d = true ∧ (pieceB s d = true → ∀ es, seqD d = some es → RetL (es.map toldD) L Q) ∧ (pieceB s d = false → ExN E "NoPiece" L)
theorem vc_lookedT {C : Ct} (hx : ("NoPiece" : Str) ∈ C.exn) (e1 : C.fn 1066 2 = some (2, permS sp_is_unitT, [])) (e2 : C.fn 1001 1 = some (1, permS sp_unit_toldT, [])) : VC 3 2 sp_lookedT (wpSs C ir_T_looked_over) := by
  rintro ds L Q E hl uq ue ⟨s, x, d, rfl, ok, h, o, q1, q2⟩
  unfold ir_T_looked_over
  rcases h.kind o with ⟨z, rfl, rfl, kx⟩ | ⟨T, xs, es, hT, eT, pv, tl, ed, oe, t1, t2⟩ | ⟨T, hT, h1, h2, h3, h4, h5, h6⟩
  · walk_at "go"
    exact q2 rfl _ (.refl _)
  rotate_left
  · have hp : pieceB s d = false := by
      unfold pieceB seqD
      split
      · rename_i es0 e0
        split at e0
        · exact absurd rfl (h6 _).2
        · exact absurd rfl (h6 _).1
        · cases e0
      · rfl
    walk_at "go"
    refine isi_odd hT h2 h3 ?_
    walk_at "dd"
    exact q2 hp _ (.refl _)
  have es1 : seqD d = some es := by rcases ed with rfl | rfl <;> rfl
  have ep : pieceB s d = es.all (unitD s) := by unfold pieceB; rw [es1]
  rw [ep] at q1 q2
  walk_at "go"
  refine isi_seq hT eT ?_
  walk_at "dd"
  refine it_map pv (es.map fun d => .bl (unitD s d)) (by rw [List.length_map, tl.len]) (fun p acc i d y K hd hy k => ?_) (.inl ?_)
  · obtain ⟨d', hd', rfl⟩ := get_map hy
    obtain ⟨d2, hd2, ht⟩ := tl.at hd
    obtain rfl : d2 = d' := Option.some.inj (hd2.symm.trans hd')
    simp only [wipeD, List.set]
    walk_at "dd"
    exact ⟨rfl, _, .refl _, s, d, d2, rfl, ok, ht.mono fun c m => .tail _ m, oe d2 (List.mem_of_getElem? hd2), cl k⟩
  walk_at "dd"
  refine p_allf (.lst _) ?_
  cases ha : es.all (unitD s) with
  | false =>
    walk_at "dd"
    exact q2 ha _ (.refl _)
  | true =>
    walk_at "dd"
    refine it_map pv (es.map toldD) (by rw [List.length_map, tl.len]) (fun p acc i d y K hd hy k => ?_) (q1 ha _ es1)
    obtain ⟨d', hd', rfl⟩ := get_map hy
    obtain ⟨d2, hd2, ht⟩ := tl.at hd
    obtain rfl : d2 = d' := Option.some.inj (hd2.symm.trans hd')
    simp only [wipeD, List.set]
    walk_at "dd"
    exact ⟨rfl, _, .refl _, s, d, d2, rfl, ht.mono fun c m => .tail _ m, List.all_eq_true.mp ha d2 (List.mem_of_getElem? hd2), cl k⟩
end
section
set_option Elab.async false
open PySem L2
def ir_E_word_of : Stms :=
  (.cons (.ite (.bool false (.cons (.not_ (.val (.blt .isi (.cons (.var 1) (.cons (.tup (.cons (.ty "list") (.cons (.ty "tuple") .nil))) .nil))))) (.cons (.cmp .eq (.blt .len (.cons (.var 1) .nil)) (.lit (.int 0))) (.cons (.not_ (.val (.blt .all (.cons (.lc (.of (.var 1)) 2 (.yes) (.call "is_block" 64 (.cons (.var 0) (.cons (.var 2) .nil)))) .nil)))) .nil))))
    (.cons (.ret (.lit .non))
    .nil)
    .nil)
  (.cons (.ret (.call "looked_over" 67 (.cons (.var 0) (.cons (.var 1) .nil))))
  .nil))
def ir_are_lasts : Stms :=
  (.cons (.ite (.bool false (.cons (.not_ (.val (.blt .isi (.cons (.var 1) (.cons (.tup (.cons (.ty "list") (.cons (.ty "tuple") .nil))) .nil))))) (.cons (.not_ (.val (.blt .all (.cons (.lc (.of (.var 1)) 2 (.yes) (.meth "Script" "is_last" 28 (.var 0) (.cons (.var 2) .nil))) .nil)))) .nil)))
    (.cons (.ret (.lit (.bl false)))
    .nil)
    .nil)
  (.cons (.ret (.cmp .eq (.lenset (.var 1)) (.blt .len (.cons (.var 1) .nil))))
  .nil))
def ir_Ending_ended : Stms :=
  (.cons (.asg (.name 2) (.call "word_of" 454 (.cons (.fld (.var 0) "script") (.cons (.var 1) .nil))))
  (.cons (.ite (.cmp .isa (.var 2) (.lit .non))
    (.cons (.raise "NoWord")
    .nil)
    .nil)
  (.cons (.asg (.tup (.cons (.name 3) (.cons (.name 4) (.cons (.name 5) .nil)))) (.idx (.var 2) (.neg (.lit (.int 1)))))
  (.cons (.ite (.cmp .eq (.var 5) (.lit (.str "")))
    (.cons (.ret (.bin .add (.bin .add (.slc (.var 2) .none (.some (.neg (.lit (.int 1))))) (.lst (.cons (.tup (.cons (.var 3) (.cons (.var 4) (.cons (.fld (.var 0) "joined") .nil)))) .nil))) (.fld (.var 0) "after_none")))
    .nil)
    .nil)
  (.cons (.ite (.cmp .inn (.var 5) (.fld (.var 0) "light"))
    (.cons (.ret (.bin .add (.var 2) (.fld (.var 0) "after_none")))
    .nil)
    .nil)
  (.cons (.ret (.bin .add (.var 2) (.fld (.var 0) "after_last")))
  .nil))))))
def ir__law_word_473392b3 : Stms :=
  (.cons (.asg (.name 2) (.bin .add (.lst (.cons (.lit (.str "")) .nil)) (.meth "Script" "lasts" 22 (.var 1) .nil)))
  (.cons (.asg (.name 3) (.lst .nil))
  (.cons (.for_ (.name 4) (.rng (.cons (.bin .add (.lit (.int 1)) (.call "_law_take" 36 (.cons (.var 0) (.cons (.lit (.int 4)) .nil)))) .nil))
    (.cons (.asg (.name 5) (.idx (.meth "Script" "firsts" 20 (.var 1) .nil) (.call "_law_take" 36 (.cons (.var 0) (.cons (.blt .len (.cons (.meth "Script" "firsts" 20 (.var 1) .nil) .nil)) .nil)))))
    (.cons (.asg (.name 6) (.idx (.meth "Script" "middles" 21 (.var 1) .nil) (.call "_law_take" 36 (.cons (.var 0) (.cons (.blt .len (.cons (.meth "Script" "middles" 21 (.var 1) .nil) .nil)) .nil)))))
    (.cons (.drop (.mth .append (.var 3) (.cons (.tup (.cons (.var 5) (.cons (.var 6) (.cons (.idx (.var 2) (.call "_law_take" 36 (.cons (.var 0) (.cons (.blt .len (.cons (.var 2) .nil)) .nil)))) .nil)))) .nil)))
    .nil))))
  (.cons (.ret (.var 3))
  .nil))))
def ir__law_end_ca23d679 : Stms :=
  (.cons (.asg (.name 2) (.lc (.rng (.cons (.lit (.int 2)) .nil)) 4 (.yes) (.lc (.rng (.cons (.call "_law_take" 36 (.cons (.var 0) (.cons (.lit (.int 4)) .nil))) .nil)) 3 (.yes) (.call "_law_unit" 40 (.cons (.var 0) (.cons (.var 1) .nil))))))
  (.cons (.ite (.cmp .eq (.call "_law_take" 36 (.cons (.var 0) (.cons (.lit (.int 3)) .nil))) (.lit (.int 0)))
    (.cons (.asg (.sub (.var 2) (.lit (.int 1))) (.blt .list (.cons (.idx (.var 2) (.lit (.int 0))) .nil)))
    .nil)
    .nil)
  (.cons (.asg (.name 5) (.bin .add (.lst (.cons (.lit (.str "")) .nil)) (.meth "Script" "lasts" 22 (.var 1) .nil)))
  (.cons (.asg (.name 6) (.lc (.of (.meth "Script" "lasts" 22 (.var 1) .nil)) 7 (.cmp .eq (.call "_law_take" 36 (.cons (.var 0) (.cons (.lit (.int 3)) .nil))) (.lit (.int 0))) (.var 7)))
  (.cons (.ret (.tup (.cons (.idx (.var 2) (.lit (.int 0))) (.cons (.idx (.var 2) (.lit (.int 1))) (.cons (.idx (.var 5) (.call "_law_take" 36 (.cons (.var 0) (.cons (.blt .len (.cons (.var 5) .nil)) .nil)))) (.cons (.var 6) .nil))))))
  .nil)))))
def ir__law_ended_76a18697 : Stms :=
  (.cons (.asg (.tup (.cons (.name 2) (.cons (.name 3) (.cons (.name 4) (.cons (.name 5) .nil))))) (.var 0))
  (.cons (.asg (.tup (.cons (.name 6) (.cons (.name 7) (.cons (.name 8) .nil)))) (.idx (.var 1) (.neg (.lit (.int 1)))))
  (.cons (.ite (.cmp .eq (.var 8) (.lit (.str "")))
    (.cons (.ret (.bin .add (.bin .add (.slc (.var 1) .none (.some (.neg (.lit (.int 1))))) (.lst (.cons (.tup (.cons (.var 6) (.cons (.var 7) (.cons (.var 4) .nil)))) .nil))) (.var 3)))
    .nil)
    .nil)
  (.cons (.ite (.cmp .inn (.var 8) (.var 5))
    (.cons (.ret (.bin .add (.var 1) (.var 3)))
    .nil)
    .nil)
  (.cons (.ret (.bin .add (.var 1) (.var 2)))
  .nil)))))
end
section
set_option Elab.async false
open PySem L2
def ir_T_Ending___init__ : Stms :=
  (.cons (.tryM
    (.cons (.fld (.var 0) "after_last" (.call "looked_over" 1067 (.cons (.var 1) (.cons (.var 2) .nil))))
    (.cons (.fld (.var 0) "after_none" (.call "looked_over" 1067 (.cons (.var 1) (.cons (.var 3) .nil))))
    .nil)) [⟨"NoPiece", some 6, 0, .dead⟩])
  (.cons (.ite (.bool false (.cons (.not_ (.val (.blt .isi (.cons (.var 4) (.cons (.ty "str") .nil))))) (.cons (.bool true (.cons (.cmp .ne (.var 4) (.lit (.str ""))) (.cons (.not_ (.val (.meth "Script" "is_last" 28 (.var 1) (.cons (.var 4) .nil)))) .nil))) (.cons (.not_ (.val (.call "are_lasts" 89 (.cons (.var 1) (.cons (.var 5) .nil))))) .nil))))
    (.cons (.raise "NoEnding")
    .nil)
    .nil)
  (.cons (.fld (.var 0) "script" (.var 1))
  (.cons (.fld (.var 0) "joined" (.var 4))
  (.cons (.fld (.var 0) "light" (.blt .list (.cons (.var 5) .nil)))
  .nil)))))
end
section
set_option Elab.async false
set_option linter.all false
set_option maxRecDepth 100000
open PySem L2
open TL
theorem PcV.isS82 {L : HL} {x : D} {ds : List D} (h : PcV L x ds) : IsS L x ds := by
  cases h with
  | tup => exact .tup _
  | lst => exact .lst (.lst _)
  | own m => exact .lst (.own m)
theorem PcV.iter82 {L L0 : HL} {x : D} {ds : List D} {R : Sq → HL → Prop} (h : PcV L0 x ds) (sub : ∀ e ∈ L0, e ∈ L) (q : ∀ live : HL → Prop, (∀ L' : HL, (∀ e ∈ L0, e ∈ L') → live L') → R ⟨ds, live⟩ L) : oIter x L R := by
  cases h with
  | tup => exact .tup (q _ fun _ _ => trivial)
  | lst => exact .frz_lst (q _ fun _ _ => trivial)
  | own m => exact .own (sub _ m) (q _ fun _ h => h _ m)
structure Enn where
  al : List Un
  an : List Un
  j : Str
  li : List Str
structure Enn.Ok (s : Scr) (e : Enn) : Prop where
  al : ∀ u ∈ e.al, IsU s u
  an : ∀ u ∈ e.an, IsU s u
  la : e.al.length ≤ 10
  ln : e.an.length ≤ 10
  j : e.j = ("" : Str) ∨ e.j ∈ s.l
  li : ∀ x ∈ e.li, x ∈ s.l
  nd : e.li.Nodup
  ll : e.li.length ≤ 40
def ennFs (s : Scr) (e : Enn) : List (Str × D) := [("after_last", .lst (e.al.map Un.d)), ("after_none", .lst (e.an.map Un.d)), ("script", s.d), ("joined", .str e.j), ("light", sts e.li)]
abbrev ennD (s : Scr) (e : Enn) : D := .ins "Ending" (ennFs s e)
theorem lkE1 (s : Scr) (e : Enn) : (ennFs s e).lookup ("after_last" : Str) = some (.lst (e.al.map Un.d)) := rfl
theorem lkE2 (s : Scr) (e : Enn) : (ennFs s e).lookup ("after_none" : Str) = some (.lst (e.an.map Un.d)) := rfl
theorem lkE3 (s : Scr) (e : Enn) : (ennFs s e).lookup ("script" : Str) = some s.d := rfl
theorem lkE4 (s : Scr) (e : Enn) : (ennFs s e).lookup ("joined" : Str) = some (.str e.j) := rfl
theorem lkE5 (s : Scr) (e : Enn) : (ennFs s e).lookup ("light" : Str) = some (sts e.li) := rfl
theorem lkE0 {s : Scr} {e : Enn} {m : Str} (q : (["after_last", "after_none", "script", "joined", "light"] : List Str).contains m = false) : (ennFs s e).lookup m = none := lk_none q
theorem pdE1 (d : D) : putD "after_last" d [] = ([("after_last", d)] : List (Str × D)) := rfl
theorem pdE2 (d c : D) : putD "after_none" d [("after_last", c)] = ([("after_last", c), ("after_none", d)] : List (Str × D)) := rfl
theorem pdE3 (d c b : D) : putD "script" d [("after_last", c), ("after_none", b)] = ([("after_last", c), ("after_none", b), ("script", d)] : List (Str × D)) := rfl
theorem pdE4 (d c b a : D) : putD "joined" d [("after_last", c), ("after_none", b), ("script", a)] = ([("after_last", c), ("after_none", b), ("script", a), ("joined", d)] : List (Str × D)) := rfl
theorem pdE5 (s : Scr) (e : Enn) : putD "light" (sts e.li) [("after_last", .lst (e.al.map Un.d)), ("after_none", .lst (e.an.map Un.d)), ("script", s.d), ("joined", .str e.j)] = ennFs s e := rfl
local macro_rules | `(tactic| walk_at "lk") => `(tactic| first | exact lkE1 _ _ | exact lkE2 _ _ | exact lkE3 _ _ | exact lkE4 _ _ | exact lkE5 _ _ | exact lkS1 _ | exact lkE0 (by decide +kernel) | exact lkS0 (by decide +kernel))
local macro_rules | `(tactic| walk_at "pd") => `(tactic| first | exact pdE1 _ | exact pdE2 _ _ | exact pdE3 _ _ _ | exact pdE4 _ _ _ _ | exact pdE5 _ _)
structure FdE (C : Ct) : Prop where
  f1 : ("after_last" : Str) ∈ C.fds "Ending"
  f2 : ("after_none" : Str) ∈ C.fds "Ending"
  f3 : ("script" : Str) ∈ C.fds "Ending"
  f4 : ("joined" : Str) ∈ C.fds "Ending"
  f5 : ("light" : Str) ∈ C.fds "Ending"
def sp_are_lasts82 : DSp := fun ds L Q E => ∃ (s : Scr) (z : D) (li : List Str), ds = [s.d, z] ∧ s.Ok ∧ PcV L z (li.map D.str) ∧ (∀ x ∈ li, x ∈ s.l) ∧ li.Nodup ∧ li.length ≤ 40 ∧ Q (.bl true) L
theorem vc_are_lasts82 {C : Ct} (e1 : C.fn 28 1 = some (2, permS (isIn (·.l)), [])) : VC 3 2 sp_are_lasts82 (wpSs C ir_are_lasts) := by
  rintro ds L Q E hl uq ue ⟨s, z, li, rfl, ok, pv, hli, nd, hl4, q⟩
  unfold ir_are_lasts
  have turn : ∀ (c : Str) (L2 : HL) (K : Qd), c ∈ li → K (.bl true) L2 → ∃ n sp dv, C.fn 28 1 = some (n, sp, dv) ∧ True := fun _ _ _ _ _ => ⟨_, _, _, e1, trivial⟩
  clear turn
  cases pv with
  | tup =>
    walk_at "go"
    refine .tup (lc_map (li.map fun _ => .bl true) (fun _ _ => trivial) (by rw [List.length_map, List.length_map]) (fun p acc i d y K hd hy k => ?_) (.inl ?_))
    · obtain ⟨c, hc, rfl⟩ := get_map hd
      obtain ⟨_, _, rfl⟩ := get_map hy
      have hc := hli c (List.mem_of_getElem? hc)
      simp only [wipeD, List.set]
      walk_at "dd"
      refine ⟨rfl, _, .refl _, s, .str c, rfl, ok, okq_str (ok.kl c hc), cl ?_⟩
      rw [show inD s.l (.str c) = true from decide_eq_true hc]
      exact k
    walk_at "dd"
    refine p_allf (.lst _) ?_
    rw [List.all_eq_true.mpr fun _ _ => rfl]
    walk_at "dd"
    refine ⟨li, .tup _, by omega, ?_⟩
    walk_at "dd"
    rw [(dcount_nodup li).mpr nd, decide_eq_true rfl]
    exact q
  | lst =>
    walk_at "go"
    refine .frz_lst (lc_map (li.map fun _ => .bl true) (fun _ _ => trivial) (by rw [List.length_map, List.length_map]) (fun p acc i d y K hd hy k => ?_) (.inl ?_))
    · obtain ⟨c, hc, rfl⟩ := get_map hd
      obtain ⟨_, _, rfl⟩ := get_map hy
      have hc := hli c (List.mem_of_getElem? hc)
      simp only [wipeD, List.set]
      walk_at "dd"
      refine ⟨rfl, _, .refl _, s, .str c, rfl, ok, okq_str (ok.kl c hc), cl ?_⟩
      rw [show inD s.l (.str c) = true from decide_eq_true hc]
      exact k
    walk_at "dd"
    refine p_allf (.lst _) ?_
    rw [List.all_eq_true.mpr fun _ _ => rfl]
    walk_at "dd"
    refine ⟨li, .lst (.lst _), by omega, ?_⟩
    walk_at "dd"
    rw [(dcount_nodup li).mpr nd, decide_eq_true rfl]
    exact q
  | own m =>
    walk_at "go"
    refine .own m (lc_map (li.map fun _ => .bl true) (fun _ _ => .tail _ m) (by rw [List.length_map, List.length_map]) (fun p acc i d y K hd hy k => ?_) (.inl ?_))
    · obtain ⟨c, hc, rfl⟩ := get_map hd
      obtain ⟨_, _, rfl⟩ := get_map hy
      have hc := hli c (List.mem_of_getElem? hc)
      simp only [wipeD, List.set]
      walk_at "dd"
      refine ⟨rfl, _, .refl _, s, .str c, rfl, ok, okq_str (ok.kl c hc), cl ?_⟩
      rw [show inD s.l (.str c) = true from decide_eq_true hc]
      exact k
    walk_at "dd"
    refine p_allf (.lst _) ?_
    rw [List.all_eq_true.mpr fun _ _ => rfl]
    walk_at "dd"
    refine ⟨li, .lst (.own m), by omega, ?_⟩
    walk_at "dd"
    rw [(dcount_nodup li).mpr nd, decide_eq_true rfl]
    exact q
def EndP (F : HL) (x : D) (us : List Un) : Prop := ∃ (d : D) (es : List D), Th F x d ∧ okr 9 d = true ∧ seqD d = some es ∧ es.map toldD = us.map Un.d
def sp_EndT : DSp := fun ds L Q E => ∃ (s : Scr) (e : Enn) (o : Addr) (x y z : D) (F : HL), ds = [.ref o, s.d, x, y, .str e.j, z] ∧ L = (o, .ins "Ending" []) :: F ∧ s.Ok ∧ e.Ok s ∧ EndP F x e.al ∧ EndP F y e.an ∧ PcV F z (e.li.map D.str) ∧ Q .non ((o, .ins "Ending" (ennFs s e)) :: F)
theorem vc_EndT {C : Ct} (F : FdE C) (ha : subAll C [⟨"NoPiece", some 6, 0, .dead⟩] = true) (e1 : C.fn 1067 2 = some (2, permS sp_lookedT, [])) (e2 : C.fn 28 1 = some (2, permS (isIn (·.l)), [])) (e3 : C.fn 89 2 = some (2, permS sp_are_lasts82, [])) : VC 7 6 sp_EndT (wpSs C ir_T_Ending___init__) := by
  rintro ds L Q E hl uq ue ⟨s, e, o, x, y, z, F0, rfl, rfl, ok, eo, ⟨d1, es1, t1, o1, q1, u1⟩, ⟨d2, es2, t2, o2, q2, u2⟩, pz, q⟩
  obtain ⟨f1, f2, f3, f4, f5⟩ := F
  have up : ∀ {c : Ch}, ∀ k ∈ F0, k ∈ (o, c) :: F0 := fun _ m => .tail _ m
  have hp1 : pieceB s d1 = true := by
    unfold pieceB
    rw [q1]
    exact all_D ok u1 eo.al
  have hp2 : pieceB s d2 = true := by
    unfold pieceB
    rw [q2]
    exact all_D ok u2 eo.an
  have hj : PyData.strOk e.j = true := by
    rcases eo.j with h | h
    · rw [h]; exact ss_nil.1
    · exact ok.kl _ h
  unfold ir_T_Ending___init__
  walk_at "go"
  refine s_tryM ha ?_
  walk_at "dd"
  refine ⟨rfl, _, .refl _, s, x, d1, rfl, ok, t1.mono up, o1, fun _ es he => .inl (cl ?_), fun h => absurd (hp1.symm.trans h) (by decide)⟩
  obtain rfl := Option.some.inj (q1.symm.trans he)
  rw [u1]
  walk_at "dd"
  refine ⟨rfl, _, .refl _, s, y, d2, rfl, ok, t2.mono up, o2, fun _ es he => .inl (cl ?_), fun h => absurd (hp2.symm.trans h) (by decide)⟩
  obtain rfl := Option.some.inj (q2.symm.trans he)
  rw [u2]
  walk_at "dd"
  refine p_nes hj ss_nil.1 ?_
  have fin : wpT C (.not_ (.val (.call "are_lasts" 89 (.cons (.var 1) (.cons (.var 5) .nil))))) [] [] (fun _ _ => True) X0 → True := fun _ => trivial
  clear fin
  by_cases hj0 : e.j = ("" : Str)
  · rw [decide_eq_false (fun h => h hj0)]
    walk_at "dd"
    refine ⟨rfl, _, .refl _, s, z, e.li, rfl, ok, pz.mono up, eo.li, eo.nd, eo.ll, cl ?_⟩
    walk_at "dd"
    refine p_list (pz.mono up).isS82 ?_
    walk_at "dd"
    exact q
  · rw [decide_eq_true hj0]
    walk_at "dd"
    refine ⟨rfl, _, .refl _, s, .str e.j, rfl, ok, okq_str hj, cl ?_⟩
    rw [show inD s.l (.str e.j) = true from decide_eq_true (eo.j.resolve_left hj0)]
    walk_at "dd"
    refine ⟨rfl, _, .refl _, s, z, e.li, rfl, ok, pz.mono up, eo.li, eo.nd, eo.ll, cl ?_⟩
    walk_at "dd"
    refine p_list (pz.mono up).isS82 ?_
    walk_at "dd"
    exact q
end
section
set_option Elab.async false
set_option linter.all false
set_option maxRecDepth 100000
open PySem L2
open TL
local macro_rules | `(tactic| walk_at "lk") => `(tactic| first | exact lkE1 _ _ | exact lkE2 _ _ | exact lkE3 _ _ | exact lkE4 _ _ | exact lkE5 _ _ | exact lkS1 _ | exact lkE0 (by decide +kernel) | exact lkS0 (by decide +kernel))
theorem blk_of82 {s : Scr} {e : D} {u : Un} (h : toldD e = u.d) (hb : IsB s u) : blkD s e = true := by
  obtain ⟨f, hf, m, hm, l, hl, rfl⟩ := hb
  have : blkD s (toldD e) = true := by
    rw [h]
    show (decide (f ∈ s.f) && (decide (m ∈ s.m) && (decide (l = "") || decide (l ∈ s.l)))) = true
    rw [decide_eq_true hf, decide_eq_true hm]
    rcases hl with rfl | hl
    · rw [decide_eq_true rfl]; rfl
    · rw [decide_eq_true hl, Bool.or_true]; rfl
  cases e <;> exact this
def sp_word82 : DSp := fun ds L Q E => ∃ (s : Scr) (x : D) (us : List Un) (es : List D), ds = [s.d, x] ∧ s.Ok ∧ Hd L x us es ∧ IsW s us ∧ Q (wD us) L
/-- a word with its ending -/
def endU (e : Enn) (vs : List Un) (f m l : Str) : List Un := if l = ("" : Str) then vs ++ [.b f m e.j] ++ e.an else if l ∈ e.li then vs ++ [.b f m l] ++ e.an else vs ++ [.b f m l] ++ e.al
theorem wD_last {vs : List Un} {f m l : Str} : wD (vs ++ [.b f m l]) = .lst (vs.map Un.d ++ [.tup [.str f, .str m, .str l]]) := congrArg D.lst (by rw [List.map_append]; rfl)
def sp_ended82 : DSp := fun ds L Q E => ∃ (s : Scr) (e : Enn) (w : D) (es : List D) (vs : List Un) (f m l : Str), ds = [ennD s e, w] ∧ s.Ok ∧ e.Ok s ∧ Hd L w (vs ++ [.b f m l]) es ∧ IsW s (vs ++ [.b f m l]) ∧ RetL ((endU e vs f m l).map Un.d) L Q
abbrev lenD (e : Enn) : D := .tup [.lst (e.al.map Un.d), .lst (e.an.map Un.d), .str e.j, sts e.li]
def sp_lended82 : DSp := fun ds L Q E => ∃ (s : Scr) (e : Enn) (vs : List Un) (f m l : Str), ds = [lenD e, wD (vs ++ [.b f m l])] ∧ s.Ok ∧ e.Ok s ∧ IsW s (vs ++ [.b f m l]) ∧ Q (.lst ((endU e vs f m l).map Un.d)) L
theorem vc_lended82 {C : Ct} : VC 9 2 sp_lended82 (wpSs C ir__law_ended_76a18697) := by
  rintro ds L Q E hl uq ue ⟨s, e, vs, f, m, l, rfl, ok, eo, hw, q⟩
  have hle := hw.le
  have la := eo.la
  have ln := eo.ln
  rw [List.length_append] at hle
  simp only [List.length_cons, List.length_nil] at hle
  have hlk : PyData.strOk l = true := by
    obtain ⟨f', _, m', _, l', hl', h⟩ := hw.b (.b f m l) (List.mem_append_right _ (.head _))
    injection h with h1 h2 h3
    subst h3
    rcases hl' with rfl | h
    · exact ss_nil.1
    · exact ok.kl _ h
  unfold endU at q
  rw [wD_last]
  unfold ir__law_ended_76a18697
  walk_at "go"
  refine .tup rfl ?_
  walk_at "dd"
  refine .seq (.lst (.lst _)) atI_end ?_
  walk_at "dd"
  refine .tup rfl ?_
  walk_at "dd"
  refine p_eqs hlk ss_nil.1 ?_
  walk_at "dd"
  by_cases h0 : l = ("" : Str)
  · rw [if_pos h0] at q
    rw [decide_eq_true h0]
    walk_at "dd"
    refine p_slc (.lst _) cutD_init ?_
    walk_at "dd"
    refine .inl ?_
    walk_at "dd"
    refine p_ladd (.lst _) (.lst _) (szl2 (by simp only [List.length_map, List.length_cons, List.length_nil]; omega)) ?_
    walk_at "dd"
    rw [List.map_append, List.map_append] at q
    exact p_ladd (.lst _) (.lst _) (szl2 (by simp only [List.length_map, List.length_append, List.length_cons, List.length_nil]; omega)) q
  · rw [if_neg h0] at q
    rw [decide_eq_false h0]
    walk_at "dd"
    refine p_in (.same _) (okq_str hlk) (strs_ok (fun x m => ok.kl x (eo.li x m)) 7) fun b hb => ?_
    rw [mem_strs] at hb
    walk_at "dd"
    refine c_b (fun h => ?_) (fun h => ?_)
    · rw [if_pos (hb.mp h), List.map_append, List.map_append] at q
      walk_at "dd"
      exact p_ladd (.lst _) (.lst _) (szl2 (by simp only [List.length_map, List.length_append, List.length_cons, List.length_nil]; omega)) q
    · rw [if_neg (fun h' => by rw [hb.mpr h'] at h; cases h), List.map_append, List.map_append] at q
      walk_at "dd"
      exact p_ladd (.lst _) (.lst _) (szl2 (by simp only [List.length_map, List.length_append, List.length_cons, List.length_nil]; omega)) q
/-- a unit as a list -/
def Un.e : Un → D
  | .b f m l => .lst [.str f, .str m, .str l]
  | u => u.d
/-- a unit, a block as an own list -/
def LsO (L : HL) (x : D) (u : Un) : Prop := (∃ z, u = .p z ∧ x = .str z) ∨ ∃ (f m l : Str) (g : Addr), u = .b f m l ∧ x = .ref g ∧ (g, Ch.lst [.str f, .str m, .str l]) ∈ L
theorem LsO.mono {L L' : HL} {x : D} {u : Un} (h : LsO L x u) (s : ∀ c ∈ L, c ∈ L') : LsO L' x u := by
  rcases h with h | ⟨f, m, l, g, h1, h2, h3⟩
  · exact .inl h
  · exact .inr ⟨f, m, l, g, h1, h2, s _ h3⟩
def LsU (L : HL) (xs : List D) (us : List Un) : Prop := xs.length = us.length ∧ ∀ (i : Nat) x u, xs[i]? = some x → us[i]? = some u → LsO L x u
theorem LsU.mono {L L' : HL} {xs : List D} {us : List Un} (h : LsU L xs us) (s : ∀ c ∈ L, c ∈ L') : LsU L' xs us := ⟨h.1, fun i x u h1 h2 => (h.2 i x u h1 h2).mono s⟩
theorem LsU.add {L : HL} {xs : List D} {us : List Un} {x : D} {u : Un} (h : LsU L xs us) (o : LsO L x u) : LsU L (xs ++ [x]) (us ++ [u]) := by
  refine ⟨by rw [List.length_append, List.length_append, h.1]; rfl, fun i y v h1 h2 => ?_⟩
  by_cases hi : i < xs.length
  · rw [List.getElem?_append_left hi] at h1
    rw [List.getElem?_append_left (by rw [← h.1]; exact hi)] at h2
    exact h.2 i y v h1 h2
  · have hl := lt_of_get h1
    rw [List.length_append] at hl
    simp only [List.length_cons, List.length_nil] at hl
    have e : i = xs.length := by omega
    subst e
    rw [List.getElem?_append_right (Nat.le_refl _), Nat.sub_self] at h1
    rw [h.1, List.getElem?_append_right (Nat.le_refl _), Nat.sub_self] at h2
    cases h1
    cases h2
    exact o
def sp_lword82 : DSp := fun ds L Q E => ∃ (s : Scr) (p : Addr) (a b : Int) (F : HL), ds = [.ref p, s.d] ∧ L = pot p a b :: F ∧ Pot a b ∧ s.Ok ∧ ∀ (us : List Un) a' b', IsW s us → us.length ≤ 4 → Pot a' b' → Q (wD us) (pot p a' b' :: F)
theorem vc_lword82 {C : Ct} (hc : C.fn 36 2 = some (2, permS sp_take, [])) (e1 : C.fn 20 0 = some (1, permS (getter fun s => sts s.f), [])) (e2 : C.fn 21 0 = some (1, permS (getter fun s => sts s.m), [])) (e3 : C.fn 22 0 = some (1, permS (getter fun s => sts s.l), [])) : VC 7 2 sp_lword82 (wpSs C ir__law_word_473392b3) := by
  rintro ds L Q E hl uq ue ⟨s, p, a, b, F, rfl, rfl, hp, ok, q⟩
  have := ok.f1
  have := ok.m1
  have := ok.f40
  have := ok.m40
  have := ok.l40
  unfold ir__law_word_473392b3
  walk_at "go"
  refine .inl ?_
  walk_at "dd"
  refine ⟨rfl, _, .refl _, s, rfl, cl ?_⟩
  refine p_ladd (.lst _) (.lst _) (szl2 (by simp only [List.length_map, List.length_cons, List.length_nil]; omega)) ?_
  walk_at "dd"
  refine .inr fun g => ?_
  walk_at "dd"
  refine p_take (by walk_at "pm") hp (by decide) (by decide) fun n a b n1 hp => ?_
  walk_at "dd"
  refine .one (by omega) (by omega) ⟨fun j σ L1 => ∃ us a b e4 e5 e6, σ = [some (.ref p), some s.d, some (.lst ([.str ""] ++ s.l.map D.str)), some (.ref g), e4, e5, e6] ∧ L1 = pot p a b :: (g, .lst (us.map Un.d)) :: F ∧ Pot a b ∧ us.length = j ∧ ∀ u ∈ us, IsB s u, ⟨[], a, b, none, none, none, rfl, rfl, hp, rfl, fun _ m => nomatch m⟩, ?_⟩
  rintro j σ L1 ⟨us, a, b, e4, e5, e6, rfl, rfl, hp, hj, hu⟩
  refine ⟨trivial, fun hi => ?_, fun d hd => ?_⟩
  · dsimp only at hi
    rw [rgD_len] at hi
    walk_at "dd"
    exact uq _ _ _ _ (.trans (.perm (.swap _ _ _)) .lst) (q us a b ⟨fun e => by rw [e] at hj; simp only [List.length_nil] at hj; omega, by omega, hu⟩ (by omega) hp)
  · have hlt := lt_of_get hd
    dsimp only at hlt
    rw [rgD_len] at hlt
    walk_at "dd"
    refine ⟨rfl, _, .refl _, s, rfl, cl ?_⟩
    walk_at "dd"
    refine ⟨rfl, _, .refl _, s, rfl, cl ?_⟩
    walk_at "dd"
    refine p_take (by walk_at "pm") hp (by omega) (by omega) fun i a b i1 hp => ?_
    have hi : i < s.f.length := by omega
    refine p_ix (j := i) (.lst (.lst _)) rfl (d := .str s.f[i]) (by rw [List.getElem?_map, List.getElem?_eq_getElem hi]; rfl) ?_
    have mi : s.f[i] ∈ s.f := List.getElem_mem hi
    generalize s.f[i] = f1 at mi ⊢
    walk_at "dd"
    refine ⟨rfl, _, .refl _, s, rfl, cl ?_⟩
    walk_at "dd"
    refine ⟨rfl, _, .refl _, s, rfl, cl ?_⟩
    walk_at "dd"
    refine p_take (by walk_at "pm") hp (by omega) (by omega) fun i a b i1 hp => ?_
    have hi : i < s.m.length := by omega
    refine p_ix (j := i) (.lst (.lst _)) rfl (d := .str s.m[i]) (by rw [List.getElem?_map, List.getElem?_eq_getElem hi]; rfl) ?_
    have mi2 : s.m[i] ∈ s.m := List.getElem_mem hi
    generalize s.m[i] = m1 at mi2 ⊢
    walk_at "dd"
    refine p_take (by walk_at "pm") hp (by simp only [List.length_append, List.length_map, List.length_cons, List.length_nil]; omega) (by simp only [List.length_append, List.length_map, List.length_cons, List.length_nil]; omega) fun i a b i1 hp => ?_
    simp only [List.length_append, List.length_map, List.length_cons, List.length_nil] at i1
    obtain ⟨l1, el, ml⟩ : ∃ l1, ([D.str ""] ++ s.l.map D.str)[i]? = some (.str l1) ∧ (l1 = ("" : Str) ∨ l1 ∈ s.l) := by
      cases i with
      | zero => exact ⟨"", rfl, .inl rfl⟩
      | succ i =>
        have hi : i < s.l.length := by omega
        exact ⟨s.l[i], by show (s.l.map D.str)[i]? = _; rw [List.getElem?_map, List.getElem?_eq_getElem hi]; rfl, .inr (List.getElem_mem hi)⟩
    refine p_ix (j := i) (.lst (.lst _)) rfl el ?_
    walk_at "dd"
    refine p_app (by walk_at "sp") (by rw [List.length_map]; omega) ?_
    walk_at "dd"
    refine ⟨_, .refl _, us ++ [.b f1 m1 l1], a, b, _, _, _, rfl, by rw [List.map_append]; rfl, hp, by rw [List.length_append, hj]; rfl, fun u mu => ?_⟩
    rcases List.mem_append.mp mu with mu | mu
    · exact hu u mu
    · rw [List.mem_singleton.mp mu]
      exact ⟨f1, mi, m1, mi2, l1, ml, rfl⟩
def sp_lend82 : DSp := fun ds L Q E => ∃ (s : Scr) (p : Addr) (a b : Int) (F : HL), ds = [.ref p, s.d] ∧ L = pot p a b :: F ∧ Pot a b ∧ s.Ok ∧ ∀ (e : Enn) a' b', e.Ok s → Pot a' b' → Q (lenD e) (pot p a' b' :: F)
def ir_lend82_3 : Stms :=
  (.cons (.asg (.name 5) (.bin .add (.lst (.cons (.lit (.str "")) .nil)) (.meth "Script" "lasts" 22 (.var 1) .nil)))
  (.cons (.asg (.name 6) (.lc (.of (.meth "Script" "lasts" 22 (.var 1) .nil)) 7 (.cmp .eq (.call "_law_take" 36 (.cons (.var 0) (.cons (.lit (.int 3)) .nil))) (.lit (.int 0))) (.var 7)))
  (.cons (.ret (.tup (.cons (.idx (.var 2) (.lit (.int 0))) (.cons (.idx (.var 2) (.lit (.int 1))) (.cons (.idx (.var 5) (.call "_law_take" 36 (.cons (.var 0) (.cons (.blt .len (.cons (.var 5) .nil)) .nil)))) (.cons (.var 6) .nil))))))
  .nil)))
def ir_lend82_1 : Stms :=
  (.cons (.asg (.name 2) (.lc (.rng (.cons (.lit (.int 2)) .nil)) 4 (.yes) (.lc (.rng (.cons (.call "_law_take" 36 (.cons (.var 0) (.cons (.lit (.int 4)) .nil))) .nil)) 3 (.yes) (.call "_law_unit" 40 (.cons (.var 0) (.cons (.var 1) .nil))))))
  (.cons (.ite (.cmp .eq (.call "_law_take" 36 (.cons (.var 0) (.cons (.lit (.int 3)) .nil))) (.lit (.int 0)))
    (.cons (.asg (.sub (.var 2) (.lit (.int 1))) (.blt .list (.cons (.idx (.var 2) (.lit (.int 0))) .nil)))
    .nil)
    .nil)
  ir_lend82_3))
theorem lend82_eq : ir__law_end_ca23d679 = ir_lend82_1 := rfl
theorem lend_3 {C : Ct} (hc : C.fn 36 2 = some (2, permS sp_take, [])) (e3 : C.fn 22 0 = some (1, permS (getter fun s => sts s.l), [])) {s : Scr} {p g : Addr} {a b : Int} {F : HL} {u1 u2 : List Un} {e3' e4 e5 e6 e7 : Option D} {D0 : DE} (hp : Pot a b) (ok : s.Ok) (hu1 : ∀ u ∈ u1, IsU s u) (hu2 : ∀ u ∈ u2, IsU s u) (l1 : u1.length ≤ 10) (l2 : u2.length ≤ 10)
    (q : ∀ (e : Enn) a' b', e.Ok s → Pot a' b' → D0.rt (lenD e) (pot p a' b' :: F)) (uq : Up D0.rt) :
    wpSs C ir_lend82_3 D0 [some (.ref p), some s.d, some (.ref g), e3', e4, e5, e6, e7] (pot p a b :: (g, .lst [wD u1, wD u2]) :: F) := by
  have h4 := ok.l40
  unfold ir_lend82_3
  walk_at "dd"
  refine .inl ?_
  walk_at "dd"
  refine ⟨rfl, _, .refl _, s, rfl, cl ?_⟩
  refine p_ladd (.lst _) (.lst _) (szl2 (by simp only [List.length_map, List.length_cons, List.length_nil]; omega)) ?_
  walk_at "dd"
  refine ⟨rfl, _, .refl _, s, rfl, cl ?_⟩
  walk_at "dd"
  refine .frz_lst ⟨fun i acc L2 => ∃ a b es, acc = es.map D.str ∧ es.Sublist (s.l.take i) ∧ L2 = pot p a b :: (g, .lst [wD u1, wD u2]) :: F ∧ Pot a b, ⟨a, b, [], rfl, .slnil, rfl, hp⟩, ?_⟩
  rintro f i acc L2 ⟨a, b, es, rfl, hes, rfl, hp⟩
  refine ⟨trivial, fun hi => .inl ?_, fun d hd => ?_⟩
  rotate_left
  · obtain ⟨z, hz, rfl⟩ := get_map hd
    simp only [wipeD, List.set]
    walk_at "dd"
    refine p_take (by walk_at "pm") hp (by decide) (by decide) fun r a b r1 hp => ?_
    walk_at "dd"
    have hcut := take_next hz
    by_cases h : (r : Int) = 0
    · rw [if_pos (decide_eq_true h)]
      walk_at "dd"
      refine ⟨_, .perm (.swap _ _ _), a, b, es ++ [z], by rw [List.map_append]; rfl, ?_, rfl, hp⟩
      rw [hcut]
      exact hes.append (.refl _)
    · rw [if_neg (by rw [decide_eq_false h]; decide)]
      refine ⟨_, .perm (.swap _ _ _), a, b, es, rfl, ?_, rfl, hp⟩
      rw [hcut]
      exact hes.trans (List.sublist_append_left _ _)
  have hi : i = s.l.length := by rw [hi, List.length_map]
  rw [hi, List.take_length] at hes
  have hle := hes.length_le
  walk_at "dd"
  refine p_ix (j := 0) (.lst (.own (by walk_at "mem"))) rfl (d := wD u1) rfl ?_
  walk_at "dd"
  refine p_ix (j := 1) (.lst (.own (by walk_at "mem"))) rfl (d := wD u2) rfl ?_
  walk_at "dd"
  refine p_take (by walk_at "pm") hp (by simp only [List.length_append, List.length_map, List.length_cons, List.length_nil]; omega) (by simp only [List.length_append, List.length_map, List.length_cons, List.length_nil]; omega) fun i a b i1 hp => ?_
  simp only [List.length_append, List.length_map, List.length_cons, List.length_nil] at i1
  obtain ⟨l1', el, ml⟩ : ∃ l1, ([D.str ""] ++ s.l.map D.str)[i]? = some (.str l1) ∧ (l1 = ("" : Str) ∨ l1 ∈ s.l) := by
    cases i with
    | zero => exact ⟨"", rfl, .inl rfl⟩
    | succ i =>
      have hi : i < s.l.length := by omega
      exact ⟨s.l[i], by show (s.l.map D.str)[i]? = _; rw [List.getElem?_map, List.getElem?_eq_getElem hi]; rfl, .inr (List.getElem_mem hi)⟩
  refine p_ix (j := i) (.lst (.lst _)) rfl el ?_
  walk_at "dd"
  exact uq _ _ _ _ (.sub (.cons_cons _ (.cons _ (.refl _)))) (q ⟨u1, u2, l1', es⟩ a b ⟨hu1, hu2, l1, l2, ml, fun x m => hes.subset m, ok.nl.sublist hes, by show es.length ≤ 40; omega⟩ hp)
theorem vc_lend82 {C : Ct} (hc : C.fn 36 2 = some (2, permS sp_take, [])) (e1 : C.fn 40 2 = some (2, permS sp_unit, [])) (e3 : C.fn 22 0 = some (1, permS (getter fun s => sts s.l), [])) : VC 8 2 sp_lend82 (wpSs C ir__law_end_ca23d679) := by
  rintro ds L Q E hl uq ue ⟨s, p, a, b, F, rfl, rfl, hp, ok, q⟩
  have := ok.l40
  rw [lend82_eq]
  unfold ir_lend82_1
  walk_at "go"
  refine .one (by omega) (by omega) ⟨fun i acc L2 => ∃ a b uss, acc = uss.map wD ∧ uss.length = i ∧ (∀ us ∈ uss, (∀ u ∈ us, IsU s u) ∧ us.length ≤ 10) ∧ L2 = pot p a b :: F ∧ Pot a b, ⟨a, b, [], rfl, rfl, (fun _ m => nomatch m), rfl, hp⟩, ?_⟩
  rintro f i acc L2 ⟨a, b, uss, rfl, hi0, hu, rfl, hp⟩
  refine ⟨trivial, fun hi => .inr fun g => ?_, fun d hd => ?_⟩
  rotate_left
  · simp only [wipeD, List.set]
    walk_at "dd"
    rw [if_pos rfl]
    walk_at "dd"
    refine p_take (by walk_at "pm") hp (by decide) (by decide) fun n a b n1 hp => ?_
    walk_at "dd"
    refine .one (by omega) (by omega) ⟨fun j acc2 L3 => ∃ a b us, acc2 = us.map Un.d ∧ us.length = j ∧ (∀ u ∈ us, IsU s u) ∧ L3 = pot p a b :: (f, .lst (uss.map wD)) :: F ∧ Pot a b, ⟨a, b, [], rfl, rfl, (fun _ m => nomatch m), rfl, hp⟩, ?_⟩
    rintro f2 j acc2 L3 ⟨a, b, us, rfl, hj0, hus, rfl, hp⟩
    refine ⟨trivial, fun hj => .inl ?_, fun d2 hd2 => ?_⟩
    · dsimp only at hj
      rw [rgD_len] at hj
      refine ⟨_, .perm (.swap _ _ _), a, b, uss ++ [us], by rw [List.map_append]; rfl, by rw [List.length_append, hi0]; rfl, fun v m => ?_, rfl, hp⟩
      rcases List.mem_append.mp m with m | m
      · exact hu v m
      · rw [List.mem_singleton.mp m]
        exact ⟨hus, by omega⟩
    · simp only [wipeD, List.set]
      walk_at "dd"
      rw [if_pos rfl]
      walk_at "dd"
      refine ⟨rfl, _, by walk_at "pm", s, p, a, b, _, rfl, rfl, hp, ok, fun u a b hU hp => cl ?_⟩
      refine ⟨_, .perm (.swap _ _ _), a, b, us ++ [u], by rw [List.map_append]; rfl, by rw [List.length_append, hj0]; rfl, fun v m => ?_, rfl, hp⟩
      rcases List.mem_append.mp m with m | m
      · exact hus v m
      · rw [List.mem_singleton.mp m]
        exact hU
  dsimp only at hi
  rw [rgD_len] at hi
  obtain ⟨u1, u2, rfl⟩ : ∃ u1 u2, uss = [u1, u2] := by
    have : uss.length = 2 := by omega
    match uss, this with
    | [u1, u2], _ => exact ⟨u1, u2, rfl⟩
  obtain ⟨hu1, l1⟩ := hu u1 (.head _)
  obtain ⟨hu2, l2⟩ := hu u2 (.tail _ (.head _))
  clear hu hi hi0
  walk_at "dd"
  refine p_take (by walk_at "pm") hp (by decide) (by decide) fun t a b t1 hp => ?_
  walk_at "dd"
  refine c_b (fun h => ?_) (fun h => ?_)
  · walk_at "dd"
    refine p_ix (j := 0) (.lst (.own (by walk_at "mem"))) rfl (d := wD u1) rfl ?_
    refine p_list (.lst (.lst _)) ?_
    walk_at "dd"
    refine .lst (.there .here) (j := 1) rfl ?_
    exact lend_3 hc e3 hp ok hu1 hu1 l1 l1 q uq
  · exact lend_3 hc e3 hp ok hu1 hu2 l1 l2 q uq
end
section
set_option Elab.async false
open PySem L2
end
section
set_option Elab.async false
set_option linter.all false
set_option maxRecDepth 100000
open PySem L2
end
section
set_option Elab.async false
open PySem L2
end
section
set_option Elab.async false
set_option linter.all false
set_option maxRecDepth 100000
open PySem L2
def endsS (s : Scr) : List Str := "" :: s.l
theorem vc_ends13 {C : Ct} (F : FdS C) : VC 1 1 (getterO fun s => sts (endsS s)) (wpSs C ir_Script_ends) := by
  rintro ds L Q E hl uq ue ⟨s, rfl, ok, q⟩
  obtain ⟨f1, f2, f3, f4⟩ := F
  have := ok.l40
  unfold ir_Script_ends
  walk_at "go"
  refine .inl ?_
  walk_at "dd"
  refine p_ladd (.lst _) (.lst _) (szl2 (by rw [List.length_map]; simp; omega)) ?_
  exact q
theorem small_mul {a b : Nat} (ha : a ≤ 2000) (hb : b ≤ 2000) : (a : Int).natAbs.log2 + (b : Int).natAbs.log2 < 1000000 := by
  have h : ∀ n : Nat, n ≤ 2000 → (n : Int).natAbs.log2 < 20 := fun n hn => by
    by_cases h0 : (n : Int).natAbs = 0
    · rw [h0]; decide
    · exact (Nat.log2_lt h0).mpr (by omega)
  have := h a ha
  have := h b hb
  omega
theorem mul_le' {a b x y : Nat} (h1 : a ≤ x) (h2 : b ≤ y) : a * b ≤ x * y := Nat.mul_le_mul h1 h2
theorem len_ends (s : Scr) : (endsS s).length = s.l.length + 1 := rfl
/-- the block of a place -/
def blkAt (s : Scr) (q : Nat) (a b c : Str) : Prop := s.f[q / (s.l.length + 1) / s.m.length]? = some a ∧ s.m[q / (s.l.length + 1) % s.m.length]? = some b ∧ (endsS s)[q % (s.l.length + 1)]? = some c
theorem blk_num {m e q : Nat} (hm : 0 < m) : (q / e / m * m + q / e % m) * e + q % e = q := by
  rw [Nat.mul_comm (q / e / m) m, Nat.div_add_mod, Nat.mul_comm, Nat.div_add_mod]
theorem end_ok {s : Scr} (ok : s.Ok) : ∀ c ∈ endsS s, PyData.strOk c = true := fun c m => (List.mem_cons.mp m).elim (fun e => e ▸ ss_nil.1) fun m => ok.kl c m
theorem end_nd {s : Scr} (ok : s.Ok) : (endsS s).Nodup := List.nodup_cons.mpr ⟨fun m => (ok.pl "" m).1 (by decide +kernel), ok.nl⟩
theorem p_index {x : D} {xs : List Str} {j : Nat} {y : Str} {L : HL} {Q : Qd} (h : IsL L x (xs.map D.str)) (nd : xs.Nodup) (hj : xs[j]? = some y) (q : Q (.int (j : Int)) L) : wpMf .index x [.str y] L Q := by
  have fl : ∀ zs : List Str, (zs.map D.str).all flatD = true := fun zs => List.all_eq_true.mpr fun d hd => by
    obtain ⟨_, _, rfl⟩ := List.mem_map.mp hd
    rfl
  refine .mk (j := j) (z := .str y) h rfl (fl xs) (by rw [List.getElem?_map, hj]; rfl) ?_ (fun m hm u hu => ?_) q
  · show (y == y) = true
    exact beq_self_eq_true y
  · obtain ⟨w, hw, rfl⟩ := get_map hu
    show (w == y) = false
    refine beq_eq_false_iff_ne.mpr fun e => ?_
    subst e
    have h1 := lt_of_get hw
    have h2 := lt_of_get hj
    rw [List.getElem?_eq_getElem h1] at hw
    rw [List.getElem?_eq_getElem h2] at hj
    have := (List.getElem_inj (h₀ := h1) (h₁ := h2) nd).mp ((Option.some.inj hw).trans (Option.some.inj hj).symm)
    omega
def sp_number13 : DSp := fun ds L Q E => ∃ (s : Scr) (x : D) (q : Nat) (a b c : Str), ds = [s.d, x] ∧ (x = .tup [.str a, .str b, .str c] ∨ x = .lst [.str a, .str b, .str c]) ∧ s.Ok ∧ blkAt s q a b c ∧ Q (.int (s.b + (q : Int))) L
theorem vc_number13 {C : Ct} (F : FdS C) (e1 : C.fn 29 1 = some (2, permS sp_has_block2, [])) (e2 : C.fn 30 0 = some (1, permS (getterO fun s => sts (endsS s)), [])) : VC 6 2 sp_number13 (wpSs C ir_Script_number) := by
  rintro ds L Q E hl uq ue ⟨s, x, n, a, b, c, rfl, hx, ok, ⟨h1, h2, h3⟩, q⟩
  obtain ⟨f1, f2, f3, f4⟩ := F
  have z1 := ok.f40
  have z2 := ok.m40
  have z3 := ok.l40
  have hm : 0 < s.m.length := ok.m1
  have ma := List.mem_of_getElem? h1
  have mb := List.mem_of_getElem? h2
  have mc := List.mem_of_getElem? h3
  have hb : blk3 s [.str a, .str b, .str c] = true := by
    show (decide (a ∈ s.f) && (decide (b ∈ s.m) && (decide (c = "") || decide (c ∈ s.l)))) = true
    rw [decide_eq_true ma, decide_eq_true mb]
    rcases List.mem_cons.mp mc with rfl | mc
    · rfl
    · rw [decide_eq_true mc]
      simp
  have o3 : ∀ d ∈ ([.str a, .str b, .str c] : List D), okq 7 d = true := fun d hd => by
    simp only [List.mem_cons, List.not_mem_nil, or_false] at hd
    rcases hd with rfl | rfl | rfl
    · exact okq_str (ok.kf a ma)
    · exact okq_str (ok.km b mb)
    · exact okq_str (end_ok ok c mc)
  have hn := blk_num (m := s.m.length) (e := s.l.length + 1) (q := n) hm
  have hlt1 := lt_of_get h1
  have hlt2 := lt_of_get h2
  generalize n / (s.l.length + 1) / s.m.length = i at *
  generalize n / (s.l.length + 1) % s.m.length = j at *
  generalize n % (s.l.length + 1) = k at *
  unfold ir_Script_number
  rcases hx with rfl | rfl
  all_goals
    walk_at "go"
    refine ⟨rfl, _, .refl _, s, _, rfl, ok, by first | exact okqs_iff.mpr o3, cl ?_⟩
    first
      | rw [show blkD s (.tup [.str a, .str b, .str c]) = true from hb]
      | rw [show blkD s (.lst [.str a, .str b, .str c]) = true from hb]
    walk_at "dd"
    first
      | refine .tup rfl ?_
      | refine .lst (.lst _) rfl ?_
    walk_at "dd"
    refine p_index (.lst _) ok.nf h1 ?_
    walk_at "dd"
    refine p_mul (small_mul (by omega) (by omega)) ?_
    walk_at "dd"
    refine p_index (.lst _) ok.nm h2 ?_
    walk_at "dd"
    refine ⟨rfl, _, .refl _, s, rfl, ok, cl ?_⟩
    walk_at "dd"
    have e : (i : Int) * (s.m.length : Int) + (j : Int) = ((i * s.m.length + j : Nat) : Int) := by push_cast; rfl
    rw [e]
    have hb1 := mul_le' (Nat.le_of_lt hlt1) z2
    refine p_mul (small_mul (by omega) (by show s.l.length + 1 ≤ 2000; omega)) ?_
    walk_at "dd"
    refine ⟨rfl, _, .refl _, s, rfl, ok, cl ?_⟩
    walk_at "dd"
    refine p_index (.lst _) (end_nd ok) h3 ?_
    walk_at "dd"
    have e2 : ((i * s.m.length + j : Nat) : Int) * ((endsS s).length : Int) = (((i * s.m.length + j) * (s.l.length + 1) : Nat) : Int) := by rw [len_ends]; push_cast; rfl
    rw [e2]
    have e3 : s.b + (((i * s.m.length + j) * (s.l.length + 1) : Nat) : Int) + (k : Int) = s.b + (n : Int) := by
      rw [← hn]
      omega
    rw [e3]
    exact q
end
section
set_option Elab.async false
open PySem L2
end
section
set_option Elab.async false
set_option linter.all false
set_option maxRecDepth 100000
open PySem L2
end
section
set_option Elab.async false
set_option linter.all false
set_option maxRecDepth 100000
open PySem L2
section
end
end
section
set_option Elab.async false
set_option linter.all false
set_option maxRecDepth 100000
open PySem L2
def ix71 : List Str → Str → Nat
  | [], _ => 0
  | y :: ys, x => if y = x then 0 else ix71 ys x + 1
theorem ix71_get {x : Str} : ∀ {ys : List Str}, x ∈ ys → ys[ix71 ys x]? = some x
  | y :: ys, m => by
    unfold ix71
    by_cases h : y = x
    · rw [if_pos h, h]
      rfl
    · rw [if_neg h]
      exact ix71_get ((List.mem_cons.mp m).resolve_left fun e => h e.symm)
theorem ix71_inj {ys : List Str} {x z : Str} (hx : x ∈ ys) (hz : z ∈ ys) (e : ix71 ys x = ix71 ys z) : x = z := by
  have := ix71_get hx
  rw [e, ix71_get hz] at this
  exact (Option.some.inj this).symm
theorem radix71 {a b a' b' E : Nat} (hb : b < E) (hb' : b' < E) (e : a * E + b = a' * E + b') : a = a' ∧ b = b' := by
  rcases Nat.lt_trichotomy a a' with h | h | h
  · have := Nat.mul_le_mul_right E h
    rw [Nat.succ_mul] at this
    omega
  · subst h
    omega
  · have := Nat.mul_le_mul_right E h
    rw [Nat.succ_mul] at this
    omega
def num71 (s : Scr) (a m l : Str) : Nat := (ix71 s.f a * s.m.length + ix71 s.m m) * (s.l.length + 1) + ix71 (endsS s) l
def rk71 (s : Scr) : Un → Nat × Nat
  | .n => (0, 0)
  | .p x => if x ∈ s.f then (0, ix71 s.f x) else (1, ix71 s.m x)
  | .b a m l => (2, num71 s a m l)
theorem rk71_p {s : Scr} {x : Str} : rk71 s (.p x) = if x ∈ s.f then (0, ix71 s.f x) else (1, ix71 s.m x) := rfl
theorem num71_inj {s : Scr} {a m l a' m' l' : Str} (h1 : a ∈ s.f) (h2 : m ∈ s.m) (h3 : l ∈ endsS s) (h1' : a' ∈ s.f) (h2' : m' ∈ s.m) (h3' : l' ∈ endsS s) (e : num71 s a m l = num71 s a' m' l') : a = a' ∧ m = m' ∧ l = l' := by
  obtain ⟨e1, e2⟩ := radix71 (lt_of_get (ix71_get h3)) (lt_of_get (ix71_get h3')) e
  obtain ⟨e3, e4⟩ := radix71 (lt_of_get (ix71_get h2)) (lt_of_get (ix71_get h2')) e1
  exact ⟨ix71_inj h1 h1' e3, ix71_inj h2 h2' e4, ix71_inj h3 h3' e2⟩
theorem num71_blk {s : Scr} {a m l : Str} (h1 : a ∈ s.f) (h2 : m ∈ s.m) (h3 : l ∈ endsS s) : blkAt s (num71 s a m l) a m l := by
  have k2 := lt_of_get (ix71_get h2)
  have k3 : ix71 (endsS s) l < s.l.length + 1 := lt_of_get (ix71_get h3)
  have d1 := Nat.div_add_mod' (num71 s a m l) (s.l.length + 1)
  obtain ⟨e1, e2⟩ := radix71 (Nat.mod_lt _ (Nat.succ_pos _)) k3 (d1.trans rfl)
  have d2 := Nat.div_add_mod' (num71 s a m l / (s.l.length + 1)) s.m.length
  obtain ⟨e3, e4⟩ := radix71 (Nat.mod_lt _ (by omega)) k2 (d2.trans e1)
  exact ⟨by rw [e3]; exact ix71_get h1, by rw [e4]; exact ix71_get h2, by rw [e2]; exact ix71_get h3⟩
theorem ends71 {s : Scr} {l : Str} (h : l = ("" : Str) ∨ l ∈ s.l) : l ∈ endsS s := List.mem_cons.mpr h
theorem rk71_inj {s : Scr} {u v : Un} (hu : IsU s u) (hv : IsU s v) (e : rk71 s u = rk71 s v) : u = v := by
  have pp : ∀ {x z : Str}, (x ∈ s.f ∨ x ∈ s.m) → (z ∈ s.f ∨ z ∈ s.m) → rk71 s (.p x) = rk71 s (.p z) → x = z := fun {x z} hx hz e => by
    rw [rk71_p, rk71_p] at e
    by_cases h1 : x ∈ s.f <;> by_cases h2 : z ∈ s.f
    · rw [if_pos h1, if_pos h2] at e
      exact ix71_inj h1 h2 (congrArg Prod.snd e)
    · rw [if_pos h1, if_neg h2] at e
      exact absurd (congrArg Prod.fst e) (show (0 : Nat) ≠ 1 by decide)
    · rw [if_neg h1, if_pos h2] at e
      exact absurd (congrArg Prod.fst e) (show (1 : Nat) ≠ 0 by decide)
    · rw [if_neg h1, if_neg h2] at e
      exact ix71_inj (hx.resolve_left h1) (hz.resolve_left h2) (congrArg Prod.snd e)
  have pb : ∀ {x a m l : Str}, rk71 s (.p x) ≠ rk71 s (.b a m l) := fun {x a m l} e => by
    have := congrArg Prod.fst e
    rw [rk71_p] at this
    by_cases h : x ∈ s.f
    · rw [if_pos h] at this
      exact absurd this (show (0 : Nat) ≠ 2 by decide)
    · rw [if_neg h] at this
      exact absurd this (show (1 : Nat) ≠ 2 by decide)
  have hu' : (∃ x, (x ∈ s.f ∨ x ∈ s.m) ∧ u = .p x) ∨ ∃ a m l, a ∈ s.f ∧ m ∈ s.m ∧ l ∈ endsS s ∧ u = .b a m l := by
    rcases hu with ⟨x, hx, rfl⟩ | ⟨x, hx, rfl⟩ | ⟨f, hf, m, hm, l, hl, rfl⟩
    · exact .inl ⟨x, .inl hx, rfl⟩
    · exact .inl ⟨x, .inr hx, rfl⟩
    · exact .inr ⟨f, m, l, hf, hm, ends71 hl, rfl⟩
  have hv' : (∃ x, (x ∈ s.f ∨ x ∈ s.m) ∧ v = .p x) ∨ ∃ a m l, a ∈ s.f ∧ m ∈ s.m ∧ l ∈ endsS s ∧ v = .b a m l := by
    rcases hv with ⟨x, hx, rfl⟩ | ⟨x, hx, rfl⟩ | ⟨f, hf, m, hm, l, hl, rfl⟩
    · exact .inl ⟨x, .inl hx, rfl⟩
    · exact .inl ⟨x, .inr hx, rfl⟩
    · exact .inr ⟨f, m, l, hf, hm, ends71 hl, rfl⟩
  rcases hu' with ⟨x, hx, rfl⟩ | ⟨a, m, l, h1, h2, h3, rfl⟩ <;> rcases hv' with ⟨z, hz, rfl⟩ | ⟨a', m', l', h1', h2', h3', rfl⟩
  · rw [pp hx hz e]
  · exact absurd e pb
  · exact absurd e.symm pb
  · obtain ⟨rfl, rfl, rfl⟩ := num71_inj h1 h2 h3 h1' h2' h3' (congrArg Prod.snd e)
    rfl
def lt71 (s : Scr) (u v : Un) : Bool := decide ((rk71 s u).1 < (rk71 s v).1 ∨ ((rk71 s u).1 = (rk71 s v).1 ∧ (rk71 s u).2 < (rk71 s v).2))
def ah71 (s : Scr) : List Un → List Un → Bool
  | [], [] => false
  | [], _ :: _ => true
  | _ :: _, [] => false
  | x :: xs, y :: ys => if x = y then ah71 s xs ys else lt71 s x y
theorem ah71_cc {s : Scr} {x y : Un} {xs ys : List Un} : ah71 s (x :: xs) (y :: ys) = if x = y then ah71 s xs ys else lt71 s x y := by rw [ah71]
end
section
set_option Elab.async false
open PySem L2
def ir_Ending_stems : Stms :=
  (.cons (.asg (.name 2) (.lst .nil))
  (.cons (.for_ (.name 3) (.of (.tup (.cons (.fld (.var 0) "after_last") (.cons (.fld (.var 0) "after_none") .nil))))
    (.cons (.asg (.name 4) (.bin .sub (.blt .len (.cons (.var 1) .nil)) (.blt .len (.cons (.var 3) .nil))))
    (.cons (.ite (.bool true (.cons (.cmp .gt (.var 4) (.lit (.int 0))) (.cons (.cmp .eq (.slc (.var 1) (.some (.var 4)) .none) (.var 3)) .nil)))
      (.cons (.drop (.mth .append (.var 2) (.cons (.slc (.var 1) .none (.some (.var 4))) .nil)))
      .nil)
      .nil)
    .nil)))
  (.cons (.for_ (.name 5) (.of (.blt .list (.cons (.var 2) .nil)))
    (.cons (.ite (.bool true (.cons (.cmp .ne (.fld (.var 0) "joined") (.lit (.str ""))) (.cons (.val (.blt .isi (.cons (.idx (.var 5) (.neg (.lit (.int 1)))) (.cons (.ty "tuple") .nil)))) (.cons (.cmp .eq (.idx (.idx (.var 5) (.neg (.lit (.int 1)))) (.lit (.int 2))) (.fld (.var 0) "joined")) .nil))))
      (.cons (.drop (.mth .append (.var 2) (.cons (.bin .add (.slc (.var 5) .none (.some (.neg (.lit (.int 1))))) (.lst (.cons (.bin .add (.slc (.idx (.var 5) (.neg (.lit (.int 1)))) .none (.some (.lit (.int 2)))) (.tup (.cons (.lit (.str "")) .nil))) .nil))) .nil)))
      .nil)
      .nil)
    .nil))
  (.cons (.ret (.var 2))
  .nil))))
def ir_Ending_unended : Stms :=
  (.cons (.asg (.name 2) (.call "looked_over" 67 (.cons (.fld (.var 0) "script") (.cons (.var 1) .nil))))
  (.cons (.asg (.name 3) (.lst .nil))
  (.cons (.for_ (.name 4) (.of (.meth "Ending" "stems" 92 (.var 0) (.cons (.var 2) .nil)))
    (.cons (.asg (.name 5) (.call "word_of" 454 (.cons (.fld (.var 0) "script") (.cons (.var 4) .nil))))
    (.cons (.ite (.bool true (.cons (.cmp .isnt (.var 5) (.lit .non)) (.cons (.cmp .nin (.var 5) (.var 3)) (.cons (.cmp .eq (.meth "Ending" "ended" 91 (.var 0) (.cons (.var 5) .nil)) (.var 2)) .nil))))
      (.cons (.drop (.mth .append (.var 3) (.cons (.var 5) .nil)))
      .nil)
      .nil)
    .nil)))
  (.cons (.ret (.sortm "Ending" "numbers" 94 (.var 3) 0))
  .nil))))
def ir_Ending_numbers : Stms :=
  (.cons (.ret (.lc (.of (.var 1)) 2 (.yes) (.meth "Script" "number" 32 (.fld (.var 0) "script") (.cons (.var 2) .nil))))
  .nil)
end
section
set_option Elab.async false
set_option linter.all false
set_option maxRecDepth 100000
open PySem L2
open TL
local macro_rules | `(tactic| walk_at "lk") => `(tactic| first | exact lkE1 _ _ | exact lkE2 _ _ | exact lkE3 _ _ | exact lkE4 _ _ | exact lkE5 _ _ | exact lkS1 _ | exact lkE0 (by decide +kernel) | exact lkS0 (by decide +kernel))
theorem isB_of84 {s : Scr} {e : D} {u : Un} (h : toldD e = u.d) (hu : IsU s u) (hb : blkD s e = true) : IsB s u := by
  rcases hu with ⟨x, _, rfl⟩ | ⟨x, _, rfl⟩ | h
  · cases e <;> first | (cases h; done) | (cases h; cases (show false = true from hb))
  · cases e <;> first | (cases h; done) | (cases h; cases (show false = true from hb))
  · exact h
def cutU (us t : List Un) : List (List Un) := if t.length < us.length ∧ us.drop (us.length - t.length) = t then [us.take (us.length - t.length)] else []
def joinU (j : Str) (st : List Un) : List (List Un) := match st.getLast? with
  | some (.b f m l) => if j ≠ ("" : Str) ∧ l = j then [st.dropLast ++ [.b f m ""]] else []
  | _ => []
def stems0 (e : Enn) (us : List Un) : List (List Un) := cutU us e.al ++ cutU us e.an
def stemsU (e : Enn) (us : List Un) : List (List Un) := stems0 e us ++ (stems0 e us).flatMap (joinU e.j)
theorem cutU_le {us t : List Un} : (cutU us t).length ≤ 1 := by
  unfold cutU
  split <;> simp
theorem cutU_mem {us t v : List Un} (h : v ∈ cutU us t) : v ≠ [] ∧ us = v ++ t := by
  unfold cutU at h
  split at h
  · rename_i c
    rw [List.mem_singleton.mp h]
    refine ⟨fun e => ?_, ?_⟩
    · have := congrArg List.length e
      rw [List.length_take, List.length_nil] at this
      omega
    · conv => lhs; rw [← List.take_append_drop (us.length - t.length) us]
      rw [c.2]
  · cases h
theorem mem_cutU {t v : List Un} (h : v ≠ []) : v ∈ cutU (v ++ t) t := by
  unfold cutU
  have hl : (v ++ t).length - t.length = v.length := by rw [List.length_append]; omega
  have hv : 0 < v.length := List.length_pos_iff.mpr h
  rw [hl, List.drop_left, List.take_left, if_pos ⟨by rw [List.length_append]; omega, rfl⟩]
  exact .head _
def nbU (s : Scr) : Un → Int
  | .b f m l => s.b + (num71 s f m l : Int)
  | _ => 0
def nbs (s : Scr) (w : List Un) : List Int := w.map (nbU s)
theorem nbU_inj {s : Scr} {u v : Un} (hu : IsB s u) (hv : IsB s v) (e : nbU s u = nbU s v) : u = v := by
  obtain ⟨f, hf, m, hm, l, hl, rfl⟩ := hu
  obtain ⟨f', hf', m', hm', l', hl', rfl⟩ := hv
  have e2 : s.b + (num71 s f m l : Int) = s.b + (num71 s f' m' l' : Int) := e
  obtain ⟨rfl, rfl, rfl⟩ := num71_inj hf hm (ends71 hl) hf' hm' (ends71 hl') (by omega)
  rfl
theorem nbs_inj {s : Scr} : ∀ {v w : List Un}, (∀ u ∈ v, IsB s u) → (∀ u ∈ w, IsB s u) → nbs s v = nbs s w → v = w
  | [], [], _, _, _ => rfl
  | [], _ :: _, _, _, e => by cases e
  | _ :: _, [], _, _, e => by cases e
  | x :: v, y :: w, h1, h2, e => by
    have e' : nbU s x :: nbs s v = nbU s y :: nbs s w := e
    injection e' with e1 e2
    rw [nbU_inj (h1 x (.head _)) (h2 y (.head _)) e1, nbs_inj (fun u m => h1 u (.tail _ m)) (fun u m => h2 u (.tail _ m)) e2]
def endW (e : Enn) (w : List Un) : List Un := match w.getLast? with
  | some (.b f m l) => endU e w.dropLast f m l
  | _ => []
theorem endW_snoc {e : Enn} {vs : List Un} {f m l : Str} : endW e (vs ++ [.b f m l]) = endU e vs f m l := by
  unfold endW
  rw [List.getLast?_concat, List.dropLast_concat]
theorem wcut84 {s : Scr} {w : List Un} (ne : w ≠ []) (h : ∀ u ∈ w, IsB s u) : ∃ vs f m l, w = vs ++ [Un.b f m l] := by
  obtain ⟨f, _, m, _, l, _, e⟩ := h _ (List.getLast_mem ne)
  exact ⟨w.dropLast, f, m, l, by rw [← e, List.dropLast_concat_getLast]⟩
structure Good (s : Scr) (e : Enn) (us : List Un) (ws : List (List Un)) : Prop where
  nd : ws.Nodup
  so : ws.Pairwise fun v w => nbs s v ≤ nbs s w
  mem : ∀ w, w ∈ ws ↔ w ≠ [] ∧ (∀ u ∈ w, IsB s u) ∧ endW e w = us
theorem stems_all {s : Scr} {e : Enn} {us w : List Un} (ne : w ≠ []) (hb : ∀ u ∈ w, IsB s u) (h : endW e w = us) : w ∈ stemsU e us := by
  obtain ⟨vs, f, m, l, rfl⟩ := wcut84 ne hb
  rw [endW_snoc] at h
  unfold endU at h
  unfold stemsU stems0
  by_cases h0 : l = ("" : Str)
  · rw [if_pos h0] at h
    have h1 : vs ++ [Un.b f m e.j] ∈ cutU us e.an := by
      rw [← h]
      exact mem_cutU (by simp)
    by_cases hj : e.j = ("" : Str)
    · rw [hj] at h1
      rw [h0]
      exact List.mem_append_left _ (List.mem_append_right _ h1)
    · refine List.mem_append_right _ (List.mem_flatMap.mpr ⟨_, List.mem_append_right _ h1, ?_⟩)
      unfold joinU
      rw [List.getLast?_concat]
      dsimp only
      rw [if_pos ⟨hj, rfl⟩, List.dropLast_concat, h0]
      exact .head _
  · rw [if_neg h0] at h
    by_cases hl : l ∈ e.li
    · rw [if_pos hl] at h
      rw [← h]
      exact List.mem_append_left _ (List.mem_append_right _ (mem_cutU (by simp)))
    · rw [if_neg hl] at h
      rw [← h]
      exact List.mem_append_left _ (List.mem_append_left _ (mem_cutU (by simp)))
theorem good_one {s : Scr} {xs ys : List (List Un)} (h1 : xs.Pairwise fun v w => nbs s v ≤ nbs s w) (h2 : ys.Pairwise fun v w => nbs s v ≤ nbs s w) (n1 : xs.Nodup) (n2 : ys.Nodup) (hb : ∀ w ∈ xs, ∀ u ∈ w, IsB s u) (m : ∀ w, w ∈ xs ↔ w ∈ ys) : xs = ys :=
  List.Perm.eq_of_pairwise (fun a b ha hb' h k => nbs_inj (hb a ha) (hb b ((m b).mpr hb')) (List.le_antisymm h k)) h1 h2 ((List.perm_ext_iff_of_nodup n1 n2).mpr m)
theorem okw84 {s : Scr} (ok : s.Ok) {us : List Un} (h : ∀ u ∈ us, IsU s u) : okq 8 (wD us) = true := by
  unfold okq
  refine okqs_iff.mpr fun d m => ?_
  obtain ⟨u, mu, rfl⟩ := List.mem_map.mp m
  exact okq_up (by decide : 6 ≤ 7) (uD_ok7 ok (h u mu))
theorem flat_le84 {f : List Un → List (List Un)} (h : ∀ x, (f x).length ≤ 1) : ∀ l : List (List Un), (l.flatMap f).length ≤ l.length
  | [] => Nat.le_refl _
  | x :: l => by
    rw [List.flatMap_cons, List.length_append, List.length_cons]
    have := flat_le84 h l
    have := h x
    omega
theorem joinU_le {j : Str} (st : List Un) : (joinU j st).length ≤ 1 := by
  unfold joinU
  split
  · split <;> simp
  · simp
def sp_stems84 : DSp := fun ds L Q E => ∃ (s : Scr) (e : Enn) (us : List Un), ds = [ennD s e, wD us] ∧ s.Ok ∧ e.Ok s ∧ (∀ u ∈ us, IsU s u) ∧ us.length ≤ 80 ∧ Q (.lst ((stemsU e us).map wD)) L
theorem vc_stems84 {C : Ct} (F : FdE C) : VC 6 2 sp_stems84 (wpSs C ir_Ending_stems) := by
  rintro ds L Q E hl uq ue ⟨s, e, us, rfl, ok, eo, hu, le, q⟩
  obtain ⟨f1, f2, f3, f4, f5⟩ := F
  unfold ir_Ending_stems
  walk_at "go"
  refine .inr fun p => ?_
  walk_at "dd"
  refine .tup ⟨fun i σ L1 => ∃ zs e3 e4, σ = [some (ennD s e), some (wD us), some (.ref p), e3, e4, none] ∧ L1 = (p, .lst (zs.map wD)) :: L ∧ zs = (([e.al, e.an] : List (List Un)).take i).flatMap (cutU us), ⟨_, _, _, rfl, rfl, rfl⟩, ?_⟩
  rintro i σ L1 ⟨zs, e3, e4, rfl, rfl, hz⟩
  refine ⟨trivial, fun hi => ?_, fun d hd => ?_⟩
  · dsimp only at hi
    obtain rfl : i = 2 := hi
    have hz : zs = stems0 e us := by rw [hz]; unfold stems0; simp
    subst hz
    have hst : ∀ v ∈ stems0 e us, v ≠ [] ∧ ∀ u ∈ v, IsU s u := fun v m => by
      rcases List.mem_append.mp m with m | m
      · obtain ⟨h1, h2⟩ := cutU_mem m
        exact ⟨h1, fun u mu => hu u (by rw [h2]; exact List.mem_append_left _ mu)⟩
      · obtain ⟨h1, h2⟩ := cutU_mem m
        exact ⟨h1, fun u mu => hu u (by rw [h2]; exact List.mem_append_left _ mu)⟩
    have hl2 : (stems0 e us).length ≤ 2 := by
      unfold stems0
      rw [List.length_append]
      have := cutU_le (us := us) (t := e.al)
      have := cutU_le (us := us) (t := e.an)
      omega
    walk_at "dd"
    refine p_list (.lst (.own (by walk_at "mem"))) ?_
    walk_at "dd"
    refine .frz_lst ⟨fun i σ L1 => ∃ zs e3 e4 e5, σ = [some (ennD s e), some (wD us), some (.ref p), e3, e4, e5] ∧ L1 = (p, .lst (zs.map wD)) :: L ∧ zs = stems0 e us ++ ((stems0 e us).take i).flatMap (joinU e.j), ⟨_, _, _, _, rfl, rfl, by simp⟩, ?_⟩
    rintro i σ L1 ⟨zs, e3, e4, e5, rfl, rfl, hz⟩
    refine ⟨trivial, fun hi => ?_, fun d hd => ?_⟩
    · dsimp only at hi
      rw [List.length_map] at hi
      rw [hi, List.take_length] at hz
      subst hz
      walk_at "dd"
      exact uq _ _ _ _ .lst q
    · obtain ⟨st, hs1, rfl⟩ := get_map hd
      have hmem := List.mem_of_getElem? hs1
      obtain ⟨ne, hst1⟩ := hst st hmem
      have hA : st.length ≤ us.length := by
        rcases List.mem_append.mp hmem with m | m
        · rw [(cutU_mem m).2, List.length_append]; omega
        · rw [(cutU_mem m).2, List.length_append]; omega
      have hzl : zs.length ≤ 10 := by
        rw [hz, List.length_append]
        have h2 := flat_le84 (joinU_le (j := e.j)) ((stems0 e us).take i)
        rw [List.length_take] at h2
        omega
      obtain ⟨A, u, rfl⟩ : ∃ A u, st = A ++ [u] := ⟨st.dropLast, st.getLast ne, (List.dropLast_concat_getLast ne).symm⟩
      have hj : PyData.strOk e.j = true := by
        rcases eo.j with h | h
        · rw [h]; exact ss_nil.1
        · exact ok.kl _ h
      have nextz : ∀ zs' : List (List Un), joinU e.j (A ++ [u]) = zs' → zs ++ zs' = stems0 e us ++ ((stems0 e us).take (i + 1)).flatMap (joinU e.j) := fun zs' h => by
        rw [List.take_add_one, hs1, List.flatMap_append, ← List.append_assoc, ← hz]
        simp [h]
      have none : joinU e.j (A ++ [u]) = [] → zs = stems0 e us ++ ((stems0 e us).take (i + 1)).flatMap (joinU e.j) := fun h => by
        have := nextz [] h
        rwa [List.append_nil] at this
      have eD : wD (A ++ [u]) = .lst (A.map Un.d ++ [u.d]) := congrArg D.lst (by rw [List.map_append]; rfl)
      rw [eD]
      walk_at "dd"
      refine p_nes hj ss_nil.1 ?_
      walk_at "dd"
      have loose : ∀ x : Str, joinU e.j (A ++ [.p x]) = [] := fun x => by
        unfold joinU
        rw [List.getLast?_concat]
      refine c_d (fun hj1 => ?_) (fun hj1 => ?_)
      · have hu1 := hst1 u (List.mem_append_right _ (.head _))
        rcases hu1 with ⟨x, hx, rfl⟩ | ⟨x, hx, rfl⟩ | ⟨f, hf, m, hm, l, hl', rfl⟩
        · dsimp only [Un.d]
          walk_at "dd"
          refine p_last (.lst (.lst _)) ?_
          walk_at "dd"
          exact ⟨_, .refl _, zs, _, _, _, rfl, rfl, none (loose x)⟩
        · dsimp only [Un.d]
          walk_at "dd"
          refine p_last (.lst (.lst _)) ?_
          walk_at "dd"
          exact ⟨_, .refl _, zs, _, _, _, rfl, rfl, none (loose x)⟩
        · have hlk : PyData.strOk l = true := by
            rcases hl' with rfl | h
            · exact ss_nil.1
            · exact ok.kl _ h
          dsimp only [Un.d]
          walk_at "dd"
          refine p_last (.lst (.lst _)) ?_
          walk_at "dd"
          refine p_last (.lst (.lst _)) ?_
          walk_at "dd"
          refine .seq (.tup _) rfl ?_
          walk_at "dd"
          refine p_eqs hlk hj ?_
          walk_at "dd"
          refine c_d (fun hlj => ?_) (fun hlj => ?_)
          · walk_at "dd"
            refine p_slc (.lst _) cutD_init ?_
            walk_at "dd"
            refine p_last (.lst (.lst _)) ?_
            walk_at "dd"
            refine p_slcT (es := [.str f, .str m]) rfl ?_
            walk_at "dd"
            refine .tup (by simp) (by simp) (Nat.le_of_ble_eq_true rfl) ?_
            walk_at "dd"
            refine .inl ?_
            walk_at "dd"
            refine p_ladd (.lst _) (.lst _) (szl2 (by simp only [List.length_map, List.length_cons, List.length_nil, List.length_append] at hA ⊢; omega)) ?_
            walk_at "dd"
            refine p_app (by walk_at "sp") (by rw [List.length_map]; omega) ?_
            walk_at "dd"
            exact ⟨_, .refl _, zs ++ [A ++ [.b f m ""]], _, _, _, rfl, by rw [List.map_append, List.map_cons, wD_last]; rfl, nextz _ (by
              unfold joinU
              rw [List.getLast?_concat]
              dsimp only
              rw [if_pos ⟨hj1, hlj⟩, List.dropLast_concat])⟩
          · walk_at "dd"
            refine ⟨_, .refl _, zs, _, _, _, rfl, rfl, none ?_⟩
            unfold joinU
            rw [List.getLast?_concat]
            dsimp only
            rw [if_neg fun c => hlj c.2]
      · walk_at "dd"
        refine ⟨_, .refl _, zs, _, _, _, rfl, rfl, none ?_⟩
        unfold joinU
        rw [List.getLast?_concat]
        split
        · rw [if_neg fun c => hj1 c.1]
        · rfl
  · have hd : (([e.al, e.an] : List (List Un)).map wD)[i]? = some d := hd
    obtain ⟨t, ht, rfl⟩ := get_map hd
    have hat : ∀ u ∈ t, IsU s u := by
      rcases List.mem_cons.mp (List.mem_of_getElem? ht) with rfl | m
      · exact eo.al
      · rw [List.mem_singleton.mp m]; exact eo.an
    have nextz : ∀ zs' : List (List Un), cutU us t = zs' → zs ++ zs' = (([e.al, e.an] : List (List Un)).take (i + 1)).flatMap (cutU us) := fun zs' h => by
      rw [List.take_add_one, ht, List.flatMap_append, ← hz]
      simp [h]
    have none : cutU us t = [] → zs = (([e.al, e.an] : List (List Un)).take (i + 1)).flatMap (cutU us) := fun h => by
      have := nextz [] h
      rwa [List.append_nil] at this
    have hzl : zs.length ≤ 10 := by
      rw [hz]
      have : ∀ l : List (List Un), (l.flatMap (cutU us)).length ≤ l.length := fun l => by
        induction l with
        | nil => exact Nat.le_refl _
        | cons x l ih =>
          rw [List.flatMap_cons, List.length_append, List.length_cons]
          have := cutU_le (us := us) (t := x)
          omega
      have h2 := this (([e.al, e.an] : List (List Un)).take i)
      rw [List.length_take] at h2
      have : ([e.al, e.an] : List (List Un)).length = 2 := rfl
      omega
    walk_at "dd"
    refine c_d (fun h => ?_) (fun h => ?_)
    · have hlt : t.length < us.length := by omega
      have ei : ((us.length : Int) - (t.length : Int)) = ((us.length - t.length : Nat) : Int) := by omega
      rw [ei]
      walk_at "dd"
      refine p_slc (.lst _) (cutD_from.trans List.map_drop.symm) ?_
      walk_at "dd"
      refine p_eq (.same _) (.same _) (okw84 ok fun u m => hu u (List.mem_of_mem_drop m)) (okw84 ok hat) fun b hb => ?_
      walk_at "dd"
      refine c_b (fun h2 => ?_) (fun h2 => ?_)
      · have h3 := wD_inj (hb.mp h2)
        walk_at "dd"
        refine p_slc (.lst _) (cutD_to.trans List.map_take.symm) ?_
        walk_at "dd"
        refine p_app (by walk_at "sp") (by rw [List.length_map]; omega) ?_
        walk_at "dd"
        exact ⟨_, .refl _, zs ++ [us.take (us.length - t.length)], _, _, rfl, by rw [List.map_append]; rfl, nextz _ (by unfold cutU; rw [if_pos ⟨hlt, h3⟩])⟩
      · walk_at "dd"
        exact ⟨_, .refl _, zs, _, _, rfl, rfl, none (by unfold cutU; rw [if_neg fun c => by rw [hb.mpr (congrArg wD c.2)] at h2; cases h2])⟩
    · walk_at "dd"
      exact ⟨_, .refl _, zs, _, _, rfl, rfl, none (by unfold cutU; rw [if_neg fun c => h (by have := c.1; omega)])⟩
end
section
set_option Elab.async false
set_option linter.all false
set_option maxRecDepth 100000
open PySem L2
open TL
local macro_rules | `(tactic| walk_at "lk") => `(tactic| first | exact lkE1 _ _ | exact lkE2 _ _ | exact lkE3 _ _ | exact lkE4 _ _ | exact lkE5 _ _ | exact lkS1 _ | exact lkE0 (by decide +kernel) | exact lkS0 (by decide +kernel))
theorem stems_mem {s : Scr} {e : Enn} {us v : List Un} (hu : ∀ u ∈ us, IsU s u) (h : v ∈ stemsU e us) : v ≠ [] ∧ v.length ≤ us.length ∧ ∀ u ∈ v, IsU s u := by
  have base : ∀ v ∈ stems0 e us, v ≠ [] ∧ v.length ≤ us.length ∧ ∀ u ∈ v, IsU s u := fun v m => by
    rcases List.mem_append.mp m with m | m
    · obtain ⟨h1, h2⟩ := cutU_mem m
      exact ⟨h1, by rw [h2, List.length_append]; omega, fun u mu => hu u (by rw [h2]; exact List.mem_append_left _ mu)⟩
    · obtain ⟨h1, h2⟩ := cutU_mem m
      exact ⟨h1, by rw [h2, List.length_append]; omega, fun u mu => hu u (by rw [h2]; exact List.mem_append_left _ mu)⟩
  rcases List.mem_append.mp h with m | m
  · exact base v m
  · obtain ⟨w, hw, m⟩ := List.mem_flatMap.mp m
    obtain ⟨h1, h2, h3⟩ := base w hw
    obtain ⟨A, u, rfl⟩ : ∃ A u, w = A ++ [u] := ⟨w.dropLast, w.getLast h1, (List.dropLast_concat_getLast h1).symm⟩
    unfold joinU at m
    rw [List.getLast?_concat, List.dropLast_concat] at m
    rcases h3 u (List.mem_append_right _ (.head _)) with ⟨x, hx, rfl⟩ | ⟨x, hx, rfl⟩ | ⟨f, hf, m1, hm, l, hl', rfl⟩
    · cases m
    · cases m
    · dsimp only at m
      split at m
      · rw [List.mem_singleton.mp m]
        refine ⟨by simp, by simpa using h2, fun u mu => ?_⟩
        rcases List.mem_append.mp mu with mu | mu
        · exact h3 u (List.mem_append_left _ mu)
        · rw [List.mem_singleton.mp mu]
          exact .inr (.inr ⟨f, hf, m1, hm, "", .inl rfl, rfl⟩)
      · cases m
theorem pyInts84 {L : HL} : ∀ ns : List Int, PyL L (ns.map D.int) (ns.map .int)
  | [] => .nil
  | _ :: ns => .cons (.int _) (pyInts84 ns)
def srt84 (s : Scr) (zs : List (List Un)) : List (List Un) := zs.mergeSort fun v w => decide (nbs s v ≤ nbs s w)
theorem good_srt {s : Scr} {e : Enn} {us : List Un} {zs : List (List Un)} (nd : zs.Nodup) (m : ∀ w, w ∈ zs ↔ w ≠ [] ∧ (∀ u ∈ w, IsB s u) ∧ endW e w = us) : Good s e us (srt84 s zs) where
  nd := (List.mergeSort_perm _ _).nodup_iff.mpr nd
  so := (List.pairwise_mergeSort (le := fun v w : List Un => decide (nbs s v ≤ nbs s w)) (fun a b c h k => decide_eq_true (List.le_trans (of_decide_eq_true h) (of_decide_eq_true k))) (fun a b => by
    rw [Bool.or_eq_true, decide_eq_true_iff, decide_eq_true_iff]
    exact List.le_total _ _) zs).imp fun h => of_decide_eq_true h
  mem w := by
    unfold srt84
    rw [List.mem_mergeSort]
    exact m w
theorem endU_ok84 {s : Scr} {e : Enn} {vs : List Un} {f m l : Str} (eo : e.Ok s) (h : IsW s (vs ++ [.b f m l])) : ∀ u ∈ endU e vs f m l, IsU s u := by
  have hv : ∀ u ∈ vs, IsU s u := fun u mu => h.u u (List.mem_append_left _ mu)
  have hl := h.u (.b f m l) (List.mem_append_right _ (.head _))
  intro u mu
  unfold endU at mu
  split at mu
  · rcases List.mem_append.mp mu with mu | mu
    · rcases List.mem_append.mp mu with mu | mu
      · exact hv u mu
      · rw [List.mem_singleton.mp mu]
        obtain ⟨f', hf, m', hm, l', _, e'⟩ := h.b (.b f m l) (List.mem_append_right _ (.head _))
        cases e'
        exact .inr (.inr ⟨f, hf, m, hm, e.j, eo.j, rfl⟩)
    · exact eo.an u mu
  split at mu
  · rcases List.mem_append.mp mu with mu | mu
    · exact h.u u mu
    · exact eo.an u mu
  · rcases List.mem_append.mp mu with mu | mu
    · exact h.u u mu
    · exact eo.al u mu
theorem okw84_7 {s : Scr} (ok : s.Ok) {us : List Un} (h : ∀ u ∈ us, IsU s u) : okq 7 (wD us) = true := by
  unfold okq
  refine okqs_iff.mpr fun d m => ?_
  obtain ⟨u, mu, rfl⟩ := List.mem_map.mp m
  exact uD_ok7 ok (h u mu)
end
section
set_option Elab.async false
set_option linter.all false
set_option maxRecDepth 100000
open PySem L2
def HdC (s : Scr) (L : HL) (x : D) (us : List Un) : Prop := ∃ es, PcV L x es ∧ es.length ≤ 4000 ∧ (∀ e ∈ es, okq 7 e = true) ∧ es.map toldD = us.map Un.d ∧ ∀ u ∈ us, IsU s u
theorem un71 {u : Un} (h : u.Ok) : okq 7 u.d = true := by
  cases u with
  | n => rfl
  | p x => exact okq_str h.1
  | b f m l =>
    have h : Ss f ∧ Ss m ∧ Ss l := h
    show okqs 6 [_, _, _] = true
    refine okqs_iff.mpr fun d hd => ?_
    simp only [List.mem_cons, List.not_mem_nil, or_false] at hd
    rcases hd with rfl | rfl | rfl
    · exact okq_str h.1.1
    · exact okq_str h.2.1.1
    · exact okq_str h.2.2.1
end
section
set_option Elab.async false
set_option linter.all false
set_option maxRecDepth 100000
open PySem L2
end
section
set_option Elab.async false
set_option linter.all false
set_option maxRecDepth 100000
open PySem L2
def plt72 (x y : Nat × Nat) : Bool := decide (x.1 < y.1 ∨ (x.1 = y.1 ∧ x.2 < y.2))
def llt72 : List (Nat × Nat) → List (Nat × Nat) → Bool
  | [], [] => false
  | [], _ :: _ => true
  | _ :: _, [] => false
  | x :: xs, y :: ys => if x = y then llt72 xs ys else plt72 x y
theorem llt_cc {x y : Nat × Nat} {xs ys : List (Nat × Nat)} : llt72 (x :: xs) (y :: ys) = if x = y then llt72 xs ys else plt72 x y := by rw [llt72]
theorem plt_trans {x y z : Nat × Nat} (h : plt72 x y = true) (k : plt72 y z = true) : plt72 x z = true := by
  unfold plt72 at *
  simp only [decide_eq_true_eq] at *
  omega
theorem plt_irr {x : Nat × Nat} : plt72 x x = false := by
  unfold plt72
  simp
theorem plt_tot {x y : Nat × Nat} (h : x ≠ y) : plt72 x y = true ∨ plt72 y x = true := by
  unfold plt72
  simp only [decide_eq_true_eq]
  have : ¬ (x.1 = y.1 ∧ x.2 = y.2) := fun ⟨a, b⟩ => h (Prod.ext a b)
  omega
theorem llt_irr : ∀ xs, llt72 xs xs = false
  | [] => rfl
  | x :: xs => by
    rw [llt_cc, if_pos rfl]
    exact llt_irr xs
theorem llt_trans : ∀ {xs ys zs}, llt72 xs ys = true → llt72 ys zs = true → llt72 xs zs = true
  | [], _, _ :: _, _, _ => rfl
  | [], [], [], h, _ => by cases h
  | [], _ :: _, [], _, k => by cases k
  | _ :: _, [], _, h, _ => by cases h
  | _ :: _, _ :: _, [], _, k => by cases k
  | x :: xs, y :: ys, z :: zs, h, k => by
    rw [llt_cc] at h k ⊢
    by_cases e1 : x = y
    · rw [if_pos e1] at h
      subst e1
      by_cases e2 : x = z
      · rw [if_pos e2] at k ⊢
        exact llt_trans h k
      · rw [if_neg e2] at k ⊢
        exact k
    · rw [if_neg e1] at h
      by_cases e2 : y = z
      · subst e2
        rw [if_neg e1]
        exact h
      · rw [if_neg e2] at k
        have e3 : x ≠ z := fun e => by
          subst e
          have := plt_trans h k
          rw [plt_irr] at this
          cases this
        rw [if_neg e3]
        exact plt_trans h k
theorem llt_tot : ∀ {xs ys}, xs ≠ ys → llt72 xs ys = true ∨ llt72 ys xs = true
  | [], [], h => absurd rfl h
  | [], _ :: _, _ => .inl rfl
  | _ :: _, [], _ => .inr rfl
  | x :: xs, y :: ys, h => by
    rw [llt_cc, llt_cc]
    by_cases e : x = y
    · subst e
      rw [if_pos rfl, if_pos rfl]
      exact llt_tot fun e => h (by rw [e])
    · rw [if_neg e, if_neg (Ne.symm e)]
      exact plt_tot e
/-- not behind -/
def lle72 (x y : List (Nat × Nat)) : Bool := !llt72 y x
theorem lle_iff {x y : List (Nat × Nat)} : lle72 x y = true ↔ x = y ∨ llt72 x y = true := by
  unfold lle72
  constructor
  · intro h
    by_cases e : x = y
    · exact .inl e
    · rcases llt_tot e with k | k
      · exact .inr k
      · rw [k] at h
        cases h
  · rintro (rfl | h)
    · rw [llt_irr]
      rfl
    · cases k : llt72 y x with
      | false => rfl
      | true =>
        have := llt_trans h k
        rw [llt_irr] at this
        cases this
/-- a piece's ranks -/
def rl72 (s : Scr) (p : List Un) : List (Nat × Nat) := p.map (rk71 s)
abbrev IsP (s : Scr) (p : List Un) : Prop := ∀ u ∈ p, IsU s u
theorem ah_llt {s : Scr} : ∀ {p q : List Un}, IsP s p → IsP s q → ah71 s p q = llt72 (rl72 s p) (rl72 s q)
  | [], [], _, _ => rfl
  | [], _ :: _, _, _ => rfl
  | _ :: _, [], _, _ => rfl
  | u :: p, v :: q, hp, hq => by
    show ah71 s (u :: p) (v :: q) = llt72 (rk71 s u :: rl72 s p) (rk71 s v :: rl72 s q)
    rw [ah71_cc, llt_cc]
    by_cases e : u = v
    · subst e
      rw [if_pos rfl, if_pos rfl]
      exact ah_llt (fun w m => hp w (.tail _ m)) (fun w m => hq w (.tail _ m))
    · rw [if_neg e, if_neg fun h => e (rk71_inj (hp u (.head _)) (hq v (.head _)) h)]
      rfl
def le72 (s : Scr) (p q : List Un) : Bool := lle72 (rl72 s p) (rl72 s q)
theorem nah_le {s : Scr} {p q : List Un} (hp : IsP s p) (hq : IsP s q) : (!ah71 s p q) = le72 s q p := by
  unfold le72 lle72
  rw [ah_llt hp hq]
/-- put in behind all that it is not ahead of -/
def ins72 (s : Scr) (p : List Un) (l : List (List Un)) : List (List Un) := l.take (l.filter fun o => !ah71 s p o).length ++ p :: l.drop (l.filter fun o => !ah71 s p o).length
def sorted72 (s : Scr) : List (List Un) → List (List Un) → List (List Un)
  | f, [] => f
  | f, p :: r => sorted72 s (ins72 s p f) r
theorem ins_perm {s : Scr} {p : List Un} {l : List (List Un)} : (ins72 s p l).Perm (p :: l) := by
  unfold ins72
  refine List.perm_middle.trans ?_
  rw [List.take_append_drop]
theorem ins_none {s : Scr} {p : List Un} {l : List (List Un)} (h : ∀ o ∈ l, ah71 s p o = true) : ins72 s p l = p :: l := by
  have e : (l.filter fun o => !ah71 s p o) = [] := List.filter_eq_nil_iff.mpr fun o m => by rw [h o m]; decide
  unfold ins72
  rw [e]
  rfl
theorem ins_cons {s : Scr} {p o : List Un} {l : List (List Un)} (h : ah71 s p o = false) : ins72 s p (o :: l) = o :: ins72 s p l := by
  unfold ins72
  rw [List.filter_cons, h]
  rfl
theorem ins_sorted {s : Scr} {p : List Un} (hp : IsP s p) : ∀ {l : List (List Un)}, (∀ o ∈ l, IsP s o) → l.Pairwise (fun a b => le72 s a b = true) → (ins72 s p l).Pairwise (fun a b => le72 s a b = true)
  | [], _, _ => by
    rw [ins_none fun _ m => absurd m List.not_mem_nil]
    exact List.pairwise_singleton _ _
  | o :: l, hl, pw => by
    obtain ⟨h1, h2⟩ := List.pairwise_cons.mp pw
    have ho := hl o (.head _)
    cases h : ah71 s p o with
    | true =>
      have k1 : llt72 (rl72 s p) (rl72 s o) = true := by rw [← ah_llt hp ho]; exact h
      have hall : ∀ x ∈ o :: l, llt72 (rl72 s p) (rl72 s x) = true := fun x m => by
        rcases List.mem_cons.mp m with rfl | m
        · exact k1
        · rcases lle_iff.mp (h1 x m) with e | e
          · rw [← e]
            exact k1
          · exact llt_trans k1 e
      rw [ins_none fun x m => by rw [ah_llt hp (hl x m)]; exact hall x m]
      exact List.pairwise_cons.mpr ⟨fun x m => lle_iff.mpr (.inr (hall x m)), pw⟩
    | false =>
      rw [ins_cons h]
      refine List.pairwise_cons.mpr ⟨fun x m => ?_, ins_sorted hp (fun x m => hl x (.tail _ m)) h2⟩
      rcases List.mem_cons.mp (ins_perm.mem_iff.mp m) with rfl | m
      · rw [← nah_le hp ho, h]
        rfl
      · exact h1 x m
theorem sorted_ok {s : Scr} : ∀ {r f : List (List Un)}, (∀ o ∈ r, IsP s o) → (∀ o ∈ f, IsP s o) → f.Pairwise (fun a b => le72 s a b = true) → (sorted72 s f r).Pairwise (fun a b => le72 s a b = true) ∧ (sorted72 s f r).Perm (r ++ f)
  | [], f, _, _, pw => ⟨pw, .refl _⟩
  | p :: r, f, hr, hf, pw => by
    have hp := hr p (.head _)
    obtain ⟨h1, h2⟩ := sorted_ok (r := r) (f := ins72 s p f) (fun o m => hr o (.tail _ m)) (fun o m => by
      rcases List.mem_cons.mp (ins_perm.mem_iff.mp m) with rfl | m
      · exact hp
      · exact hf o m) (ins_sorted hp hf pw)
    refine ⟨h1, h2.trans ?_⟩
    exact (List.Perm.append_left r ins_perm).trans List.perm_middle
theorem sorted_mem {s : Scr} {l : List (List Un)} (hl : ∀ o ∈ l, IsP s o) {o : List Un} (m : o ∈ sorted72 s [] l) : o ∈ l := by
  have h2 := (sorted_ok (r := l) (f := []) hl (fun _ m => nomatch m) List.Pairwise.nil).2
  rw [List.append_nil] at h2
  exact h2.mem_iff.mp m
end
section
set_option Elab.async false
open PySem L2
end
section
set_option Elab.async false
set_option linter.all false
set_option maxRecDepth 100000
open PySem L2
def pcD (us : List Un) : D := .lst (us.map Un.d)
def ch72 (prs : List (Addr × List Un)) : HL := prs.map fun q => (q.1, Ch.lst (q.2.map Un.d))
def rf72 (prs : List (Addr × List Un)) : List D := prs.map fun q => .ref q.1
theorem HdC.mono {s : Scr} {L L' : HL} {x : D} {us : List Un} (h : HdC s L x us) (m : ∀ c ∈ L, c ∈ L') : HdC s L' x us := by
  obtain ⟨es, pv, r⟩ := h
  exact ⟨es, pv.mono m, r⟩
theorem HdC.len {s : Scr} {L : HL} {x : D} {us : List Un} (h : HdC s L x us) : us.length ≤ 4000 := by
  obtain ⟨es, pv, hl, _, hm, _⟩ := h
  have := congrArg List.length hm
  rw [List.length_map, List.length_map] at this
  omega
theorem told_us72 (us : List Un) : (us.map Un.d).map toldD = us.map Un.d := by
  rw [List.map_map]
  exact List.map_congr_left fun u _ => by cases u <;> rfl
theorem okq_un72 {s : Scr} (ok : s.Ok) {us : List Un} (hu : IsP s us) : ∀ e ∈ us.map Un.d, okq 7 e = true := fun e m => by
  obtain ⟨u, mu, rfl⟩ := List.mem_map.mp m
  exact un71 (unit_ok ok (hu u mu)).1
theorem ch72_app {a b : List (Addr × List Un)} : ch72 (a ++ b) = ch72 a ++ ch72 b := List.map_append
theorem ch72_mem {prs : List (Addr × List Un)} {q : Addr × List Un} (m : q ∈ prs) : (q.1, Ch.lst (q.2.map Un.d)) ∈ ch72 prs := List.mem_map.mpr ⟨q, m, rfl⟩
theorem ch72_perm {a b : List (Addr × List Un)} (h : a.Perm b) : (ch72 a).Perm (ch72 b) := h.map _
end
section
set_option Elab.async false
set_option linter.all false
set_option maxRecDepth 100000
open PySem L2
def psD (PS : List (List Un)) : D := .lst (PS.map pcD)
theorem okq1_72 {u : Un} (h : u.Ok) : okq 1 u.d = true := by
  cases u with
  | n => rfl
  | p x => exact okq_str h.1
  | b f m l =>
    have h : Ss f ∧ Ss m ∧ Ss l := h
    show okqs 0 [_, _, _] = true
    refine okqs_iff.mpr fun d hd => ?_
    simp only [List.mem_cons, List.not_mem_nil, or_false] at hd
    rcases hd with rfl | rfl | rfl
    · exact okq_str h.1.1
    · exact okq_str h.2.1.1
    · exact okq_str h.2.2.1
theorem okq_pc72 {s : Scr} (ok : s.Ok) {us : List Un} (hu : IsP s us) : okq 2 (pcD us) = true := by
  show okqs 1 (us.map Un.d) = true
  refine okqs_iff.mpr fun d m => ?_
  obtain ⟨u, mu, rfl⟩ := List.mem_map.mp m
  exact okq1_72 (unit_ok ok (hu u mu)).1
theorem okq_ps72 {s : Scr} (ok : s.Ok) {PS : List (List Un)} (h : ∀ p ∈ PS, IsP s p) : okq 3 (psD PS) = true := by
  show okqs 2 (PS.map pcD) = true
  refine okqs_iff.mpr fun d m => ?_
  obtain ⟨u, mu, rfl⟩ := List.mem_map.mp m
  exact okq_pc72 ok (h u mu)
end
section
set_option Elab.async false
open PySem L2
end
section
set_option Elab.async false
set_option linter.all false
set_option maxRecDepth 100000
open PySem L2
section
end
end
section
set_option Elab.async false
set_option linter.all false
set_option maxRecDepth 100000
open PySem L2
end
section
set_option Elab.async false
set_option linter.all false
set_option maxRecDepth 100000
open PySem L2
theorem pyL_rf72 {s : Scr} (ok : s.Ok) {L : HL} : ∀ {prs : List (Addr × List Un)}, (∀ q ∈ prs, IsP s q.2) → (∀ q ∈ prs, (q.1, Ch.lst (q.2.map Un.d)) ∈ L) → PyL L (rf72 prs) (pyAll ((prs.map Prod.snd).map pcD))
  | [], _, _ => .nil
  | q :: prs, h, m => by
    refine .cons (.own (m q (.head _)) ?_) (pyL_rf72 ok (fun x k => h x (.tail _ k)) fun x k => m x (.tail _ k))
    exact (okqs_py (L := L) (okqs_iff.mpr fun d hd => by
      obtain ⟨u, mu, rfl⟩ := List.mem_map.mp hd
      exact okq1_72 (unit_ok ok (h q (.head _) u mu)).1)).1
theorem p_eqO72 {f : Bool → Bool} {s : Scr} (ok : s.Ok) {L : HL} {p : Addr} {prs : List (Addr × List Un)} {PS : List (List Un)} {Q : Qd} (hp : prs.map Prod.snd = PS) (hP : ∀ o ∈ PS, IsP s o) (m : (p, Ch.lst (rf72 prs)) ∈ L) (mc : ∀ q ∈ prs, (q.1, Ch.lst (q.2.map Un.d)) ∈ L) (q : Q (.bl (f true)) L) : oEq f (.ref p) (psD PS) L Q := by
  have o8 : okq 8 (psD PS) = true := okq_up (by decide) (okq_ps72 ok hP)
  obtain ⟨a1, a2⟩ := (Vw.same (L := L) (psD PS)).py o8
  have hq : ∀ q ∈ prs, IsP s q.2 := fun q m => hP _ (by rw [← hp]; exact List.mem_map.mpr ⟨q, m, rfl⟩)
  have h1 := pyL_rf72 ok hq mc
  rw [hp] at h1
  refine .mk (a := (psD PS).py) (b := (psD PS).py) (.own m h1) a1 a2 a2 ?_
  rw [(eqv_iff o8 o8).mpr rfl]
  exact q
end
section
set_option Elab.async false
set_option linter.all false
set_option maxRecDepth 100000
open PySem L2
open TL
local macro_rules | `(tactic| walk_at "lk") => `(tactic| first | exact lkE1 _ _ | exact lkE2 _ _ | exact lkE3 _ _ | exact lkE4 _ _ | exact lkE5 _ _ | exact lkS1 _ | exact lkE0 (by decide +kernel) | exact lkS0 (by decide +kernel))
def sp_word83 : DSp := fun ds L Q E => ∃ (s : Scr) (x : D) (us : List Un) (es : List D), ds = [s.d, x] ∧ s.Ok ∧ Hd L x us es ∧ us ≠ [] ∧ us.length ≤ 60 ∧ (∀ u ∈ us, IsU s u) ∧ ((∀ u ∈ us, IsB s u) → RetL (us.map Un.d) L Q) ∧ ((¬ ∀ u ∈ us, IsB s u) → Q .non L)
theorem word83_of {ds : List D} {L : HL} {Q : Qd} {E : DX → HL → Prop} (h : sp_word82 ds L Q E) : sp_word83 ds L Q E := by
  obtain ⟨s, x, us, es, rfl, ok, hd, hw, q⟩ := h
  exact ⟨s, x, us, es, rfl, ok, hd, hw.ne, hw.le, hw.u, fun _ => .inl q, fun h => (h hw.b).elim⟩
def sp_word83y : DSp := fun ds L Q E => ∃ (s : Scr) (x : D) (us : List Un) (es : List D), ds = [s.d, x] ∧ s.Ok ∧ Hd L x us es ∧ us ≠ [] ∧ us.length ≤ 60 ∧ (∀ u ∈ us, IsU s u) ∧ (∀ u ∈ us, IsB s u) ∧ RetL (us.map Un.d) L Q
def sp_word83n : DSp := fun ds L Q E => ∃ (s : Scr) (x : D) (us : List Un) (es : List D), ds = [s.d, x] ∧ s.Ok ∧ Hd L x us es ∧ us ≠ [] ∧ us.length ≤ 60 ∧ (∀ u ∈ us, IsU s u) ∧ (¬ ∀ u ∈ us, IsB s u) ∧ Q .non L
theorem vc_word83y {C : Ct} (e1 : C.fn 64 2 = some (2, permS sp_has_block2, [])) (e2 : C.fn 67 2 = some (2, permS sp_looked, [])) : VC 3 2 sp_word83y (wpSs C ir_E_word_of) := by
  rintro ds L Q E hl uq ue ⟨s, x, us, es, rfl, ok, hd, ne, le, hu, hB, q⟩
  have hlen := hd.len
  have hall := all_D ok hd.told hu
  have hne : 0 < us.length := List.length_pos_iff.mpr ne
  have ohd := hd.ok
  have told := hd.told
  have hpv := hd.pv
  have pv := hd.pv
  have hblk : ∀ e ∈ es, blkD s e = true := fun e m => by
    obtain ⟨i, hi⟩ := List.getElem?_of_mem m
    have h : (es.map toldD)[i]? = some (toldD e) := by rw [List.getElem?_map, hi]; rfl
    rw [hd.told, List.getElem?_map] at h
    cases hu : us[i]? with
    | none => rw [hu] at h; cases h
    | some u => rw [hu] at h; exact blk_of82 (Option.some.inj h).symm (hB u (List.mem_of_getElem? hu))
  clear hd
  unfold ir_E_word_of
  cases pv
  all_goals
    walk_at "go"
    rw [decide_eq_false (by omega)]
    walk_at "dd"
    refine hpv.iter82 (fun _ m => m) fun live hlive => (lc_map (es.map fun d => .bl (blkD s d)) (fun p acc => hlive _ fun _ m => .tail _ m) (by rw [List.length_map]) (fun p acc i d y K hd hy k => ?_) (.inl ?_))
    · obtain ⟨d', hd', rfl⟩ := get_map hy
      obtain rfl : d' = d := Option.some.inj (hd'.symm.trans hd)
      simp only [wipeD, List.set]
      walk_at "dd"
      exact ⟨rfl, _, .refl _, s, d', rfl, ok, okq_up (by decide) (ohd d' (List.mem_of_getElem? hd)), cl k⟩
    walk_at "dd"
    refine p_allf (.lst _) ?_
    rw [List.all_eq_true.mpr hblk]
    walk_at "dd"
    refine ⟨rfl, _, .refl _, s, _, rfl, ok, .inl ⟨es, hpv, by omega, ohd, .inl ⟨hall, ?_⟩⟩⟩
    rw [told]
    exact q.elim (fun h => .inl (cl h)) fun h => .inr fun p => cl (h p)
theorem vc_word83n {C : Ct} (e1 : C.fn 64 2 = some (2, permS sp_has_block2, [])) (e2 : C.fn 67 2 = some (2, permS sp_looked, [])) : VC 3 2 sp_word83n (wpSs C ir_E_word_of) := by
  rintro ds L Q E hl uq ue ⟨s, x, us, es, rfl, ok, hd, ne, le, hu, hB, q⟩
  have hlen := hd.len
  have hall := all_D ok hd.told hu
  have hne : 0 < us.length := List.length_pos_iff.mpr ne
  have ohd := hd.ok
  have told := hd.told
  have hpv := hd.pv
  have pv := hd.pv
  have hblk : es.all (blkD s) = false := by
    rw [Bool.eq_false_iff]
    intro hall
    refine hB fun u m => ?_
    obtain ⟨i, hi⟩ := List.getElem?_of_mem m
    have h : (es.map toldD)[i]? = some u.d := by rw [hd.told, List.getElem?_map, hi]; rfl
    rw [List.getElem?_map] at h
    cases he : es[i]? with
    | none => rw [he] at h; cases h
    | some e =>
      rw [he] at h
      exact isB_of84 (Option.some.inj h) (hu u m) (List.all_eq_true.mp hall e (List.mem_of_getElem? he))
  clear hd
  unfold ir_E_word_of
  cases pv
  all_goals
    walk_at "go"
    rw [decide_eq_false (by omega)]
    walk_at "dd"
    refine hpv.iter82 (fun _ m => m) fun live hlive => (lc_map (es.map fun d => .bl (blkD s d)) (fun p acc => hlive _ fun _ m => .tail _ m) (by rw [List.length_map]) (fun p acc i d y K hd hy k => ?_) (.inl ?_))
    · obtain ⟨d', hd', rfl⟩ := get_map hy
      obtain rfl : d' = d := Option.some.inj (hd'.symm.trans hd)
      simp only [wipeD, List.set]
      walk_at "dd"
      exact ⟨rfl, _, .refl _, s, d', rfl, ok, okq_up (by decide) (ohd d' (List.mem_of_getElem? hd)), cl k⟩
    walk_at "dd"
    refine p_allf (.lst _) ?_
    rw [hblk]
    walk_at "dd"
    exact q
theorem vc_word83 {C : Ct} (e1 : C.fn 64 2 = some (2, permS sp_has_block2, [])) (e2 : C.fn 67 2 = some (2, permS sp_looked, [])) : VC 3 2 sp_word83 (wpSs C ir_E_word_of) := by
  rintro ds L Q E hl uq ue ⟨s, x, us, es, rfl, ok, hd, ne, le, hu, q1, q2⟩
  by_cases hB : ∀ u ∈ us, IsB s u
  · exact vc_word83y e1 e2 _ L Q E hl uq ue ⟨s, x, us, es, rfl, ok, hd, ne, le, hu, hB, q1 hB⟩
  · exact vc_word83n e1 e2 _ L Q E hl uq ue ⟨s, x, us, es, rfl, ok, hd, ne, le, hu, hB, q2 hB⟩
theorem vc_ended83 {C : Ct} (F : FdE C) (hx : ("NoWord" : Str) ∈ C.exn) (e1 : C.fn 454 2 = some (2, permS sp_word83, [])) : VC 6 2 sp_ended82 (wpSs C ir_Ending_ended) := by
  rintro ds L Q E hl uq ue ⟨s, e, w, es, vs, f, m, l, rfl, ok, eo, hd, hw, q⟩
  obtain ⟨f1, f2, f3, f4, f5⟩ := F
  have hle := hw.le
  have la := eo.la
  have ln := eo.ln
  rw [List.length_append] at hle
  simp only [List.length_cons, List.length_nil] at hle
  have hlk : PyData.strOk l = true := by
    obtain ⟨f', _, m', _, l', hl', h⟩ := hw.b (.b f m l) (List.mem_append_right _ (.head _))
    injection h with h1 h2 h3
    subst h3
    rcases hl' with rfl | h
    · exact ss_nil.1
    · exact ok.kl _ h
  unfold endU at q
  unfold ir_Ending_ended
  walk_at "go"
  refine ⟨rfl, _, .refl _, word83_of ⟨s, w, _, es, rfl, ok, hd, hw, cl ?_⟩⟩
  rw [wD_last]
  walk_at "dd"
  rw [show isNon (D.lst (List.map Un.d vs ++ [D.tup [D.str f, D.str m, D.str l]])) = false from rfl]
  walk_at "dd"
  refine .seq (.lst (.lst _)) atI_end ?_
  walk_at "dd"
  refine .tup rfl ?_
  walk_at "dd"
  refine p_eqs hlk ss_nil.1 ?_
  walk_at "dd"
  by_cases h0 : l = ("" : Str)
  · rw [if_pos h0] at q
    rw [decide_eq_true h0]
    walk_at "dd"
    refine p_slc (.lst _) cutD_init ?_
    walk_at "dd"
    refine .inl ?_
    walk_at "dd"
    refine p_ladd (.lst _) (.lst _) (szl2 (by simp only [List.length_map, List.length_cons, List.length_nil]; omega)) ?_
    walk_at "dd"
    rw [List.map_append, List.map_append] at q
    exact .lst (.lst _) (.lst _) (szl2 (by simp only [List.length_map, List.length_append, List.length_cons, List.length_nil]; omega)) q
  · rw [if_neg h0] at q
    rw [decide_eq_false h0]
    walk_at "dd"
    refine p_in (.same _) (okq_str hlk) (strs_ok (fun x m => ok.kl x (eo.li x m)) 7) fun b hb => ?_
    rw [mem_strs] at hb
    walk_at "dd"
    refine c_b (fun h => ?_) (fun h => ?_)
    · rw [if_pos (hb.mp h), List.map_append, List.map_append] at q
      walk_at "dd"
      exact .lst (.lst _) (.lst _) (szl2 (by simp only [List.length_map, List.length_append, List.length_cons, List.length_nil]; omega)) q
    · rw [if_neg (fun h' => by rw [hb.mpr h'] at h; cases h), List.map_append, List.map_append] at q
      walk_at "dd"
      exact .lst (.lst _) (.lst _) (szl2 (by simp only [List.length_map, List.length_append, List.length_cons, List.length_nil]; omega)) q
def sp_numbers83 : DSp := fun ds L Q E => ∃ (s : Scr) (e : Enn) (x : D) (us : List Un), ds = [ennD s e, x] ∧ s.Ok ∧ PcV L x (us.map Un.d) ∧ (∀ u ∈ us, IsB s u) ∧ Q (.lst ((nbs s us).map D.int)) L
theorem vc_numbers83 {C : Ct} (F : FdE C) (e1 : C.fn 32 1 = some (2, permS sp_number13, [])) : VC 3 2 sp_numbers83 (wpSs C ir_Ending_numbers) := by
  rintro ds L Q E hl uq ue ⟨s, e, x, us, rfl, ok, pv, hb, q⟩
  obtain ⟨f1, f2, f3, f4, f5⟩ := F
  unfold ir_Ending_numbers
  walk_at "go"
  refine pv.iter82 (fun _ m => m) fun live hlive => (lc_map ((nbs s us).map D.int) (fun p acc => hlive _ fun _ m => .tail _ m) (by unfold nbs; rw [List.length_map, List.length_map, List.length_map]) (fun p acc i d y K hd hy k => ?_) (.inl q))
  obtain ⟨u, hu1, rfl⟩ := get_map hd
  unfold nbs at hy
  rw [List.map_map] at hy
  obtain ⟨u', hu2, rfl⟩ := get_map hy
  obtain rfl : u' = u := Option.some.inj (hu2.symm.trans hu1)
  obtain ⟨f, hf, m, hm, l, hl', rfl⟩ := hb _ (List.mem_of_getElem? hu1)
  simp only [wipeD, List.set]
  walk_at "dd"
  exact ⟨rfl, _, .refl _, s, _, num71 s f m l, f, m, l, rfl, .inl rfl, ok, num71_blk hf hm (ends71 hl'), cl k⟩
def kw83 (s : Scr) (w : List Un) : PyData := .list ((nbs s w).map .int)
theorem kw83_le (s : Scr) : PySem.W.dataLe false (kw83 s) = fun p q => decide (nbs s p ≤ nbs s q) := PySem.W.dataLe_rows fun w => nbs s w
theorem kw83_alike {α : Type} (s : Scr) (g : α → List Un) (ws : List α) : PySem.W.AllAlike (ws.map fun a => kw83 s (g a)) := PySem.W.AllAlike.of fun a b => by
  show PySem.W.alike (.list _) (.list _) = true
  rw [PySem.W.alike]
  exact PySem.W.alike_ints _ _
theorem kw83_sortable {α : Type} (s : Scr) (g : α → List Un) (ws : List α) : PySem.W.Sortable (ws.map fun a => kw83 s (g a)) := PySem.W.Sortable.others fun _ => ⟨(fun h => nomatch h), fun _ h => nomatch h⟩
theorem kw83_depth (s : Scr) (w : List Un) : (kw83 s w).depth ≤ 60 := by
  show (PyData.list _).depth ≤ 60
  rw [PyData.depth, PySem.W.depth_ints]
  decide
theorem sort_prs83 {s : Scr} {prs : List (Addr × List Un)} : (prs.mergeSort (PySem.W.dataLe false fun p => kw83 s p.2)).map Prod.snd = srt84 s (prs.map Prod.snd) := by
  unfold srt84
  rw [← kw83_le]
  exact List.map_mergeSort fun x hx y hy => rfl
theorem p_ninO83 {s : Scr} (ok : s.Ok) {L : HL} {a p : Addr} {w : List Un} {prs : List (Addr × List Un)} {Q : Qd} (hw : IsP s w) (hP : ∀ q ∈ prs, IsP s q.2) (ma : (a, Ch.lst (w.map Un.d)) ∈ L) (m : (p, Ch.lst (rf72 prs)) ∈ L) (mc : ∀ q ∈ prs, (q.1, Ch.lst (q.2.map Un.d)) ∈ L) (q : ∀ b : Bool, (b = true ↔ w ∉ prs.map Prod.snd) → Q (.bl b) L) : wpCo .nin (.ref a) (.ref p) L Q := by
  have o1 : okq 8 (wD w) = true := okw84 ok hw
  have o2 : ∀ z ∈ (prs.map Prod.snd).map pcD, okq 7 z = true := fun z mz => by
    obtain ⟨v, mv, rfl⟩ := List.mem_map.mp mz
    obtain ⟨q, mq, rfl⟩ := List.mem_map.mp mv
    exact okw84_7 ok (hP q mq)
  have o3 : okq 8 (.lst ((prs.map Prod.snd).map pcD)) = true := by
    unfold okq
    exact okqs_iff.mpr o2
  obtain ⟨_, a2⟩ := (Vw.same (L := L) (wD w)).py o1
  obtain ⟨_, b2⟩ := (Vw.same (L := L) (.lst ((prs.map Prod.snd).map pcD))).py o3
  have h1 := pyL_rf72 ok hP mc
  have h0 : Py L (.ref a) (wD w).py := .own ma (okqs_py (L := L) (okqs_iff.mpr (okq_un72 ok hw))).1
  refine .deep h0 (.own m h1) a2 b2 (q _ ?_)
  have h := any_pyAll o2 o1
  have hm : wD w ∈ (prs.map Prod.snd).map pcD ↔ w ∈ prs.map Prod.snd := mem_wD
  rw [hm] at h
  cases e : (pyAll ((prs.map Prod.snd).map pcD)).any (fun z => PyData.eqv z (wD w).py) <;> rw [e] at h <;> simp at h ⊢ <;> exact h
def sp_unended83 : DSp := fun ds L Q E => ∃ (s : Scr) (e : Enn) (x : D) (us : List Un), ds = [ennD s e, x] ∧ s.Ok ∧ e.Ok s ∧ HdC s L x us ∧ us.length ≤ 60 ∧ ∀ ws, Good s e us ws → ∀ prs : List (Addr × List Un), prs.map Prod.snd = ws → ∀ p, Q (.ref p) ((p, .lst (rf72 prs)) :: (ch72 prs ++ L))
theorem vc_unended83 {C : Ct} (F : FdE C) (e1 : C.fn 67 2 = some (2, permS sp_looked, [])) (e2 : C.fn 92 1 = some (2, permS sp_stems84, [])) (e3 : C.fn 454 2 = some (2, permS sp_word83, [])) (e4 : C.fn 91 1 = some (2, permS sp_ended82, [])) (e5 : C.fn 94 1 = some (2, permS sp_numbers83, [])) :
    VC 6 2 sp_unended83 (wpSs C ir_Ending_unended) := by
  rintro ds L Q E hl uq ue ⟨s, e, x, us, rfl, ok, eo, ⟨es, pv0, lv0, ov0, hm0, hu⟩, le, q⟩
  obtain ⟨f1, f2, f3, f4, f5⟩ := F
  unfold ir_Ending_unended
  walk_at "go"
  refine ⟨rfl, _, .refl _, s, _, rfl, ok, .inl ⟨es, pv0, by omega, ov0, .inl ⟨all_D ok hm0 hu, .inl (cl ?_)⟩⟩⟩
  rw [hm0]
  walk_at "dd"
  refine .inr fun p => ?_
  walk_at "dd"
  refine ⟨rfl, _, .refl _, s, e, us, rfl, ok, eo, hu, by omega, cl ?_⟩
  refine .frz_lst ⟨fun i σ L1 => ∃ prs e4 e5, σ = [some (ennD s e), some x, some (wD us), some (.ref p), e4, e5] ∧ L1 = (p, .lst (rf72 prs)) :: (ch72 prs ++ L) ∧ (prs.map Prod.snd).Nodup ∧ prs.length ≤ i ∧ ∀ w, w ∈ prs.map Prod.snd ↔ w ∈ (stemsU e us).take i ∧ (∀ u ∈ w, IsB s u) ∧ endW e w = us,
    ⟨[], _, _, rfl, rfl, List.nodup_nil, Nat.le_refl _, fun w => by simp⟩, ?_⟩
  rintro i σ L1 ⟨prs, x4, x5, rfl, rfl, nd, hzl, hz⟩
  refine ⟨trivial, fun hi => ?_, fun d hd => ?_⟩
  · dsimp only at hi
    rw [List.length_map] at hi
    rw [hi, List.take_length] at hz
    have hB : ∀ q ∈ prs, ∀ u ∈ q.2, IsB s u := fun q m => ((hz q.2).mp (List.mem_map.mpr ⟨q, m, rfl⟩)).2.1
    have g : Good s e us (srt84 s (prs.map Prod.snd)) := good_srt nd fun w => by
      rw [hz]
      exact ⟨fun h => ⟨(stems_mem hu h.1).1, h.2⟩, fun h => ⟨stems_all h.1 h.2.1 h.2.2, h.2⟩⟩
    refine s_ret (e_sortm e5 ?_)
    walk_at "dd"
    refine ⟨_, rfl, ennFs s e, rfl, .inr ⟨Addr × List Un, prs, fun q => .ref q.1, fun q => .lst ((nbs s q.2).map D.int), fun q => kw83 s q.2, lkE0 (by decide +kernel), .own (.head _), fun q mq => ?_, fun q _ => .lst (pyInts84 _), kw83_alike s _ _, kw83_sortable s _ _, fun q _ => kw83_depth s _, .inr fun p2 => ?_⟩⟩
    · exact ⟨rfl, _, .refl _, s, e, _, q.2, rfl, ok, .own (.tail _ (List.mem_append_left _ (ch72_mem mq))), hB q mq, cl ⟨rfl, .refl _⟩⟩
    · have h := q _ g (prs.mergeSort (PySem.W.dataLe false fun p => kw83 s p.2)) sort_prs83 p2
      refine uq _ _ _ _ (.trans (.sub (.cons_cons _ (.cons _ (.refl _)))) (.perm (.cons _ ?_))) h
      exact List.Perm.append_right L (ch72_perm (List.mergeSort_perm _ _).symm)
  · obtain ⟨st, hs1, rfl⟩ := get_map hd
    obtain ⟨ne, hlen, hst⟩ := stems_mem (e := e) hu (List.mem_of_getElem? hs1)
    have hil : i ≤ 10 := by
      have h1 := (List.getElem?_eq_some_iff.mp hs1).1
      have h2 : (stemsU e us).length ≤ 4 := by
        have h3 : (stems0 e us).length ≤ 2 := by
          unfold stems0
          rw [List.length_append]
          have := cutU_le (us := us) (t := e.al)
          have := cutU_le (us := us) (t := e.an)
          omega
        unfold stemsU
        rw [List.length_append]
        have := flat_le84 (joinU_le (j := e.j)) (stems0 e us)
        omega
      omega
    have tk : (stemsU e us).take (i + 1) = (stemsU e us).take i ++ [st] := by
      rw [List.take_add_one, hs1]
      rfl
    have skip : ¬ (st ∉ prs.map Prod.snd ∧ (∀ u ∈ st, IsB s u) ∧ endW e st = us) → ∀ w, w ∈ prs.map Prod.snd ↔ w ∈ (stemsU e us).take (i + 1) ∧ (∀ u ∈ w, IsB s u) ∧ endW e w = us := fun h w => by
      rw [hz, tk, List.mem_append, List.mem_singleton]
      constructor
      · rintro ⟨a, c⟩
        exact ⟨.inl a, c⟩
      · rintro ⟨a | rfl, c1, c2⟩
        · exact ⟨a, c1, c2⟩
        · exact (hz _).mp (Classical.byContradiction fun hn => h ⟨hn, c1, c2⟩)
    have hPr : ∀ q ∈ prs, IsP s q.2 := fun q mq u mu => (((hz q.2).mp (List.mem_map.mpr ⟨q, mq, rfl⟩)).2.1 u mu).u
    walk_at "dd"
    refine ⟨rfl, _, .refl _, s, _, st, st.map Un.d, rfl, ok, hd_self ok hst _, ne, by omega, hst, fun hB => .inr fun a => cl ?_, fun hB => cl ?_⟩
    · walk_at "dd"
      rw [show isNon (D.ref a) = false from rfl]
      walk_at "dd"
      refine p_ninO83 ok (w := st) (prs := prs) hst hPr (.head _) (.tail _ (.head _)) (fun q mq => .tail _ (.tail _ (List.mem_append_left _ (ch72_mem mq)))) fun b hb => ?_
      walk_at "dd"
      refine c_b (fun h2 => ?_) (fun h2 => ?_)
      · have hn : st ∉ prs.map Prod.snd := hb.mp h2
        obtain ⟨vs, f, m, l, rfl⟩ := wcut84 ne hB
        walk_at "dd"
        have hw : IsW s (vs ++ [.b f m l]) := ⟨ne, by omega, hB⟩
        refine ⟨rfl, _, .refl _, s, e, _, _, vs, f, m, l, rfl, ok, eo, ⟨.own (.head _), okq_un72 ok hst, told_us72 _⟩, hw, .inl (cl ?_)⟩
        walk_at "dd"
        refine p_eq (.same _) (.same _) (okw84 ok (endU_ok84 eo hw)) (okw84 ok hu) fun b2 hb2 => ?_
        walk_at "dd"
        refine c_b (fun h3 => ?_) (fun h3 => ?_)
        · have he := wD_inj (hb2.mp h3)
          walk_at "dd"
          refine p_app (by walk_at "sp") (by unfold rf72; rw [List.length_map]; omega) ?_
          walk_at "dd"
          refine ⟨_, .perm ?_, prs ++ [(a, vs ++ [.b f m l])], _, _, rfl, rfl, ?_, by rw [List.length_append, List.length_singleton]; omega, fun w => ?_⟩
          · have er : rf72 (prs ++ [(a, vs ++ [Un.b f m l])]) = rf72 prs ++ [.ref a] := by
              unfold rf72
              rw [List.map_append]
              rfl
            rw [er, ch72_app, List.append_assoc]
            refine (List.Perm.swap _ _ _).trans (.cons _ ?_)
            exact List.perm_middle.symm
          · rw [List.map_append]
            refine List.nodup_append.mpr ⟨nd, List.nodup_cons.mpr ⟨List.not_mem_nil, List.nodup_nil⟩, fun a ha c hc => ?_⟩
            rw [List.mem_singleton.mp hc]
            exact fun h => hn (by rw [h] at ha; exact ha)
          · rw [List.map_append, List.mem_append, show ([(a, vs ++ [Un.b f m l])].map Prod.snd) = [vs ++ [Un.b f m l]] from rfl, List.mem_singleton, hz, tk, List.mem_append, List.mem_singleton]
            constructor
            · rintro (⟨a, c⟩ | rfl)
              · exact ⟨.inl a, c⟩
              · exact ⟨.inr rfl, hB, by rw [endW_snoc]; exact he⟩
            · rintro ⟨a | a, c⟩
              · exact .inl ⟨a, c⟩
              · exact .inr a
        · walk_at "dd"
          exact ⟨_, .sub (List.sublist_cons_self _ _), prs, _, _, rfl, rfl, nd, by omega, skip fun h => by
            rw [endW_snoc] at h
            rw [hb2.mpr (congrArg wD h.2.2)] at h3
            cases h3⟩
      · walk_at "dd"
        exact ⟨_, .sub (List.sublist_cons_self _ _), prs, _, _, rfl, rfl, nd, by omega, skip fun h => by
          rw [hb.mpr h.1] at h2
          cases h2⟩
    · walk_at "dd"
      rw [show isNon D.non = true from rfl]
      walk_at "dd"
      exact ⟨_, .refl _, prs, _, _, rfl, rfl, nd, by omega, skip fun h => hB h.2.1⟩
end
section
set_option Elab.async false
open PySem L2
def ir__law_piece_2f3016a2 : Stms :=
  (.cons (.asg (.name 3) (.call "_law_take" 36 (.cons (.var 0) (.cons (.lit (.int 4)) .nil))))
  (.cons (.ite (.cmp .eq (.var 3) (.lit (.int 0)))
    (.cons (.ret (.lc (.rng (.cons (.call "_law_take" 36 (.cons (.var 0) (.cons (.lit (.int 5)) .nil))) .nil)) 4 (.yes) (.call "_law_unit" 40 (.cons (.var 0) (.cons (.var 1) .nil)))))
    .nil)
    .nil)
  (.cons (.asg (.name 5) (.call "_law_ended" 97 (.cons (.var 2) (.cons (.call "_law_word" 95 (.cons (.var 0) (.cons (.var 1) .nil))) .nil))))
  (.cons (.ite (.cmp .eq (.var 3) (.lit (.int 1)))
    (.cons (.ret (.slc (.var 5) .none (.some (.bin .sub (.blt .len (.cons (.var 5) .nil)) (.lit (.int 1))))))
    .nil)
    .nil)
  (.cons (.ret (.var 5))
  .nil)))))
def ir__law_words_96dccc30 : Stms :=
  (.cons (.asg (.name 3) (.lst .nil))
  (.cons (.for_ (.name 4) (.rng (.cons (.lit (.int 1)) (.cons (.bin .add (.blt .len (.cons (.var 2) .nil)) (.lit (.int 1))) .nil)))
    (.cons (.ite (.val (.blt .isi (.cons (.idx (.var 2) (.bin .sub (.var 4) (.lit (.int 1)))) (.cons (.ty "str") .nil))))
      (.cons (.ret (.var 3))
      .nil)
      .nil)
    (.cons (.for_ (.name 5) (.of (.bin .add (.lst (.cons (.lit (.str "")) .nil)) (.meth "Script" "lasts" 22 (.var 0) .nil)))
      (.cons (.asg (.name 6) (.bin .add (.slc (.var 2) .none (.some (.bin .sub (.var 4) (.lit (.int 1))))) (.lst (.cons (.bin .add (.slc (.idx (.var 2) (.bin .sub (.var 4) (.lit (.int 1)))) .none (.some (.lit (.int 2)))) (.tup (.cons (.var 5) .nil))) .nil))))
      (.cons (.ite (.cmp .eq (.call "_law_ended" 97 (.cons (.var 1) (.cons (.var 6) .nil))) (.var 2))
        (.cons (.drop (.mth .append (.var 3) (.cons (.var 6) .nil)))
        .nil)
        .nil)
      .nil)))
    .nil)))
  (.cons (.ret (.var 3))
  .nil)))
def ir__law_number_5c814792 : Stms :=
  (.cons (.asg (.name 2) (.bin .add (.lst (.cons (.lit (.str "")) .nil)) (.meth "Script" "lasts" 22 (.var 0) .nil)))
  (.cons (.asg (.name 3) (.mth .index (.meth "Script" "firsts" 20 (.var 0) .nil) (.cons (.idx (.var 1) (.lit (.int 0))) .nil)))
  (.cons (.asg (.name 4) (.mth .index (.meth "Script" "middles" 21 (.var 0) .nil) (.cons (.idx (.var 1) (.lit (.int 1))) .nil)))
  (.cons (.ret (.bin .add (.bin .mul (.bin .add (.bin .mul (.var 3) (.blt .len (.cons (.meth "Script" "middles" 21 (.var 0) .nil) .nil))) (.var 4)) (.blt .len (.cons (.var 2) .nil))) (.mth .index (.var 2) (.cons (.idx (.var 1) (.lit (.int 2))) .nil))))
  .nil))))
def ir__law_handed_72038984 : Stms :=
  (.cons (.asg (.name 2) (.lst .nil))
  (.cons (.forE (.tup (.cons (.name 3) (.cons (.name 4) .nil))) (.var 0)
    (.cons (.drop (.mth .append (.var 2) (.cons (.ite (.bool true (.cons (.val (.blt .isi (.cons (.var 4) (.cons (.ty "tuple") .nil)))) (.cons (.cmp .eq (.bin .mod (.bin .add (.var 3) (.bin .div (.var 1) (.lit (.int 2)))) (.lit (.int 2))) (.lit (.int 0))) .nil))) (.blt .list (.cons (.var 4) .nil)) (.var 4)) .nil)))
    .nil))
  (.cons (.ret (.idx (.lst (.cons (.var 2) (.cons (.blt .tuple (.cons (.var 2) .nil)) .nil))) (.bin .mod (.var 1) (.lit (.int 2)))))
  .nil)))
end
section
set_option Elab.async false
set_option linter.all false
set_option maxRecDepth 100000
open PySem L2
def wrds (s : Scr) (e : Enn) (us : List Un) : List Un → List Un → List (List Un)
  | _, [] => []
  | vs, .b f m l' :: r => (((endsS s).filter fun l => decide (endU e vs f m l = us)).map fun l => vs ++ [.b f m l]) ++ wrds s e us (vs ++ [.b f m l']) r
  | _, _ :: _ => []
theorem endU_shape {e : Enn} {vs : List Un} {f m l : Str} : ∃ x tl, endU e vs f m l = vs ++ .b f m x :: tl := by
  unfold endU
  split
  · exact ⟨e.j, e.an, by rw [List.append_assoc]; rfl⟩
  · split
    · exact ⟨l, e.an, by rw [List.append_assoc]; rfl⟩
    · exact ⟨l, e.al, by rw [List.append_assoc]; rfl⟩
theorem wrds_mem {s : Scr} {e : Enn} {us : List Un} : ∀ (rest vs : List Un), us = vs ++ rest → (∀ u ∈ us, IsU s u) → (∀ u ∈ vs, IsB s u) → ∀ w, w ∈ wrds s e us vs rest ↔ vs.length < w.length ∧ (∀ u ∈ w, IsB s u) ∧ endW e w = us
  | rest, vs, hus, hu, hv, w => by
    have shape : vs.length < w.length → (∀ u ∈ w, IsB s u) → endW e w = us → ∃ vs' f m l x tl, w = vs' ++ [.b f m l] ∧ us = vs' ++ .b f m x :: tl ∧ endU e vs' f m l = us ∧ vs.length ≤ vs'.length := fun h1 h2 h3 => by
      obtain ⟨vs', f, m, l, rfl⟩ := wcut84 (List.length_pos_iff.mp (by omega)) h2
      rw [endW_snoc] at h3
      obtain ⟨x, tl, h4⟩ := endU_shape (e := e) (vs := vs') (f := f) (m := m) (l := l)
      rw [List.length_append] at h1
      simp only [List.length_cons, List.length_nil] at h1
      exact ⟨vs', f, m, l, x, tl, rfl, by rw [← h3, h4], h3, by omega⟩
    have nxt : vs.length < w.length → (∀ u ∈ w, IsB s u) → endW e w = us → ∃ f m l' r, rest = .b f m l' :: r ∧ (w.length = vs.length + 1 → ∃ l, l ∈ endsS s ∧ endU e vs f m l = us ∧ w = vs ++ [.b f m l]) := fun h1 h2 h3 => by
      obtain ⟨vs', f, m, l, x, tl, hw, hs, h4, hl⟩ := shape h1 h2 h3
      by_cases hk : vs.length = vs'.length
      · rw [hus] at hs
        obtain ⟨e1, e2⟩ := List.append_inj hs hk
        refine ⟨f, m, x, tl, e2, fun _ => ⟨l, ?_, by rw [e1]; exact h4, by rw [e1]; exact hw⟩⟩
        obtain ⟨f', _, m', _, l', hl', hq⟩ := h2 (.b f m l) (by rw [hw]; exact List.mem_append_right _ (.head _))
        cases hq
        exact ends71 hl'
      · have hlt : vs.length < vs'.length := by omega
        have hg : us[vs.length]? = some vs'[vs.length] := by
          rw [hs, List.getElem?_append_left hlt]
          exact List.getElem?_eq_getElem hlt
        rw [hus, List.getElem?_append_right (Nat.le_refl _), Nat.sub_self] at hg
        cases rest with
        | nil => cases hg
        | cons u r =>
          have hg : u = vs'[vs.length] := Option.some.inj hg
          obtain ⟨f', _, m', _, l', _, hq⟩ := h2 vs'[vs.length] (by rw [hw]; exact List.mem_append_left _ (List.getElem_mem hlt))
          refine ⟨f', m', l', r, by rw [hg, hq], fun hh => ?_⟩
          rw [hw, List.length_append] at hh
          simp only [List.length_cons, List.length_nil] at hh
          omega
    match rest, hus, nxt with
    | [], hus, nxt =>
      refine ⟨fun h => absurd h List.not_mem_nil, fun ⟨h1, h2, h3⟩ => ?_⟩
      obtain ⟨_, _, _, _, h, _⟩ := nxt h1 h2 h3
      cases h
    | .n :: r, hus, nxt =>
      refine ⟨fun h => absurd h List.not_mem_nil, fun ⟨h1, h2, h3⟩ => ?_⟩
      obtain ⟨_, _, _, _, h, _⟩ := nxt h1 h2 h3
      cases h
    | .p x :: r, hus, nxt =>
      refine ⟨fun h => absurd h List.not_mem_nil, fun ⟨h1, h2, h3⟩ => ?_⟩
      obtain ⟨_, _, _, _, h, _⟩ := nxt h1 h2 h3
      cases h
    | .b f m l' :: r, hus, nxt =>
      have hb : IsB s (.b f m l') := by
        rcases hu (.b f m l') (by rw [hus]; exact List.mem_append_right _ (.head _)) with ⟨_, _, h⟩ | ⟨_, _, h⟩ | h
        · cases h
        · cases h
        · exact h
      have hv2 : ∀ u ∈ vs ++ [Un.b f m l'], IsB s u := fun u mu => by
        rcases List.mem_append.mp mu with mu | mu
        · exact hv u mu
        · rw [List.mem_singleton.mp mu]
          exact hb
      have ih := wrds_mem (e := e) r (vs ++ [.b f m l']) (by rw [hus, List.append_assoc]; rfl) hu hv2 w
      rw [List.length_append] at ih
      show w ∈ _ ++ wrds s e us (vs ++ [.b f m l']) r ↔ _
      rw [List.mem_append, ih, List.mem_map]
      constructor
      · rintro (⟨l, ml, rfl⟩ | ⟨h1, h2⟩)
        · obtain ⟨ml, he⟩ := List.mem_filter.mp ml
          refine ⟨by rw [List.length_append]; exact Nat.lt_succ_self _, fun u mu => ?_, by rw [endW_snoc]; exact of_decide_eq_true he⟩
          rcases List.mem_append.mp mu with mu | mu
          · exact hv u mu
          · rw [List.mem_singleton.mp mu]
            obtain ⟨f', hf, m', hm, _, _, hq⟩ := hb
            cases hq
            exact ⟨f, hf, m, hm, l, List.mem_cons.mp ml, rfl⟩
        · exact ⟨by simp only [List.length_cons, List.length_nil] at h1; omega, h2⟩
      · rintro ⟨h1, h2, h3⟩
        by_cases hk : w.length = vs.length + 1
        · obtain ⟨f1, m1, l1, r1, hr, hq⟩ := nxt h1 h2 h3
          cases hr
          obtain ⟨l, ml, he, hw⟩ := hq hk
          exact .inl ⟨l, List.mem_filter.mpr ⟨ml, decide_eq_true he⟩, hw.symm⟩
        · exact .inr ⟨by simp only [List.length_cons, List.length_nil]; omega, h2, h3⟩
theorem wrds_nodup {s : Scr} (ok : s.Ok) {e : Enn} {us : List Un} : ∀ (rest vs : List Un), us = vs ++ rest → (∀ u ∈ us, IsU s u) → (∀ u ∈ vs, IsB s u) → (wrds s e us vs rest).Nodup
  | [], _, _, _, _ => List.nodup_nil
  | .n :: _, _, _, _, _ => List.nodup_nil
  | .p _ :: _, _, _, _, _ => List.nodup_nil
  | .b f m l' :: r, vs, hus, hu, hv => by
    have hb : IsB s (.b f m l') := by
      rcases hu (.b f m l') (by rw [hus]; exact List.mem_append_right _ (.head _)) with ⟨_, _, h⟩ | ⟨_, _, h⟩ | h
      · cases h
      · cases h
      · exact h
    have hv2 : ∀ u ∈ vs ++ [Un.b f m l'], IsB s u := fun u mu => by
      rcases List.mem_append.mp mu with mu | mu
      · exact hv u mu
      · rw [List.mem_singleton.mp mu]
        exact hb
    have hus2 : us = (vs ++ [.b f m l']) ++ r := by rw [hus, List.append_assoc]; rfl
    show (_ ++ wrds s e us (vs ++ [.b f m l']) r).Nodup
    refine List.nodup_append.mpr ⟨?_, wrds_nodup ok r _ hus2 hu hv2, fun a ha c hc e1 => ?_⟩
    · refine List.pairwise_map.mpr (((end_nd ok).sublist List.filter_sublist).imp fun ne h => ne ?_)
      have h := List.append_cancel_left h
      cases h
      rfl
    · obtain ⟨l, _, rfl⟩ := List.mem_map.mp ha
      have h1 := ((wrds_mem (e := e) r _ hus2 hu hv2 c).mp hc).1
      rw [← e1, List.length_append, List.length_append] at h1
      simp only [List.length_cons, List.length_nil] at h1
      omega
theorem wrds_le {s : Scr} {e : Enn} {us : List Un} : ∀ (rest vs : List Un), (wrds s e us vs rest).length ≤ rest.length * (s.l.length + 1)
  | [], _ => Nat.zero_le _
  | .n :: _, _ => Nat.zero_le _
  | .p _ :: _, _ => Nat.zero_le _
  | .b f m l' :: r, vs => by
    show (_ ++ wrds s e us (vs ++ [.b f m l']) r).length ≤ _
    have h1 := wrds_le (s := s) (e := e) (us := us) r (vs ++ [.b f m l'])
    have h2 := List.length_filter_le (fun l => decide (endU e vs f m l = us)) (endsS s)
    rw [len_ends] at h2
    rw [List.length_append, List.length_map, List.length_cons, Nat.succ_mul]
    omega
/-- the words that the law goes through -/
def lws83 (s : Scr) (e : Enn) (us : List Un) : List (List Un) := wrds s e us [] us
theorem lws_mem {s : Scr} {e : Enn} {us : List Un} (hu : ∀ u ∈ us, IsU s u) (w : List Un) : w ∈ lws83 s e us ↔ w ≠ [] ∧ (∀ u ∈ w, IsB s u) ∧ endW e w = us := by
  exact (wrds_mem (s := s) (e := e) (us := us) us [] rfl hu (fun _ m => absurd m List.not_mem_nil) w).trans (and_congr_left fun _ => List.length_pos_iff)
theorem lws_good {s : Scr} (ok : s.Ok) {e : Enn} {us : List Un} (hu : ∀ u ∈ us, IsU s u) : Good s e us (srt84 s (lws83 s e us)) := good_srt (wrds_nodup ok us [] rfl hu fun _ m => nomatch m) (lws_mem hu)
def nmU (s : Scr) : Un → Int
  | .b f m l => (num71 s f m l : Int)
  | _ => 0
def nms (s : Scr) (w : List Un) : List Int := w.map (nmU s)
theorem shift83 {s : Scr} : ∀ {v w : List Un}, (∀ u ∈ v, IsB s u) → (∀ u ∈ w, IsB s u) → (nms s v ≤ nms s w ↔ nbs s v ≤ nbs s w)
  | [], w, _, _ => ⟨fun _ => List.nil_le _, fun _ => List.nil_le _⟩
  | x :: v, [], _, _ => by
    constructor
    · intro h
      exact absurd h (by show ¬ (nmU s x :: nms s v ≤ []); simp [List.not_le])
    · intro h
      exact absurd h (by show ¬ (nbU s x :: nbs s v ≤ []); simp [List.not_le])
  | x :: v, y :: w, h1, h2 => by
    have ih := shift83 (v := v) (w := w) (fun u m => h1 u (.tail _ m)) (fun u m => h2 u (.tail _ m))
    have ex : nbU s x = s.b + nmU s x := by
      obtain ⟨f, _, m, _, l, _, rfl⟩ := h1 x (.head _)
      rfl
    have ey : nbU s y = s.b + nmU s y := by
      obtain ⟨f, _, m, _, l, _, rfl⟩ := h2 y (.head _)
      rfl
    show nmU s x :: nms s v ≤ nmU s y :: nms s w ↔ nbU s x :: nbs s v ≤ nbU s y :: nbs s w
    rw [List.cons_le_cons_iff, List.cons_le_cons_iff, ih, ex, ey]
    constructor
    · rintro (h | ⟨h, k⟩)
      · exact .inl (by omega)
      · exact .inr ⟨by omega, k⟩
    · rintro (h | ⟨h, k⟩)
      · exact .inl (by omega)
      · exact .inr ⟨by omega, k⟩
def kl83 (s : Scr) (w : List Un) : PyData := .list ((nms s w).map .int)
theorem kl83_alike (s : Scr) (ws : List (List Un)) : PySem.W.AllAlike (ws.map (kl83 s)) := PySem.W.AllAlike.of fun a b => by
  show PySem.W.alike (.list _) (.list _) = true
  rw [PySem.W.alike]
  exact PySem.W.alike_ints _ _
theorem kl83_sortable (s : Scr) (ws : List (List Un)) : PySem.W.Sortable (ws.map (kl83 s)) := PySem.W.Sortable.others fun _ => ⟨(fun h => nomatch h), fun _ h => nomatch h⟩
theorem kl83_depth (s : Scr) (w : List Un) : (kl83 s w).depth ≤ 60 := by
  show (PyData.list _).depth ≤ 60
  rw [PyData.depth, PySem.W.depth_ints]
  decide
theorem kl83_le (s : Scr) : PySem.W.dataLe false (kl83 s) = fun p q => decide (nms s p ≤ nms s q) := PySem.W.dataLe_rows fun w => nms s w
theorem kl83_sort {s : Scr} {zs : List (List Un)} (h : ∀ w ∈ zs, ∀ u ∈ w, IsB s u) : zs.mergeSort (PySem.W.dataLe false (kl83 s)) = srt84 s zs := by
  unfold srt84
  rw [kl83_le]
  have e := List.map_mergeSort (f := fun w : List Un => w) (r := fun p q => decide (nms s p ≤ nms s q)) (s := fun v w : List Un => decide (nbs s v ≤ nbs s w)) (l := zs) fun a ha b hb => decide_eq_decide.mpr (shift83 (h a ha) (h b hb))
  rw [List.map_id', List.map_id'] at e
  exact e
def sp_lnumber83 : DSp := fun ds L Q E => ∃ (s : Scr) (u : Un), ds = [s.d, u.d] ∧ s.Ok ∧ IsB s u ∧ Q (.int (nmU s u)) L
theorem vc_lnumber83 {C : Ct} (e1 : C.fn 20 0 = some (1, permS (getter fun s => sts s.f), [])) (e2 : C.fn 21 0 = some (1, permS (getter fun s => sts s.m), [])) (e3 : C.fn 22 0 = some (1, permS (getter fun s => sts s.l), [])) : VC 5 2 sp_lnumber83 (wpSs C ir__law_number_5c814792) := by
  rintro ds L Q E hl uq ue ⟨s, u, rfl, ok, hu, q⟩
  have z1 := ok.f40
  have z2 := ok.m40
  have z3 := ok.l40
  obtain ⟨f, hf, m, hm, l, hl', rfl⟩ := hu
  have h1 := ix71_get hf
  have h2 := ix71_get hm
  have h3 := ix71_get (ends71 (s := s) hl')
  have l1 := lt_of_get h1
  have l2 := lt_of_get h2
  have q : Q (.int (num71 s f m l : Int)) L := q
  unfold num71 at q
  generalize ix71 s.f f = i at *
  generalize ix71 s.m m = j at *
  generalize ix71 (endsS s) l = k at *
  dsimp only [Un.d]
  unfold ir__law_number_5c814792
  walk_at "go"
  refine .inl ?_
  walk_at "dd"
  refine ⟨rfl, _, .refl _, s, rfl, cl ?_⟩
  refine p_ladd (.lst _) (.lst _) (szl2 (by simp only [List.length_map, List.length_cons, List.length_nil]; omega)) ?_
  rw [show [D.str ""] ++ s.l.map D.str = (endsS s).map D.str from rfl]
  walk_at "dd"
  refine ⟨rfl, _, .refl _, s, rfl, cl ?_⟩
  walk_at "dd"
  refine p_ix (j := 0) (.tup _) rfl (d := .str f) rfl ?_
  walk_at "dd"
  refine p_index (.lst _) ok.nf h1 ?_
  walk_at "dd"
  refine ⟨rfl, _, .refl _, s, rfl, cl ?_⟩
  walk_at "dd"
  refine p_ix (j := 1) (.tup _) rfl (d := .str m) rfl ?_
  walk_at "dd"
  refine p_index (.lst _) ok.nm h2 ?_
  walk_at "dd"
  refine ⟨rfl, _, .refl _, s, rfl, cl ?_⟩
  walk_at "dd"
  refine p_mul (small_mul (by omega) (by omega)) ?_
  walk_at "dd"
  rw [len_ends]
  have e : (i : Int) * (s.m.length : Int) + (j : Int) = ((i * s.m.length + j : Nat) : Int) := by push_cast; rfl
  rw [e]
  have hb1 := mul_le' (Nat.le_of_lt l1) z2
  have hb2 := mul_le' z1 (Nat.le_refl 40)
  have hb3 : s.f.length * 40 ≤ 1600 := hb2
  refine p_mul (small_mul (by omega) (by omega)) ?_
  walk_at "dd"
  refine p_ix (j := 2) (.tup _) rfl (d := .str l) rfl ?_
  walk_at "dd"
  refine p_index (xs := endsS s) (.lst _) (end_nd ok) h3 ?_
  walk_at "dd"
  have e2 : ((i * s.m.length + j : Nat) : Int) * ((s.l.length + 1 : Nat) : Int) + (k : Int) = (((i * s.m.length + j) * (s.l.length + 1) + k : Nat) : Int) := by push_cast; rfl
  rw [e2]
  exact q
def hnF83 : Nat → List Un → List D
  | _, [] => []
  | n, u :: r => (if n % 2 = 0 then u.e else u.d) :: hnF83 (n + 1) r
def hnd83 (k : Nat) (us : List Un) : D := if k % 2 = 0 then .lst (hnF83 (k / 2) us) else .tup (hnF83 (k / 2) us)
theorem hnF_len : ∀ (n : Nat) (us : List Un), (hnF83 n us).length = us.length
  | _, [] => rfl
  | n, _ :: r => congrArg (· + 1) (hnF_len (n + 1) r)
theorem hnF_told {s : Scr} : ∀ (n : Nat) {us : List Un}, (∀ u ∈ us, IsU s u) → (hnF83 n us).map toldD = us.map Un.d
  | _, [], _ => rfl
  | n, u :: r, h => by
    have ih := hnF_told (n + 1) (us := r) fun v m => h v (.tail _ m)
    show toldD (if n % 2 = 0 then u.e else u.d) :: (hnF83 (n + 1) r).map toldD = u.d :: r.map Un.d
    rw [ih]
    congr 1
    split <;> cases u <;> rfl
theorem hnF_ok {s : Scr} (ok : s.Ok) : ∀ (n : Nat) {us : List Un}, (∀ u ∈ us, IsU s u) → ∀ d ∈ hnF83 n us, okq 7 d = true
  | _, [], _, d, m => nomatch m
  | n, u :: r, h, d, m => by
    rcases List.mem_cons.mp m with rfl | m
    · have hu := un71 (unit_ok ok (h u (.head _))).1
      split
      · cases u with
        | b f m l => exact hu
        | _ => exact hu
      · exact hu
    · exact hnF_ok ok (n + 1) (fun v mv => h v (.tail _ mv)) d m
theorem hnd_ok {s : Scr} (ok : s.Ok) {k : Nat} {us : List Un} (h : ∀ u ∈ us, IsU s u) : okq 8 (hnd83 k us) = true := by
  unfold hnd83
  split
  · unfold okq
    exact okqs_iff.mpr (hnF_ok ok _ h)
  · unfold okq
    exact okqs_iff.mpr (hnF_ok ok _ h)
theorem hnd_hdc {s : Scr} (ok : s.Ok) {L : HL} {k : Nat} {us : List Un} (h : ∀ u ∈ us, IsU s u) (hl : us.length ≤ 60) : HdC s L (hnd83 k us) us := by
  refine ⟨hnF83 (k / 2) us, ?_, by rw [hnF_len]; omega, hnF_ok ok _ h, hnF_told _ h, h⟩
  unfold hnd83
  split
  · exact .lst _
  · exact .tup _
def sp_lhand83 : DSp := fun ds L Q E => ∃ (us : List Un) (k : Nat), ds = [wD us, .int (k : Int)] ∧ k ≤ 1000 ∧ us.length ≤ 1000 ∧ (∀ u ∈ us, u ≠ .n) ∧ Q (hnd83 k us) L
theorem vc_lhand83 {C : Ct} : VC 5 2 sp_lhand83 (wpSs C ir__law_handed_72038984) := by
  rintro ds L Q E hl uq ue ⟨us, k, rfl, hk, hle, hn, q⟩
  unfold ir__law_handed_72038984
  walk_at "go"
  refine .inr fun g => ?_
  walk_at "dd"
  refine .frz_lst ⟨fun i σ L1 => ∃ xs e3 e4, σ = [some (wD us), some (.int (k : Int)), some (.ref g), e3, e4] ∧ L1 = (g, .lst xs) :: L ∧ xs.length = i ∧ xs ++ hnF83 (i + k / 2) (us.drop i) = hnF83 (k / 2) us, ⟨[], none, none, rfl, rfl, rfl, by rw [Nat.zero_add]; rfl⟩, ?_⟩
  rintro i σ L1 ⟨xs, e3, e4, rfl, rfl, hxl, hx⟩
  refine ⟨trivial, fun hi => ?_, fun d hd => ?_⟩
  · dsimp only at hi
    rw [enD_len, List.length_map] at hi
    rw [hi, List.drop_length] at hx
    have hx : xs = hnF83 (k / 2) us := by rw [← hx]; exact (List.append_nil xs).symm
    have hm : ((k : Int) % 2) = ((k % 2 : Nat) : Int) := by omega
    walk_at "dd"
    refine p_tupl (.own (.head _)) ?_
    walk_at "dd"
    refine .inl ?_
    walk_at "dd"
    refine p_mod (by decide) ?_
    rw [hm]
    unfold hnd83 at q
    by_cases h : k % 2 = 0
    · rw [if_pos h, ← hx] at q
      rw [h]
      refine p_ix (j := 0) (.lst (.lst _)) rfl (d := .ref g) rfl ?_
      exact uq _ _ _ _ .lst q
    · rw [if_neg h, ← hx] at q
      rw [show k % 2 = 1 by omega]
      refine p_ix (j := 1) (.lst (.lst _)) rfl (d := .tup xs) rfl ?_
      exact uq _ _ _ _ (.sub (List.sublist_cons_self _ _)) q
  · have hd : (enD (us.map Un.d))[i]? = some d := hd
    rw [enD_at] at hd
    obtain ⟨d0, hd0, rfl⟩ := Option.map_eq_some_iff.mp hd
    obtain ⟨u, hu1, rfl⟩ := get_map hd0
    have hil := lt_of_get hu1
    have hne := hn u (List.mem_of_getElem? hu1)
    have hdr : us.drop i = u :: us.drop (i + 1) := by
      rw [List.drop_eq_getElem_cons hil]
      congr 1
      rw [List.getElem?_eq_getElem hil] at hu1
      exact Option.some.inj hu1
    rw [hdr] at hx
    have hx : xs ++ ((if (i + k / 2) % 2 = 0 then u.e else u.d) :: hnF83 (i + 1 + k / 2) (us.drop (i + 1))) = hnF83 (k / 2) us := by
      rw [← hx, show i + 1 + k / 2 = i + k / 2 + 1 by omega]
      rfl
    have fin : ∀ y : D, y = (if (i + k / 2) % 2 = 0 then u.e else u.d) → (xs ++ [y]) ++ hnF83 (i + 1 + k / 2) (us.drop (i + 1)) = hnF83 (k / 2) us := fun y hy => by
      rw [← hx, List.append_assoc, hy]
      rfl
    have hmod : (((i : Int) + (k : Int) / 2) % 2) = (((i + k / 2) % 2 : Nat) : Int) := by omega
    walk_at "d"
    refine .tup rfl ?_
    walk_at "dd"
    cases u with
    | n => exact (hne rfl).elim
    | p z =>
      dsimp only [Un.d]
      walk_at "dd"
      refine p_app (by walk_at "sp") (by omega) ?_
      walk_at "dd"
      exact ⟨_, .refl _, xs ++ [.str z], _, _, rfl, rfl, by rw [List.length_append, hxl]; rfl, fin _ (by split <;> rfl)⟩
    | b f m l =>
      dsimp only [Un.d]
      walk_at "dd"
      refine p_div (by decide) (by decide) ?_
      walk_at "dd"
      refine p_mod (by decide) ?_
      rw [hmod]
      walk_at "dd"
      refine c_d (fun h => ?_) (fun h => ?_)
      · have h : (i + k / 2) % 2 = 0 := by omega
        walk_at "dd"
        refine p_list (.tup _) ?_
        refine p_app (by walk_at "sp") (by omega) ?_
        walk_at "dd"
        exact ⟨_, .refl _, xs ++ [.lst [.str f, .str m, .str l]], _, _, rfl, rfl, by rw [List.length_append, hxl]; rfl, fin _ (by rw [if_pos h]; rfl)⟩
      · have h : ¬ (i + k / 2) % 2 = 0 := by omega
        walk_at "dd"
        refine p_app (by walk_at "sp") (by omega) ?_
        walk_at "dd"
        exact ⟨_, .refl _, xs ++ [.tup [.str f, .str m, .str l]], _, _, rfl, rfl, by rw [List.length_append, hxl]; rfl, fin _ (by rw [if_neg h]; rfl)⟩
end
section
set_option Elab.async false
set_option linter.all false
set_option maxRecDepth 100000
open PySem L2
theorem endP83 {s : Scr} (ok : s.Ok) {L : HL} {us : List Un} (hu : ∀ u ∈ us, IsU s u) : EndP L (wD us) us := by
  have o := okq_okr (okw84_7 ok hu)
  have hs := hd_self ok hu L
  exact ⟨wD us, us.map Un.d, Th.self (by decide : 7 ≤ 7) o, okr_up (by decide) o, rfl, hs.told⟩
theorem endW_ok83 {s : Scr} {e : Enn} {us : List Un} (eo : e.Ok s) (hw : IsW s us) : (∀ u ∈ endW e us, IsU s u) ∧ (endW e us).length ≤ us.length + 10 := by
  obtain ⟨vs, f, m, l, rfl⟩ := wcut84 hw.ne hw.b
  rw [endW_snoc]
  refine ⟨endU_ok84 eo hw, ?_⟩
  have := eo.la
  have := eo.ln
  unfold endU
  split
  · simp only [List.length_append, List.length_cons, List.length_nil]; omega
  · split
    · simp only [List.length_append, List.length_cons, List.length_nil]; omega
    · simp only [List.length_append, List.length_cons, List.length_nil]; omega
def sp_lpiece83 : DSp := fun ds L Q E => ∃ (s : Scr) (e : Enn) (p : Addr) (a b : Int) (F : HL), ds = [.ref p, s.d, lenD e] ∧ L = pot p a b :: F ∧ Pot a b ∧ s.Ok ∧ e.Ok s ∧ ∀ (us : List Un) a' b', (∀ u ∈ us, IsU s u) → us.length ≤ 20 → Pot a' b' → Q (wD us) (pot p a' b' :: F)
theorem vc_lpiece83 {C : Ct} (hc : C.fn 36 2 = some (2, permS sp_take, [])) (e1 : C.fn 40 2 = some (2, permS sp_unit, [])) (e2 : C.fn 95 2 = some (2, permS sp_lword82, [])) (e3 : C.fn 97 2 = some (2, permS sp_lended82, [])) : VC 6 3 sp_lpiece83 (wpSs C ir__law_piece_2f3016a2) := by
  rintro ds L Q E hl uq ue ⟨s, e, p, a, b, F, rfl, rfl, hp, ok, eo, q⟩
  unfold ir__law_piece_2f3016a2
  walk_at "go"
  refine p_take (by walk_at "pm") hp (by decide) (by decide) fun r a b r1 hp => ?_
  walk_at "dd"
  refine c_d (fun h => ?_) (fun h => ?_)
  · walk_at "dd"
    refine p_take (by walk_at "pm") hp (by decide) (by decide) fun n a b n1 hp => ?_
    walk_at "dd"
    refine .one (by omega) (by omega) ⟨fun j acc L3 => ∃ a b us, acc = us.map Un.d ∧ us.length = j ∧ (∀ u ∈ us, IsU s u) ∧ L3 = pot p a b :: F ∧ Pot a b, ⟨a, b, [], rfl, rfl, (fun _ m => nomatch m), rfl, hp⟩, ?_⟩
    rintro f j acc L3 ⟨a, b, us, rfl, hj0, hus, rfl, hp⟩
    refine ⟨trivial, fun hj => .inl ?_, fun d hd => ?_⟩
    · dsimp only at hj
      rw [rgD_len] at hj
      exact q us a b hus (by omega) hp
    · simp only [wipeD, List.set]
      walk_at "dd"
      rw [if_pos rfl]
      walk_at "dd"
      refine ⟨rfl, _, by walk_at "pm", s, p, a, b, _, rfl, rfl, hp, ok, fun u a b hU hp => cl ?_⟩
      refine ⟨_, .perm (.swap _ _ _), a, b, us ++ [u], by rw [List.map_append]; rfl, by rw [List.length_append, hj0]; rfl, fun v m => ?_, rfl, hp⟩
      rcases List.mem_append.mp m with m | m
      · exact hus v m
      · rw [List.mem_singleton.mp m]
        exact hU
  · walk_at "dd"
    refine ⟨rfl, _, .refl _, s, p, a, b, _, rfl, rfl, hp, ok, fun us a b hw l4 hp => cl ?_⟩
    obtain ⟨vs, f, m, l, rfl⟩ := wcut84 hw.ne hw.b
    obtain ⟨hP, lP⟩ := endW_ok83 eo hw
    rw [endW_snoc] at hP lP
    walk_at "dd"
    refine ⟨rfl, _, .refl _, s, e, vs, f, m, l, rfl, ok, eo, hw, cl ?_⟩
    walk_at "dd"
    refine c_d (fun h1 => ?_) (fun h1 => ?_)
    · have hne : 0 < (endU e vs f m l).length := by
        obtain ⟨x, tl, h⟩ := endU_shape (e := e) (vs := vs) (f := f) (m := m) (l := l)
        rw [h, List.length_append]
        simp only [List.length_cons]
        omega
      walk_at "dd"
      rw [show (((endU e vs f m l).length : Int) - 1) = (((endU e vs f m l).length - 1 : Nat) : Int) by omega]
      refine p_slc (.lst _) (cutD_to.trans List.map_take.symm) ?_
      exact q _ a b (fun u mu => hP u (List.mem_of_mem_take mu)) (by rw [List.length_take]; omega) hp
    · walk_at "dd"
      exact q _ a b hP (by omega) hp
def sp_lwords83 : DSp := fun ds L Q E => ∃ (s : Scr) (e : Enn) (us : List Un), ds = [s.d, lenD e, wD us] ∧ s.Ok ∧ e.Ok s ∧ (∀ u ∈ us, IsU s u) ∧ us.length ≤ 20 ∧ Q (.lst ((lws83 s e us).map wD)) L
theorem vc_lwords83 {C : Ct} (e3 : C.fn 22 0 = some (1, permS (getter fun s => sts s.l), [])) (e4 : C.fn 97 2 = some (2, permS sp_lended82, [])) : VC 7 3 sp_lwords83 (wpSs C ir__law_words_96dccc30) := by
  rintro ds L Q E hl uq ue ⟨s, e, us, rfl, ok, eo, hu, hle, q⟩
  have z3 := ok.l40
  unfold ir__law_words_96dccc30
  walk_at "go"
  refine .inr fun g => ?_
  walk_at "dd"
  refine .two (by omega) (by decide) (by omega) (by omega) ⟨fun i σ L1 => ∃ ws e4 e5 e6, σ = [some s.d, some (lenD e), some (wD us), some (.ref g), e4, e5, e6] ∧ L1 = (g, .lst (ws.map wD)) :: L ∧ ws ++ wrds s e us (us.take i) (us.drop i) = lws83 s e us ∧ (∀ u ∈ us.take i, IsB s u) ∧ ws.length ≤ i * 41, ⟨[], none, none, none, rfl, rfl, rfl, (fun _ m => nomatch m), Nat.zero_le _⟩, ?_⟩
  rintro i σ L1 ⟨ws, e4', e5, e6, rfl, rfl, hws, hB, hwl⟩
  refine ⟨trivial, fun hi => ?_, fun d hd => ?_⟩
  · dsimp only at hi
    rw [rgD_len] at hi
    have hi : i = us.length := by omega
    rw [hi, List.take_length, List.drop_length] at hws
    have hws : ws = lws83 s e us := by rw [← hws]; exact (List.append_nil ws).symm
    walk_at "dd"
    rw [hws]
    exact uq _ _ _ _ .lst q
  · have hlt := lt_of_get hd
    unfold rgD at hd
    obtain ⟨j, hj, rfl⟩ := get_map hd
    dsimp only at hlt
    rw [rgD_len] at hlt
    obtain ⟨rfl, hil⟩ : i = j ∧ i < us.length := by
      have := lt_of_get hj
      rw [List.length_range] at this
      rw [List.getElem?_range this] at hj
      exact ⟨Option.some.inj hj, by omega⟩
    have hget : us[i]? = some us[i] := List.getElem?_eq_getElem hil
    have hdr : us.drop i = us[i] :: us.drop (i + 1) := List.drop_eq_getElem_cons hil
    have htk : us.take (i + 1) = us.take i ++ [us[i]] := take_next hget
    have hU := hu us[i] (List.getElem_mem hil)
    generalize us[i] = u at hget hdr htk hU
    have e1 : (1 : Int) + (i : Int) - 1 = (i : Int) := by omega
    walk_at "dd"
    rw [e1]
    refine p_ix (j := i) (.lst (.lst _)) rfl (d := u.d) (by rw [List.getElem?_map, hget]; rfl) ?_
    rw [hdr] at hws
    have loose : ∀ x : Str, u = .p x → ws = lws83 s e us := fun x hx => by
      rw [← hws, hx]
      exact (List.append_nil ws).symm
    rcases hU with ⟨x, hx, rfl⟩ | ⟨x, hx, rfl⟩ | ⟨f, hf, m, hm, l', hl', rfl⟩
    · dsimp only [Un.d]
      walk_at "dd"
      rw [loose x rfl]
      exact uq _ _ _ _ .lst q
    · dsimp only [Un.d]
      walk_at "dd"
      rw [loose x rfl]
      exact uq _ _ _ _ .lst q
    · have hws : ws ++ ((((endsS s).filter fun l => decide (endU e (us.take i) f m l = us)).map fun l => us.take i ++ [Un.b f m l]) ++ wrds s e us (us.take (i + 1)) (us.drop (i + 1))) = lws83 s e us := by
        rw [← hws, htk]
        rfl
      dsimp only [Un.d]
      walk_at "dd"
      refine .inl ?_
      walk_at "dd"
      refine ⟨rfl, _, .refl _, s, rfl, cl ?_⟩
      refine p_ladd (.lst _) (.lst _) (szl2 (by simp only [List.length_map, List.length_cons, List.length_nil]; omega)) ?_
      rw [show [D.str ""] ++ s.l.map D.str = (endsS s).map D.str from rfl]
      walk_at "dd"
      refine .frz_lst ⟨fun j σ L1 => ∃ e5 e6, σ = [some s.d, some (lenD e), some (wD us), some (.ref g), some (.int (1 + (i : Int))), e5, e6] ∧ L1 = (g, .lst ((ws ++ (((endsS s).take j).filter fun l => decide (endU e (us.take i) f m l = us)).map fun l => us.take i ++ [Un.b f m l]).map wD)) :: L, ⟨_, _, rfl, by rw [List.take_zero, List.filter_nil, List.map_nil, List.append_nil]⟩, ?_⟩
      rintro j σ L1 ⟨e5, e6, rfl, rfl⟩
      refine ⟨trivial, fun hj => ?_, fun d hd => ?_⟩
      · dsimp only at hj
        rw [List.length_map] at hj
        rw [hj, List.take_length]
        walk_at "dd"
        refine ⟨_, .refl _, _, _, _, _, rfl, rfl, by rw [List.append_assoc]; exact hws, fun v mv => ?_, ?_⟩
        · rw [htk] at mv
          rcases List.mem_append.mp mv with mv | mv
          · exact hB v mv
          · rw [List.mem_singleton.mp mv]
            exact ⟨f, hf, m, hm, l', hl', rfl⟩
        · have h2 := List.length_filter_le (fun l => decide (endU e (us.take i) f m l = us)) (endsS s)
          rw [len_ends] at h2
          rw [List.length_append, List.length_map]
          omega
      · obtain ⟨l, hl1, rfl⟩ := get_map hd
        have ml := List.mem_cons.mp (List.mem_of_getElem? hl1)
        have hw : IsW s (us.take i ++ [Un.b f m l]) := ⟨by simp, by rw [List.length_append, List.length_take]; simp only [List.length_cons, List.length_nil]; omega, fun v mv => by
          rcases List.mem_append.mp mv with mv | mv
          · exact hB v mv
          · rw [List.mem_singleton.mp mv]
            exact ⟨f, hf, m, hm, l, ml, rfl⟩⟩
        have hfl := List.length_filter_le (fun l => decide (endU e (us.take i) f m l = us)) ((endsS s).take j)
        have htl : ((endsS s).take j).length ≤ 41 := by
          rw [List.length_take, len_ends]
          omega
        have tk2 : (endsS s).take (j + 1) = (endsS s).take j ++ [l] := take_next hl1
        have nxt : (((endsS s).take (j + 1)).filter fun l => decide (endU e (us.take i) f m l = us)) = ((endsS s).take j).filter (fun l => decide (endU e (us.take i) f m l = us)) ++ (if endU e (us.take i) f m l = us then [l] else []) := by
          rw [tk2, List.filter_append]
          congr 1
          by_cases h : endU e (us.take i) f m l = us <;> simp [h]
        walk_at "dd"
        rw [e1]
        refine p_slc (.lst _) (cutD_to.trans List.map_take.symm) ?_
        walk_at "dd"
        rw [e1]
        refine p_ix (j := i) (.lst (.lst _)) rfl (d := .tup [.str f, .str m, .str l']) (by rw [List.getElem?_map, hget]; rfl) ?_
        walk_at "dd"
        refine p_slcT (es := [.str f, .str m]) rfl ?_
        walk_at "dd"
        refine .tup (by simp) (by simp) (Nat.le_of_ble_eq_true rfl) ?_
        walk_at "dd"
        refine .inl ?_
        walk_at "dd"
        refine p_ladd (.lst _) (.lst _) (szl2 (by simp only [List.length_map, List.length_take, List.length_cons, List.length_nil, List.length_append]; omega)) ?_
        walk_at "dd"
        rw [show D.lst (List.map Un.d (us.take i) ++ [D.tup [D.str f, D.str m, D.str l]]) = wD (us.take i ++ [Un.b f m l]) from wD_last.symm]
        refine ⟨rfl, _, .refl _, s, e, us.take i, f, m, l, rfl, ok, eo, hw, cl ?_⟩
        walk_at "dd"
        refine p_eq (.same _) (.same _) (okw84 ok (endU_ok84 eo hw)) (okw84 ok hu) fun b hb => ?_
        walk_at "dd"
        refine c_b (fun h => ?_) (fun h => ?_)
        · have he : endU e (us.take i) f m l = us := wD_inj (hb.mp h)
          rw [if_pos he] at nxt
          walk_at "dd"
          refine p_app (by walk_at "sp") (by rw [List.length_map, List.length_append, List.length_map]; omega) ?_
          walk_at "dd"
          refine ⟨_, .refl _, _, _, rfl, ?_⟩
          rw [nxt, List.map_append (l₂ := [l]), ← List.append_assoc, List.map_append (l₂ := [l].map _)]
          rfl
        · have he : ¬ endU e (us.take i) f m l = us := fun he => by
            rw [hb.mpr (congrArg wD he)] at h
            cases h
          rw [if_neg he, List.append_nil] at nxt
          walk_at "dd"
          exact ⟨_, .refl _, _, _, rfl, by rw [nxt]⟩
end
section
set_option Elab.async false
open PySem L2
def ir_law_f4f25129_b2 : Stms :=
  (.cons (.drop (.mth .clear (.var 10) .nil))
  .nil)
def ir_law_f4f25129_r3 : Stms :=
  (.cons (.drop (.mth .append (.var 9) (.cons (.lit (.str "zz")) .nil)))
  (.cons (.ite (.cmp .ne (.meth "Ending" "unended" 93 (.var 3) (.cons (.var 5) .nil)) (.var 7))
    (.cons (.ret (.lit (.bl false)))
    .nil)
    .nil)
  .nil))
def ir_law_f4f25129_b1 : Stms :=
  (.cons (.asg (.name 5) (.call "_law_piece" 373 (.cons (.call "_law_pot" 35 (.cons (.var 0) (.cons (.var 4) .nil))) (.cons (.var 1) (.cons (.var 2) .nil)))))
  (.cons (.asg (.name 6) (.call "_law_words" 374 (.cons (.var 1) (.cons (.var 2) (.cons (.var 5) .nil)))))
  (.cons (.sortL (some 7) "law.<locals>.<lambda>" (.var 6) 10 (.lc (.of (.var 10)) 11 (.yes) (.call "_law_number" 375 (.cons (.var 1) (.cons (.var 11) .nil)))))
  (.cons (.asg (.name 8) (.call "_law_handed" 376 (.cons (.var 5) (.cons (.var 4) .nil))))
  (.cons (.asg (.name 9) (.meth "Ending" "unended" 93 (.var 3) (.cons (.var 8) .nil)))
  (.cons (.ite (.bool false (.cons (.not_ (.val (.blt .isi (.cons (.var 9) (.cons (.ty "list") .nil))))) (.cons (.cmp .ne (.var 9) (.var 7)) (.cons (.cmp .ne (.var 8) (.call "_law_handed" 376 (.cons (.var 5) (.cons (.var 4) .nil)))) .nil))))
    (.cons (.ret (.lit (.bl false)))
    .nil)
    .nil)
  (.cons (.for_ (.name 10) (.of (.var 9))
    ir_law_f4f25129_b2)
  ir_law_f4f25129_r3)))))))
def ir_law_f4f25129_r4 : Stms :=
  (.cons (.ret (.lit (.bl true)))
  .nil)
def ir_law_f4f25129 : Stms :=
  (.cons (.asg (.name 1) (.call "_law_script" 39 (.cons (.call "_law_pot" 35 (.cons (.var 0) (.cons (.lit (.int 0)) .nil))) .nil)))
  (.cons (.asg (.name 2) (.call "_law_end" 96 (.cons (.call "_law_pot" 35 (.cons (.var 0) (.cons (.lit (.int 1)) .nil))) (.cons (.var 1) .nil))))
  (.cons (.asg (.name 3) (.make "Ending" 1090 (.cons (.var 1) (.cons (.idx (.var 2) (.lit (.int 0))) (.cons (.idx (.var 2) (.lit (.int 1))) (.cons (.idx (.var 2) (.lit (.int 2))) (.cons (.blt .tuple (.cons (.idx (.var 2) (.lit (.int 3))) .nil)) .nil)))))))
  (.cons (.for_ (.name 4) (.rng (.cons (.lit (.int 2)) (.cons (.blt .max (.cons (.lit (.int 14)) (.cons (.blt .min (.cons (.blt .len (.cons (.var 0) .nil)) (.cons (.lit (.int 22)) .nil))) .nil))) .nil)))
    ir_law_f4f25129_b1)
  ir_law_f4f25129_r4))))
end
section
set_option Elab.async false
set_option linter.all false
set_option maxRecDepth 100000
open PySem L2
open TL
def cz83 (prs : List (Addr × List Un)) : HL := prs.map fun q => (q.1, Ch.lst [])
theorem swap_in83 {L X1 X2 : HL} {r : Addr × Ch} {c' : Ch} (h : L.Perm (X1 ++ r :: X2)) : ∃ A B, L = A ++ r :: B ∧ (A ++ (r.1, c') :: B).Perm (X1 ++ (r.1, c') :: X2) := by
  obtain ⟨A, B, rfl⟩ := List.append_of_mem (h.mem_iff.mpr (List.mem_append_right _ (.head _)))
  refine ⟨A, B, rfl, ?_⟩
  have h2 : (A ++ B).Perm (X1 ++ X2) := ((List.perm_middle.symm.trans h).trans List.perm_middle).cons_inv
  exact (List.perm_middle.trans (h2.cons _)).trans List.perm_middle.symm
section
variable {C : Ct}
/-- what is told is spoilt, and asked again -/
theorem l83_r3 (c11 : C.fn 93 1 = some (2, permS sp_unended83, [])) {D0 : DE} {s : Scr} {e : Enn} {us : List Un} {p : Addr} {xs : List D} {A B : HL} {x0 x1 x2 x4 x6 x8 x10 x11 x12 : Option D} (ok : s.Ok) (eo : e.Ok s) (hu : ∀ u ∈ us, IsU s u) (lu : us.length ≤ 20) (lx : xs.length ≤ 1000)
    (q : ∀ y9 L', D0.nx [x0, x1, x2, some (ennD s e), x4, some (wD us), x6, some (.lst ((srt84 s (lws83 s e us)).map wD)), x8, y9, x10, x11, x12] L') :
    wpSs C ir_law_f4f25129_r3 D0 [x0, x1, x2, some (ennD s e), x4, some (wD us), x6, some (.lst ((srt84 s (lws83 s e us)).map wD)), x8, some (.ref p), x10, x11, x12] (A ++ (p, .lst xs) :: B) := by
  have g := lws_good (e := e) ok hu
  unfold ir_law_f4f25129_r3
  walk_at "dd"
  refine p_app .app (by omega) ?_
  walk_at "dd"
  refine ⟨rfl, _, .refl _, s, e, _, us, rfl, ok, eo, ⟨us.map Un.d, .lst _, by rw [List.length_map]; omega, okq_un72 ok hu, told_us72 us, hu⟩, by omega, fun ws g2 prs hp p2 => cl ?_⟩
  have e2 : ws = srt84 s (lws83 s e us) := good_one g2.so g.so g2.nd g.nd (fun w mw => ((g2.mem w).mp mw).2.1) fun w => (g2.mem w).trans (g.mem w).symm
  rw [e2] at hp
  walk_at "dd"
  refine p_eqO72 ok hp (fun o mo u mu => (((g.mem o).mp mo).2.1 u mu).u) (.head _) (fun q mq => .tail _ (List.mem_append_left _ (ch72_mem mq))) ?_
  refine ⟨false, rfl, ?_⟩
  walk_at "dd"
  exact q _ _
theorem l83_b1 (c1 : C.fn 35 2 = some (2, permS sp_pot, [])) (c6 : C.fn 373 3 = some (3, permS sp_lpiece83, [])) (c7 : C.fn 374 3 = some (3, permS sp_lwords83, [])) (c8 : C.fn 375 2 = some (2, permS sp_lnumber83, [])) (c9 : C.fn 376 2 = some (2, permS sp_lhand83, [])) (c11 : C.fn 93 1 = some (2, permS sp_unended83, []))
    {D0 : DE} {s : Scr} {e : Enn} {ns : List Int} {k : Nat} {L : HL} {x5 x6 x7 x8 x9 x10 x11 x12 : Option D} (ok : s.Ok) (eo : e.Ok s) (hk : k ≤ 1000)
    (q : ∀ y5 y6 y7 y8 y9 y10 y11 y12 L', D0.nx [some (.frz ns), some s.d, some (lenD e), some (ennD s e), some (.int (k : Int)), y5, y6, y7, y8, y9, y10, y11, y12] L') :
    wpSs C ir_law_f4f25129_b1 D0 [some (.frz ns), some s.d, some (lenD e), some (ennD s e), some (.int (k : Int)), x5, x6, x7, x8, x9, x10, x11, x12] L := by
  unfold ir_law_f4f25129_b1
  walk_at "dd"
  refine ⟨rfl, _, .refl _, ns, k, rfl, by omega, by omega, fun p a b hp => cl ?_⟩
  walk_at "dd"
  refine ⟨rfl, _, .refl _, s, e, p, a, b, _, rfl, rfl, hp, ok, eo, fun us a b hu lu hp => cl ?_⟩
  walk_at "dd"
  refine ⟨rfl, _, .refl _, s, e, us, rfl, ok, eo, hu, lu, cl ?_⟩
  have hB : ∀ w ∈ lws83 s e us, ∀ u ∈ w, IsB s u := fun w mw => ((lws_mem hu w).mp mw).2.1
  have g := lws_good (e := e) ok hu
  refine s_sortA ?_
  unfold dSortL
  walk_at "dd"
  refine ⟨List Un, lws83 s e us, wD, fun w => .lst ((nms s w).map D.int), kl83 s, .lst _, fun w mw L2 pm => ?_, fun w _ => .lst (pyInts84 _), kl83_alike s _, kl83_sortable s _, fun w _ => kl83_depth s w, .inl ?_⟩
  · simp only [List.set]
    walk_at "dd"
    refine .frz_lst (lc_map ((nms s w).map D.int) (fun _ _ => trivial) (by unfold nms; rw [List.length_map, List.length_map, List.length_map]) (fun p acc i d y K hd hy kk => ?_) (.inl ⟨rfl, pm⟩))
    obtain ⟨u, hu1, rfl⟩ := get_map hd
    unfold nms at hy
    rw [List.map_map] at hy
    obtain ⟨u', hu2, rfl⟩ := get_map hy
    obtain rfl : u' = u := Option.some.inj (hu2.symm.trans hu1)
    simp only [wipeD, List.set]
    walk_at "dd"
    exact ⟨rfl, _, .refl _, s, u', rfl, ok, hB w mw u' (List.mem_of_getElem? hu1), cl kk⟩
  rw [kl83_sort hB]
  have hn : ∀ u ∈ us, u ≠ .n := fun u mu h => by
    rcases hu u mu with ⟨_, _, h2⟩ | ⟨_, _, h2⟩ | ⟨_, _, _, _, _, _, h2⟩ <;> rw [h] at h2 <;> cases h2
  simp only [List.set]
  walk_at "dd"
  refine ⟨rfl, _, .refl _, us, k, rfl, hk, by omega, hn, cl ?_⟩
  walk_at "dd"
  refine ⟨rfl, _, .refl _, s, e, _, us, rfl, ok, eo, hnd_hdc ok hu (by omega), by omega, fun ws g2 prs hpr p2 => cl ?_⟩
  have e2 : ws = srt84 s (lws83 s e us) := good_one g2.so g.so g2.nd g.nd (fun w mw => ((g2.mem w).mp mw).2.1) fun w => (g2.mem w).trans (g.mem w).symm
  rw [e2] at hpr
  walk_at "dd"
  refine p_eqO72 ok hpr (fun o mo u mu => (((g.mem o).mp mo).2.1 u mu).u) (.head _) (fun q mq => .tail _ (List.mem_append_left _ (ch72_mem mq))) ?_
  refine ⟨false, rfl, ?_⟩
  walk_at "dd"
  refine ⟨rfl, _, .refl _, us, k, rfl, hk, by omega, hn, cl ?_⟩
  refine p_ne (.same _) (.same _) (hnd_ok ok hu) (hnd_ok ok hu) fun b hb => ?_
  obtain rfl : b = false := by
    cases b
    · rfl
    · exact (hb.mp rfl rfl).elim
  walk_at "dd"
  refine .own (.head _) ⟨fun j σ L2 => ∃ e10, σ = [some (.frz ns), some s.d, some (lenD e), some (ennD s e), some (.int (k : Int)), some (wD us), some (.lst ((lws83 s e us).map wD)), some (.lst ((srt84 s (lws83 s e us)).map wD)), some (hnd83 k us), some (.ref p2), e10, x11, x12] ∧ L2.Perm ((p2, .lst (rf72 prs)) :: (cz83 (prs.take j) ++ (ch72 (prs.drop j) ++ pot p a b :: L))), ⟨_, rfl, .refl _⟩, ?_⟩
  rintro j σ L2 ⟨e10, rfl, hL⟩
  refine ⟨hL.mem_iff.mpr (.head _), fun hj => ?_, fun d hd => ?_⟩
  · obtain ⟨A, B, rfl⟩ := List.append_of_mem (hL.mem_iff.mpr (.head _))
    have lx : (rf72 prs).length ≤ 1000 := by
      have h1 := congrArg List.length hpr
      have h2 := wrds_le (s := s) (e := e) (us := us) us []
      have h3 := Nat.mul_le_mul lu (show s.l.length + 1 ≤ 41 by have := ok.l40; omega)
      unfold srt84 at h1
      rw [List.length_map, List.length_mergeSort] at h1
      unfold rf72
      rw [List.length_map, h1]
      unfold lws83
      omega
    exact l83_r3 c11 ok eo hu lu lx fun y9 L' => q _ _ _ _ _ _ _ _ _
  · have hd : (rf72 prs)[j]? = some d := hd
    unfold rf72 at hd
    obtain ⟨r, hr, rfl⟩ := get_map hd
    obtain ⟨hlt, er⟩ := List.getElem?_eq_some_iff.mp hr
    have e : ch72 (prs.drop j) = (r.1, Ch.lst (r.2.map Un.d)) :: ch72 (prs.drop (j + 1)) := by
      rw [List.drop_eq_getElem_cons hlt, er]
      rfl
    have e2 : cz83 (prs.take (j + 1)) = cz83 (prs.take j) ++ [(r.1, Ch.lst [])] := by
      unfold cz83
      rw [take_next hr, List.map_append]
      rfl
    rw [e] at hL
    obtain ⟨A, B, rfl, hAB⟩ := swap_in83 (X1 := (p2, .lst (rf72 prs)) :: cz83 (prs.take j)) (X2 := ch72 (prs.drop (j + 1)) ++ pot p a b :: L) (r := (r.1, Ch.lst (r.2.map Un.d))) (c' := .lst []) hL
    unfold ir_law_f4f25129_b2
    walk_at "dd"
    refine .mk .app ?_
    walk_at "dd"
    refine ⟨_, .refl _, _, rfl, ?_⟩
    rw [e2, List.append_assoc]
    exact hAB
def sp_law83 : DSp := fun ds L Q E => ∃ ns, ds = [.frz ns] ∧ Q (.bl true) []
theorem vc_law83 (c1 : C.fn 35 2 = some (2, permS sp_pot, [])) (c2 : C.fn 39 1 = some (1, permS sp_script, [])) (c3 : C.fn 96 2 = some (2, permS sp_lend82, [])) (c5 : C.fn 1090 5 = some (6, permS sp_EndT, [])) (c6 : C.fn 373 3 = some (3, permS sp_lpiece83, [])) (c7 : C.fn 374 3 = some (3, permS sp_lwords83, [])) (c8 : C.fn 375 2 = some (2, permS sp_lnumber83, [])) (c9 : C.fn 376 2 = some (2, permS sp_lhand83, [])) (c11 : C.fn 93 1 = some (2, permS sp_unended83, [])) : VC 13 1 sp_law83 (wpSs C ir_law_f4f25129) := by
  rintro ds L Q E hl uq ue ⟨ns, rfl, q⟩
  have q : ∀ L3, Q (.bl true) L3 := fun L3 => uq _ _ _ _ (.sub (List.nil_sublist _)) q
  unfold ir_law_f4f25129
  walk_at "go"
  refine ⟨rfl, _, .refl _, ns, 0, rfl, by decide, by decide, fun p a b hp => cl ?_⟩
  walk_at "dd"
  refine ⟨rfl, _, .refl _, p, a, b, _, rfl, rfl, hp, fun s a b ok hp => cl ?_⟩
  walk_at "dd"
  refine ⟨rfl, _, .refl _, ns, 1, rfl, by decide, by decide, fun p a b hp => cl ?_⟩
  walk_at "dd"
  refine ⟨rfl, _, .refl _, s, p, a, b, _, rfl, rfl, hp, ok, fun e a b eo hp => cl ?_⟩
  walk_at "dd"
  refine p_ix (j := 0) (.tup _) rfl (d := wD e.al) rfl ?_
  walk_at "dd"
  refine p_ix (j := 1) (.tup _) rfl (d := wD e.an) rfl ?_
  walk_at "dd"
  refine p_ix (j := 2) (.tup _) rfl (d := .str e.j) rfl ?_
  walk_at "dd"
  refine p_ix (j := 3) (.tup _) rfl (d := sts e.li) rfl ?_
  refine p_tupl (.lst _) ?_
  walk_at "dd"
  refine fun o => ⟨rfl, _, .refl _, s, e, o, _, _, _, _, rfl, rfl, ok, eo, endP83 ok eo.al, endP83 ok eo.an, .tup _, cl ⟨rfl, ⟨_, _, .ins, ?_⟩⟩⟩
  walk_at "dd"
  refine .two (by omega) (by decide) (by decide) (by omega) ⟨fun i σ L1 => ∃ x4 x5 x6 x7 x8 x9 x10 x11 x12, σ = [some (.frz ns), some s.d, some (lenD e), some (ennD s e), x4, x5, x6, x7, x8, x9, x10, x11, x12], ⟨none, none, none, none, none, none, none, none, none, rfl⟩, ?_⟩
  rintro i σ L1 ⟨x4, x5, x6, x7, x8, x9, x10, x11, x12, rfl⟩
  refine ⟨trivial, fun hi => ?_, fun d hd => ?_⟩
  · unfold ir_law_f4f25129_r4
    walk_at "dd"
    exact q _
  have hlt := lt_of_get hd
  unfold rgD at hd
  obtain ⟨j, hj, rfl⟩ := get_map hd
  dsimp only at hlt
  rw [rgD_len] at hlt
  obtain ⟨rfl, hlen⟩ : i = j ∧ i < 60 := by
    have := lt_of_get hj
    rw [List.length_range] at this
    rw [List.getElem?_range this] at hj
    exact ⟨Option.some.inj hj, by omega⟩
  rw [show (2 : Int) + (i : Int) = ((2 + i : Nat) : Int) by push_cast; rfl]
  walk_at "dd"
  refine l83_b1 c1 c6 c7 c8 c9 c11 ok eo (by omega) fun y5 y6 y7 y8 y9 y10 y11 y12 L' => ?_
  exact ⟨_, .refl _, _, _, _, _, _, _, _, _, _, rfl⟩
end
end
end DM
set_option autoImplicit false
set_option Elab.async false
theorem DM.lookup_memS {β : Type} {x : PySem.Str} {d : β} : ∀ {l : List (PySem.Str × β)}, l.lookup x = some d → (x, d) ∈ l
  | [], h => by cases h
  | (a, b) :: l, h => by
    rw [List.lookup_cons] at h
    cases e : (x == a) with
    | true =>
      rw [e] at h
      cases h
      rw [show x = a from eq_of_beq e]
      exact .head _
    | false =>
      rw [e] at h
      exact .tail _ (lookup_memS h)
set_option autoImplicit false
set_option Elab.async false
set_option linter.all false
set_option maxRecDepth 100000
set_option maxHeartbeats 0
namespace DM.Ak83
open PySem PySem.Spec PyProof.Rows L2 DM
def nms : List (Nat × Str × Str) := [(36, ("" : Str), ("_law_take" : Str)), (37, ("" : Str), ("_law_mixed" : Str)), (38, ("" : Str), ("_law_more" : Str)), (15, ("" : Str), ("is_part" : Str)), (16, ("" : Str), ("are_parts" : Str)), (14, ("" : Str), ("is_whole" : Str)), (17, ("" : Str), ("letters_in" : Str)), (18, ("" : Str), ("are_script" : Str)), (19, ("Script" : Str), ("__init__" : Str)), (39, ("" : Str), ("_law_script" : Str)), (34, ("" : Str), ("_law_cell_at" : Str)), (35, ("" : Str), ("_law_pot" : Str)), (20, ("Script" : Str), ("firsts" : Str)), (21, ("Script" : Str), ("middles" : Str)), (22, ("Script" : Str), ("lasts" : Str)), (40, ("" : Str), ("_law_unit" : Str)), (96, ("" : Str), ("_law_end" : Str)), (26, ("Script" : Str), ("is_first" : Str)), (27, ("Script" : Str), ("is_middle" : Str)), (65, ("" : Str), ("is_loose" : Str)), (28, ("Script" : Str), ("is_last" : Str)), (29, ("Script" : Str), ("has_block" : Str)), (64, ("" : Str), ("is_block" : Str)), (66, ("" : Str), ("is_unit" : Str)), (1, ("" : Str), ("unit_told" : Str)), (67, ("" : Str), ("looked_over" : Str)), (89, ("" : Str), ("are_lasts" : Str)), (90, ("Ending" : Str), ("__init__" : Str)), (97, ("" : Str), ("_law_ended" : Str)), (95, ("" : Str), ("_law_word" : Str)), (373, ("" : Str), ("_law_piece" : Str)), (374, ("" : Str), ("_law_words" : Str)), (375, ("" : Str), ("_law_number" : Str)), (376, ("" : Str), ("_law_handed" : Str)), (92, ("Ending" : Str), ("stems" : Str)), (454, ("" : Str), ("word_of" : Str)), (91, ("Ending" : Str), ("ended" : Str)), (30, ("Script" : Str), ("ends" : Str)), (32, ("Script" : Str), ("number" : Str)), (94, ("Ending" : Str), ("numbers" : Str)), (93, ("Ending" : Str), ("unended" : Str)), (377, ("" : Str), ("law" : Str)), (1026, ("Script" : Str), ("is_first" : Str)), (1027, ("Script" : Str), ("is_middle" : Str)), (1065, ("" : Str), ("is_loose" : Str)), (1028, ("Script" : Str), ("is_last" : Str)), (1029, ("Script" : Str), ("has_block" : Str)), (1064, ("" : Str), ("is_block" : Str)), (1066, ("" : Str), ("is_unit" : Str)), (1001, ("" : Str), ("unit_told" : Str)), (1067, ("" : Str), ("looked_over" : Str)), (1090, ("Ending" : Str), ("__init__" : Str))]
def nm (i : Nat) : Str × Str := (nms.lookup i).getD ("", "")
def cons : List (Str × D) := [("MOST_LETTERS", .int 2), ("LETTERS", .str "abcdefghijklmnopqrstuvwxyz"), ("MOST_PARTS", .int 40)]
def con (x : Str) : Option D := cons.lookup x
def fdsL : List (Str × List Str) := [("Script", ["first_parts", "middle_parts", "last_parts", "least"]), ("Ending", ["after_last", "after_none", "script", "joined", "light"])]
def fds (c : Str) : List Str := (fdsL.lookup c).getD []
def cls : List Str := ["Script", "Ending", "NoPiece", "NoWord"]
def exn : List Str := ["NoPiece", "NoWord"]
def exa : List Str := []
def subL : List (Str × List (Str × Bool)) := [("NoPiece", [("NoPiece", true), ("NoWord", false)])]
def sub (c y : Str) : Option Bool := ((subL.lookup c).getD []).lookup y
def Gk (K : PySem.W.Frag) : Gw := ⟨K, fun c => if c ∈ cls then some (He.ga K c) else none, match PySem.W.tabIn K "law" with
  | some (_, T) => [(T, "law.<locals>.<lambda>")]
  | none => [], fun _ _ => False⟩
theorem Gk_T {K : PySem.W.Frag} {c T : Addr} (h : PySem.W.tabIn K "law" = some (c, T)) : (Gk K).T = [(T, ("law.<locals>.<lambda>" : Str))] := by
  unfold Gk
  dsimp only
  rw [h]
def isxL : List (Str × List (Str × Bool)) := []
def isx (c y : Str) : Option Bool := ((isxL.lookup c).getD []).lookup y
def hotL : List (Str × List (Str × D)) := []
def hot (f y : Str) : Option D := ((hotL.lookup f).getD []).lookup y
abbrev Cc (es : List Ent) : Ct := ⟨con, tab es, fds, exn, sub, isx, fun _ => none, fun _ => none, exa, hot⟩
theorem fdS (es : List Ent) : FdS (Cc es) := ⟨show ("first_parts" : Str) ∈ fds "Script" by decide +kernel, show ("middle_parts" : Str) ∈ fds "Script" by decide +kernel, show ("last_parts" : Str) ∈ fds "Script" by decide +kernel, show ("least" : Str) ∈ fds "Script" by decide +kernel⟩
theorem fdE (es : List Ent) : FdE (Cc es) := ⟨show ("after_last" : Str) ∈ fds "Ending" by decide +kernel, show ("after_none" : Str) ∈ fds "Ending" by decide +kernel, show ("script" : Str) ∈ fds "Ending" by decide +kernel, show ("joined" : Str) ∈ fds "Ending" by decide +kernel, show ("light" : Str) ∈ fds "Ending" by decide +kernel⟩
def ns0 : List Str := ["_law_pot_here", "_law_many", "_law_digit"]
def ps0 : List Str := ["_law_pot_here", "_law_many"]
theorem nl0 : (ns0.all fun q => !isLam q) = true := by kernel_rfl
theorem sc0 : FnScope ns0 ps0 (defScope (top 31)) := ⟨rfl, rfl, rfl, by decide +kernel, rfl, by decide +kernel, by decide +kernel⟩
theorem ch0 : chSs ns0 nm (defScope (top 31)) ir__law_take_ce8d1c30 (defBody (top 31)) = true := by kernel_rfl
def ns1 : List Str := ["_law_pot_here", "_law_parts", "_law_found", "_law_part"]
def ps1 : List Str := ["_law_pot_here", "_law_parts"]
theorem nl1 : (ns1.all fun q => !isLam q) = true := by kernel_rfl
theorem sc1 : FnScope ns1 ps1 (defScope (top 32)) := ⟨rfl, rfl, rfl, by decide +kernel, rfl, by decide +kernel, by decide +kernel⟩
theorem ch1 : chSs ns1 nm (defScope (top 32)) ir__law_mixed_c3c42a6b (defBody (top 32)) = true := by kernel_rfl
def ns2 : List Str := ["_law_pot_here", "_law_parts", "_law_ones", "_law_others", "_law_found", "_law_k", "_law_pair"]
def ps2 : List Str := ["_law_pot_here", "_law_parts", "_law_ones", "_law_others"]
theorem nl2 : (ns2.all fun q => !isLam q) = true := by kernel_rfl
theorem sc2 : FnScope ns2 ps2 (defScope (top 33)) := ⟨rfl, rfl, rfl, by decide +kernel, rfl, by decide +kernel, by decide +kernel⟩
theorem ch2 : chSs ns2 nm (defScope (top 33)) ir__law_more_dcb3c2a0 (defBody (top 33)) = true := by kernel_rfl
def ns3 : List Str := ["thing", "sign"]
def ps3 : List Str := ["thing"]
theorem nl3 : (ns3.all fun q => !isLam q) = true := by kernel_rfl
theorem sc3 : FnScope ns3 ps3 (defScope (top 23)) := ⟨rfl, rfl, rfl, by decide +kernel, rfl, by decide +kernel, by decide +kernel⟩
theorem ch3 : chSs ns3 nm (defScope (top 23)) ir_is_part (defBody (top 23)) = true := by kernel_rfl
def ns4 : List Str := ["thing", "least", "part"]
def ps4 : List Str := ["thing", "least"]
theorem nl4 : (ns4.all fun q => !isLam q) = true := by kernel_rfl
theorem sc4 : FnScope ns4 ps4 (defScope (top 24)) := ⟨rfl, rfl, rfl, by decide +kernel, rfl, by decide +kernel, by decide +kernel⟩
theorem ch4 : chSs ns4 nm (defScope (top 24)) ir_are_parts (defBody (top 24)) = true := by kernel_rfl
def ns5 : List Str := ["thing"]
def ps5 : List Str := ["thing"]
theorem nl5 : (ns5.all fun q => !isLam q) = true := by kernel_rfl
theorem sc5 : FnScope ns5 ps5 (defScope (top 22)) := ⟨rfl, rfl, rfl, by decide +kernel, rfl, by decide +kernel, by decide +kernel⟩
theorem ch5 : chSs ns5 nm (defScope (top 22)) ir_is_whole (defBody (top 22)) = true := by kernel_rfl
def ns6 : List Str := ["parts", "found", "part", "letter"]
def ps6 : List Str := ["parts"]
theorem nl6 : (ns6.all fun q => !isLam q) = true := by kernel_rfl
theorem sc6 : FnScope ns6 ps6 (defScope (top 25)) := ⟨rfl, rfl, rfl, by decide +kernel, rfl, by decide +kernel, by decide +kernel⟩
theorem ch6 : chSs ns6 nm (defScope (top 25)) ir_letters_in (defBody (top 25)) = true := by kernel_rfl
def ns7 : List Str := ["firsts", "middles", "lasts", "consonants", "vowels", "letter", "last"]
def ps7 : List Str := ["firsts", "middles", "lasts"]
theorem nl7 : (ns7.all fun q => !isLam q) = true := by kernel_rfl
theorem sc7 : FnScope ns7 ps7 (defScope (top 26)) := ⟨rfl, rfl, rfl, by decide +kernel, rfl, by decide +kernel, by decide +kernel⟩
theorem ch7 : chSs ns7 nm (defScope (top 26)) ir_are_script (defBody (top 26)) = true := by kernel_rfl
def ns8 : List Str := ["self", "firsts", "middles", "lasts", "base"]
def ps8 : List Str := ["self", "firsts", "middles", "lasts", "base"]
theorem nl8 : (ns8.all fun q => !isLam q) = true := by kernel_rfl
theorem sc8 : FnScope ns8 ps8 (defScope (inClass (top 27) 0)) := ⟨rfl, rfl, rfl, by decide +kernel, rfl, by decide +kernel, by decide +kernel⟩
theorem ch8 : chSs ns8 nm (defScope (inClass (top 27) 0)) ir_Script___init__ (defBody (inClass (top 27) 0)) = true := by kernel_rfl
def ns9 : List Str := ["_law_pot_here", "_law_start", "_law_step", "_law_letters", "_law_k", "_law_many", "_law_consonants", "_law_vowels", "_law_ends", "_law_letter", "_law_firsts", "_law_middles", "_law_lasts"]
def ps9 : List Str := ["_law_pot_here"]
theorem nl9 : (ns9.all fun q => !isLam q) = true := by kernel_rfl
theorem sc9 : FnScope ns9 ps9 (defScope (top 34)) := ⟨rfl, rfl, rfl, by decide +kernel, rfl, by decide +kernel, by decide +kernel⟩
theorem ch9 : chSs ns9 nm (defScope (top 34)) ir__law_script_ca86632e (defBody (top 34)) = true := by kernel_rfl
def ns10 : List Str := ["_law_script_here", "_law_k"]
def ps10 : List Str := ["_law_script_here", "_law_k"]
theorem nl10 : (ns10.all fun q => !isLam q) = true := by kernel_rfl
theorem sc10 : FnScope ns10 ps10 (defScope (top 29)) := ⟨rfl, rfl, rfl, by decide +kernel, rfl, by decide +kernel, by decide +kernel⟩
theorem ch10 : chSs ns10 nm (defScope (top 29)) ir__law_cell_at_792e9224 (defBody (top 29)) = true := by kernel_rfl
def ns11 : List Str := ["_law_script_here", "_law_k", "_law_cell"]
def ps11 : List Str := ["_law_script_here", "_law_k"]
theorem nl11 : (ns11.all fun q => !isLam q) = true := by kernel_rfl
theorem sc11 : FnScope ns11 ps11 (defScope (top 30)) := ⟨rfl, rfl, rfl, by decide +kernel, rfl, by decide +kernel, by decide +kernel⟩
theorem ch11 : chSs ns11 nm (defScope (top 30)) ir__law_pot_b4b7bbdf (defBody (top 30)) = true := by kernel_rfl
def ns12 : List Str := ["self"]
def ps12 : List Str := ["self"]
theorem nl12 : (ns12.all fun q => !isLam q) = true := by kernel_rfl
theorem sc12 : FnScope ns12 ps12 (defScope (inClass (top 27) 1)) := ⟨rfl, rfl, rfl, by decide +kernel, rfl, by decide +kernel, by decide +kernel⟩
theorem ch12 : chSs ns12 nm (defScope (inClass (top 27) 1)) ir_Script_firsts (defBody (inClass (top 27) 1)) = true := by kernel_rfl
def ns13 : List Str := ["self"]
def ps13 : List Str := ["self"]
theorem nl13 : (ns13.all fun q => !isLam q) = true := by kernel_rfl
theorem sc13 : FnScope ns13 ps13 (defScope (inClass (top 27) 2)) := ⟨rfl, rfl, rfl, by decide +kernel, rfl, by decide +kernel, by decide +kernel⟩
theorem ch13 : chSs ns13 nm (defScope (inClass (top 27) 2)) ir_Script_middles (defBody (inClass (top 27) 2)) = true := by kernel_rfl
def ns14 : List Str := ["self"]
def ps14 : List Str := ["self"]
theorem nl14 : (ns14.all fun q => !isLam q) = true := by kernel_rfl
theorem sc14 : FnScope ns14 ps14 (defScope (inClass (top 27) 3)) := ⟨rfl, rfl, rfl, by decide +kernel, rfl, by decide +kernel, by decide +kernel⟩
theorem ch14 : chSs ns14 nm (defScope (inClass (top 27) 3)) ir_Script_lasts (defBody (inClass (top 27) 3)) = true := by kernel_rfl
def ns15 : List Str := ["_law_pot_here", "_law_told", "_law_way", "_law_first", "_law_middle", "_law_ends"]
def ps15 : List Str := ["_law_pot_here", "_law_told"]
theorem nl15 : (ns15.all fun q => !isLam q) = true := by kernel_rfl
theorem sc15 : FnScope ns15 ps15 (defScope (top 35)) := ⟨rfl, rfl, rfl, by decide +kernel, rfl, by decide +kernel, by decide +kernel⟩
theorem ch15 : chSs ns15 nm (defScope (top 35)) ir__law_unit_9f265eb2 (defBody (top 35)) = true := by kernel_rfl
def ns16 : List Str := ["_law_pot_here", "_law_told", "_law_parts", "_law_k", "_law_turn", "_law_ends", "_law_light", "_law_last"]
def ps16 : List Str := ["_law_pot_here", "_law_told"]
theorem nl16 : (ns16.all fun q => !isLam q) = true := by kernel_rfl
theorem sc16 : FnScope ns16 ps16 (defScope (top 37)) := ⟨rfl, rfl, rfl, by decide +kernel, rfl, by decide +kernel, by decide +kernel⟩
theorem ch16 : chSs ns16 nm (defScope (top 37)) ir__law_end_ca23d679 (defBody (top 37)) = true := by kernel_rfl
def ns17 : List Str := ["self", "thing"]
def ps17 : List Str := ["self", "thing"]
theorem nl17 : (ns17.all fun q => !isLam q) = true := by kernel_rfl
theorem sc17 : FnScope ns17 ps17 (defScope (inClass (top 27) 7)) := ⟨rfl, rfl, rfl, by decide +kernel, rfl, by decide +kernel, by decide +kernel⟩
theorem ch17 : chSs ns17 nm (defScope (inClass (top 27) 7)) ir_Script_is_first (defBody (inClass (top 27) 7)) = true := by kernel_rfl
theorem ch17T : chSs ns17 nm (defScope (inClass (top 27) 7)) ir_Script_is_first (defBody (inClass (top 27) 7)) = true := by kernel_rfl
def ns18 : List Str := ["self", "thing"]
def ps18 : List Str := ["self", "thing"]
theorem nl18 : (ns18.all fun q => !isLam q) = true := by kernel_rfl
theorem sc18 : FnScope ns18 ps18 (defScope (inClass (top 27) 8)) := ⟨rfl, rfl, rfl, by decide +kernel, rfl, by decide +kernel, by decide +kernel⟩
theorem ch18 : chSs ns18 nm (defScope (inClass (top 27) 8)) ir_Script_is_middle (defBody (inClass (top 27) 8)) = true := by kernel_rfl
theorem ch18T : chSs ns18 nm (defScope (inClass (top 27) 8)) ir_Script_is_middle (defBody (inClass (top 27) 8)) = true := by kernel_rfl
def ns19 : List Str := ["script", "thing"]
def ps19 : List Str := ["script", "thing"]
theorem nl19 : (ns19.all fun q => !isLam q) = true := by kernel_rfl
theorem sc19 : FnScope ns19 ps19 (defScope (top 10)) := ⟨rfl, rfl, rfl, by decide +kernel, rfl, by decide +kernel, by decide +kernel⟩
theorem ch19 : chSs ns19 nm (defScope (top 10)) ir_is_loose (defBody (top 10)) = true := by kernel_rfl
theorem ch19T : chSs ns19 nm (defScope (top 10)) ir_T_is_loose (defBody (top 10)) = true := by kernel_rfl
def ns20 : List Str := ["self", "thing"]
def ps20 : List Str := ["self", "thing"]
theorem nl20 : (ns20.all fun q => !isLam q) = true := by kernel_rfl
theorem sc20 : FnScope ns20 ps20 (defScope (inClass (top 27) 9)) := ⟨rfl, rfl, rfl, by decide +kernel, rfl, by decide +kernel, by decide +kernel⟩
theorem ch20 : chSs ns20 nm (defScope (inClass (top 27) 9)) ir_Script_is_last (defBody (inClass (top 27) 9)) = true := by kernel_rfl
theorem ch20T : chSs ns20 nm (defScope (inClass (top 27) 9)) ir_Script_is_last (defBody (inClass (top 27) 9)) = true := by kernel_rfl
def ns21 : List Str := ["self", "thing"]
def ps21 : List Str := ["self", "thing"]
theorem nl21 : (ns21.all fun q => !isLam q) = true := by kernel_rfl
theorem sc21 : FnScope ns21 ps21 (defScope (inClass (top 27) 10)) := ⟨rfl, rfl, rfl, by decide +kernel, rfl, by decide +kernel, by decide +kernel⟩
theorem ch21 : chSs ns21 nm (defScope (inClass (top 27) 10)) ir_Script_has_block (defBody (inClass (top 27) 10)) = true := by kernel_rfl
theorem ch21T : chSs ns21 nm (defScope (inClass (top 27) 10)) ir_T_Script_has_block (defBody (inClass (top 27) 10)) = true := by kernel_rfl
def ns22 : List Str := ["script", "thing"]
def ps22 : List Str := ["script", "thing"]
theorem nl22 : (ns22.all fun q => !isLam q) = true := by kernel_rfl
theorem sc22 : FnScope ns22 ps22 (defScope (top 9)) := ⟨rfl, rfl, rfl, by decide +kernel, rfl, by decide +kernel, by decide +kernel⟩
theorem ch22 : chSs ns22 nm (defScope (top 9)) ir_is_block (defBody (top 9)) = true := by kernel_rfl
theorem ch22T : chSs ns22 nm (defScope (top 9)) ir_T_is_block (defBody (top 9)) = true := by kernel_rfl
def ns23 : List Str := ["script", "thing"]
def ps23 : List Str := ["script", "thing"]
theorem nl23 : (ns23.all fun q => !isLam q) = true := by kernel_rfl
theorem sc23 : FnScope ns23 ps23 (defScope (top 11)) := ⟨rfl, rfl, rfl, by decide +kernel, rfl, by decide +kernel, by decide +kernel⟩
theorem ch23 : chSs ns23 nm (defScope (top 11)) ir_is_unit (defBody (top 11)) = true := by kernel_rfl
theorem ch23T : chSs ns23 nm (defScope (top 11)) ir_T_is_unit (defBody (top 11)) = true := by kernel_rfl
def ns24 : List Str := ["thing"]
def ps24 : List Str := ["thing"]
theorem nl24 : (ns24.all fun q => !isLam q) = true := by kernel_rfl
theorem sc24 : FnScope ns24 ps24 (defScope (top 12)) := ⟨rfl, rfl, rfl, by decide +kernel, rfl, by decide +kernel, by decide +kernel⟩
theorem ch24 : chSs ns24 nm (defScope (top 12)) ir_unit_told (defBody (top 12)) = true := by kernel_rfl
theorem ch24T : chSs ns24 nm (defScope (top 12)) ir_unit_told (defBody (top 12)) = true := by kernel_rfl
def ns25 : List Str := ["script", "piece", "thing"]
def ps25 : List Str := ["script", "piece"]
theorem nl25 : (ns25.all fun q => !isLam q) = true := by kernel_rfl
theorem sc25 : FnScope ns25 ps25 (defScope (top 13)) := ⟨rfl, rfl, rfl, by decide +kernel, rfl, by decide +kernel, by decide +kernel⟩
theorem ch25 : chSs ns25 nm (defScope (top 13)) ir_looked_over (defBody (top 13)) = true := by kernel_rfl
theorem ch25T : chSs ns25 nm (defScope (top 13)) ir_T_looked_over (defBody (top 13)) = true := by kernel_rfl
def ns26 : List Str := ["script", "thing", "last"]
def ps26 : List Str := ["script", "thing"]
theorem nl26 : (ns26.all fun q => !isLam q) = true := by kernel_rfl
theorem sc26 : FnScope ns26 ps26 (defScope (top 16)) := ⟨rfl, rfl, rfl, by decide +kernel, rfl, by decide +kernel, by decide +kernel⟩
theorem ch26 : chSs ns26 nm (defScope (top 16)) ir_are_lasts (defBody (top 16)) = true := by kernel_rfl
def ns27 : List Str := ["self", "script", "after_last", "after_none", "join", "light", "e"]
def ps27 : List Str := ["self", "script", "after_last", "after_none", "join", "light"]
theorem nl27 : (ns27.all fun q => !isLam q) = true := by kernel_rfl
theorem sc27 : FnScope ns27 ps27 (defScope (inClass (top 17) 0)) := ⟨rfl, rfl, rfl, by decide +kernel, rfl, by decide +kernel, by decide +kernel⟩
theorem ch27T : chSs ns27 nm (defScope (inClass (top 17) 0)) ir_T_Ending___init__ (defBody (inClass (top 17) 0)) = true := by kernel_rfl
def ns28 : List Str := ["_law_end_here", "_law_word_here", "_law_after_last", "_law_after_none", "_law_join", "_law_light", "_law_first", "_law_middle", "_law_last"]
def ps28 : List Str := ["_law_end_here", "_law_word_here"]
theorem nl28 : (ns28.all fun q => !isLam q) = true := by kernel_rfl
theorem sc28 : FnScope ns28 ps28 (defScope (top 38)) := ⟨rfl, rfl, rfl, by decide +kernel, rfl, by decide +kernel, by decide +kernel⟩
theorem ch28 : chSs ns28 nm (defScope (top 38)) ir__law_ended_76a18697 (defBody (top 38)) = true := by kernel_rfl
def ns29 : List Str := ["_law_pot_here", "_law_told", "_law_ends", "_law_found", "_law_k", "_law_first", "_law_middle"]
def ps29 : List Str := ["_law_pot_here", "_law_told"]
theorem nl29 : (ns29.all fun q => !isLam q) = true := by kernel_rfl
theorem sc29 : FnScope ns29 ps29 (defScope (top 36)) := ⟨rfl, rfl, rfl, by decide +kernel, rfl, by decide +kernel, by decide +kernel⟩
theorem ch29 : chSs ns29 nm (defScope (top 36)) ir__law_word_473392b3 (defBody (top 36)) = true := by kernel_rfl
def ns30 : List Str := ["_law_pot_here", "_law_told", "_law_end_here", "_law_way", "_law_k", "_law_found"]
def ps30 : List Str := ["_law_pot_here", "_law_told", "_law_end_here"]
theorem nl30 : (ns30.all fun q => !isLam q) = true := by kernel_rfl
theorem sc30 : FnScope ns30 ps30 (defScope (top 39)) := ⟨rfl, rfl, rfl, by decide +kernel, rfl, by decide +kernel, by decide +kernel⟩
theorem ch30 : chSs ns30 nm (defScope (top 39)) ir__law_piece_2f3016a2 (defBody (top 39)) = true := by kernel_rfl
def ns31 : List Str := ["_law_told", "_law_end_here", "_law_piece_here", "_law_found", "_law_many", "_law_last", "_law_word_here"]
def ps31 : List Str := ["_law_told", "_law_end_here", "_law_piece_here"]
theorem nl31 : (ns31.all fun q => !isLam q) = true := by kernel_rfl
theorem sc31 : FnScope ns31 ps31 (defScope (top 40)) := ⟨rfl, rfl, rfl, by decide +kernel, rfl, by decide +kernel, by decide +kernel⟩
theorem ch31 : chSs ns31 nm (defScope (top 40)) ir__law_words_96dccc30 (defBody (top 40)) = true := by kernel_rfl
def ns32 : List Str := ["_law_told", "_law_block", "_law_ends", "_law_first", "_law_middle"]
def ps32 : List Str := ["_law_told", "_law_block"]
theorem nl32 : (ns32.all fun q => !isLam q) = true := by kernel_rfl
theorem sc32 : FnScope ns32 ps32 (defScope (top 41)) := ⟨rfl, rfl, rfl, by decide +kernel, rfl, by decide +kernel, by decide +kernel⟩
theorem ch32 : chSs ns32 nm (defScope (top 41)) ir__law_number_5c814792 (defBody (top 41)) = true := by kernel_rfl
def ns33 : List Str := ["_law_piece_here", "_law_k", "_law_found", "_law_at", "_law_unit_here"]
def ps33 : List Str := ["_law_piece_here", "_law_k"]
theorem nl33 : (ns33.all fun q => !isLam q) = true := by kernel_rfl
theorem sc33 : FnScope ns33 ps33 (defScope (top 42)) := ⟨rfl, rfl, rfl, by decide +kernel, rfl, by decide +kernel, by decide +kernel⟩
theorem ch33 : chSs ns33 nm (defScope (top 42)) ir__law_handed_72038984 (defBody (top 42)) = true := by kernel_rfl
def ns34 : List Str := ["self", "piece", "found", "end", "begin", "stem"]
def ps34 : List Str := ["self", "piece"]
theorem nl34 : (ns34.all fun q => !isLam q) = true := by kernel_rfl
theorem sc34 : FnScope ns34 ps34 (defScope (inClass (top 17) 2)) := ⟨rfl, rfl, rfl, by decide +kernel, rfl, by decide +kernel, by decide +kernel⟩
theorem ch34 : chSs ns34 nm (defScope (inClass (top 17) 2)) ir_Ending_stems (defBody (inClass (top 17) 2)) = true := by kernel_rfl
def ns35 : List Str := ["script", "thing", "one"]
def ps35 : List Str := ["script", "thing"]
theorem nl35 : (ns35.all fun q => !isLam q) = true := by kernel_rfl
theorem sc35 : FnScope ns35 ps35 (defScope (top 15)) := ⟨rfl, rfl, rfl, by decide +kernel, rfl, by decide +kernel, by decide +kernel⟩
theorem ch35 : chSs ns35 nm (defScope (top 15)) ir_E_word_of (defBody (top 15)) = true := by kernel_rfl
def ns36 : List Str := ["self", "word", "blocks", "first", "middle", "last"]
def ps36 : List Str := ["self", "word"]
theorem nl36 : (ns36.all fun q => !isLam q) = true := by kernel_rfl
theorem sc36 : FnScope ns36 ps36 (defScope (inClass (top 17) 1)) := ⟨rfl, rfl, rfl, by decide +kernel, rfl, by decide +kernel, by decide +kernel⟩
theorem ch36 : chSs ns36 nm (defScope (inClass (top 17) 1)) ir_Ending_ended (defBody (inClass (top 17) 1)) = true := by kernel_rfl
def ns37 : List Str := ["self"]
def ps37 : List Str := ["self"]
theorem nl37 : (ns37.all fun q => !isLam q) = true := by kernel_rfl
theorem sc37 : FnScope ns37 ps37 (defScope (inClass (top 27) 11)) := ⟨rfl, rfl, rfl, by decide +kernel, rfl, by decide +kernel, by decide +kernel⟩
theorem ch37 : chSs ns37 nm (defScope (inClass (top 27) 11)) ir_Script_ends (defBody (inClass (top 27) 11)) = true := by kernel_rfl
def ns38 : List Str := ["self", "block", "first", "middle", "last", "found"]
def ps38 : List Str := ["self", "block"]
theorem nl38 : (ns38.all fun q => !isLam q) = true := by kernel_rfl
theorem sc38 : FnScope ns38 ps38 (defScope (inClass (top 27) 13)) := ⟨rfl, rfl, rfl, by decide +kernel, rfl, by decide +kernel, by decide +kernel⟩
theorem ch38 : chSs ns38 nm (defScope (inClass (top 27) 13)) ir_Script_number (defBody (inClass (top 27) 13)) = true := by kernel_rfl
def ns39 : List Str := ["self", "word", "block"]
def ps39 : List Str := ["self", "word"]
theorem nl39 : (ns39.all fun q => !isLam q) = true := by kernel_rfl
theorem sc39 : FnScope ns39 ps39 (defScope (inClass (top 17) 4)) := ⟨rfl, rfl, rfl, by decide +kernel, rfl, by decide +kernel, by decide +kernel⟩
theorem ch39 : chSs ns39 nm (defScope (inClass (top 17) 4)) ir_Ending_numbers (defBody (inClass (top 17) 4)) = true := by kernel_rfl
def ns40 : List Str := ["self", "piece", "units", "found", "stem", "word"]
def ps40 : List Str := ["self", "piece"]
theorem nl40 : (ns40.all fun q => !isLam q) = true := by kernel_rfl
theorem sc40 : FnScope ns40 ps40 (defScope (inClass (top 17) 3)) := ⟨rfl, rfl, rfl, by decide +kernel, rfl, by decide +kernel, by decide +kernel⟩
theorem ch40 : chSs ns40 nm (defScope (inClass (top 17) 3)) ir_Ending_unended (defBody (inClass (top 17) 3)) = true := by kernel_rfl
def ns41 : List Str := ["_law_script_here", "_law_told", "_law_end_here", "_law_ending", "_law_k", "_law_piece_here", "_law_words_here", "_law_due", "_law_handed_here", "_law_found", "_law_word_here", "_law_block", "law.<locals>.<lambda>"]
def ps41 : List Str := ["_law_script_here"]
theorem nl41 : ∀ x ∈ ns41, isLam x = true → x = "law.<locals>.<lambda>" := by decide +kernel
theorem sc41 : FnScope ns41 ps41 (defScope (top 43)) := ⟨rfl, rfl, rfl, by decide +kernel, rfl, by decide +kernel, by decide +kernel⟩
theorem ch41 : chSs ns41 nm (defScope (top 43)) ir_law_f4f25129 (defBody (top 43)) = true := by kernel_rfl
section
variable {P : Program} {w : World} {K : PySem.W.Frag} {h base : Heap} {mg : Str → Option Value} (X : K.In h) (G : h.Ns mainGlobals mg) (c : DM.SaysE fa fn fe K)
include X G c
theorem fact (i : Nat) {f : He.Fa} (e : fa[i]? = some f) : f.ok K = true := c.1.fact i e
theorem bs : Bs (Gk K) con fds exn sub isx mg := by
  refine ⟨fun x d e => ?_, fun b => ?_, ?_, ?_, ?_, ⟨fun x C f e m => ?_, fun x C f e m => ?_⟩, fun c0 y b e => ?_, fun c0 y b e => ?_, fun x m => ?_⟩
  · have hm := DM.lookup_memS e
    simp only [cons, List.mem_cons, List.not_mem_nil, or_false, Prod.mk.injEq] at hm
    rcases hm with ⟨rfl, rfl⟩ | ⟨rfl, rfl⟩ | ⟨rfl, rfl⟩
    · obtain ⟨t, ht⟩ := He.int_ok X G (fact X G c 48 (f := .int "MOST_LETTERS" 2) rfl)
      exact ⟨_, .int 2, ht, ⟨t, rfl⟩, fun _ _ => .int _⟩
    · obtain ⟨t, ht⟩ := He.str_ok X G (fact X G c 49 (f := .str "LETTERS" "abcdefghijklmnopqrstuvwxyz") rfl)
      exact ⟨_, .str _, ht, ⟨t, rfl⟩, fun _ _ => .str (by decide +kernel)⟩
    · obtain ⟨t, ht⟩ := He.int_ok X G (fact X G c 50 (f := .int "MOST_PARTS" 40) rfl)
      exact ⟨_, .int 40, ht, ⟨t, rfl⟩, fun _ _ => .int _⟩
  · cases b
    · exact He.free_ok X G (fact X G c 27 (f := .free "len") rfl)
    · exact He.free_ok X G (fact X G c 28 (f := .free "list") rfl)
    · exact He.free_ok X G (fact X G c 29 (f := .free "tuple") rfl)
    · exact He.free_ok X G (fact X G c 30 (f := .free "all") rfl)
    · exact He.free_ok X G (fact X G c 31 (f := .free "any") rfl)
    · exact He.free_ok X G (fact X G c 32 (f := .free "sum") rfl)
    · exact He.free_ok X G (fact X G c 33 (f := .free "max") rfl)
    · exact He.free_ok X G (fact X G c 34 (f := .free "min") rfl)
    · exact He.free_ok X G (fact X G c 35 (f := .free "abs") rfl)
    · exact He.free_ok X G (fact X G c 36 (f := .free "int") rfl)
    · exact He.free_ok X G (fact X G c 37 (f := .free "divmod") rfl)
    · exact He.free_ok X G (fact X G c 38 (f := .free "str") rfl)
    · exact He.free_ok X G (fact X G c 39 (f := .free "isinstance") rfl)
    · exact He.free_ok X G (fact X G c 40 (f := .free "reversed") rfl)
    · exact He.free_ok X G (fact X G c 41 (f := .free "enumerate") rfl)
    · exact He.free_ok X G (fact X G c 42 (f := .free "repr") rfl)
    · exact He.free_ok X G (fact X G c 43 (f := .free "sorted") rfl)
    · exact He.free_ok X G (fact X G c 44 (f := .free "zip") rfl)
  · exact He.free_ok X G (fact X G c 45 (f := .free "range") rfl)
  · exact He.free_ok X G (fact X G c 46 (f := .free "bool") rfl)
  · exact He.free_ok X G (fact X G c 47 (f := .free "set") rfl)
  · have e : (if x ∈ cls then some (He.ga K x) else none) = some C := e
    by_cases hm : x ∈ cls
    · rw [if_pos hm] at e
      cases e
      simp only [cls, List.mem_cons, List.not_mem_nil, or_false] at hm
      rcases hm with rfl | rfl | rfl | rfl
      · exact He.cls_ok (fact X G c 52 (f := .cls "Script") rfl)
      · exact He.cls_ok (fact X G c 59 (f := .cls "Ending") rfl)
      · exact nomatch (show f ∈ ([] : List Str) from m)
      · exact nomatch (show f ∈ ([] : List Str) from m)
    · rw [if_neg hm] at e
      cases e
  · have e : (if x ∈ cls then some (He.ga K x) else none) = some C := e
    by_cases hm : x ∈ cls
    · rw [if_pos hm] at e
      cases e
      simp only [cls, List.mem_cons, List.not_mem_nil, or_false] at hm
      rcases hm with rfl | rfl | rfl | rfl
      · have m : f ∈ (["first_parts", "middle_parts", "last_parts", "least"] : List Str) := m
        simp only [List.mem_cons, List.not_mem_nil, or_false] at m
        rcases m with rfl | rfl | rfl | rfl
        · exact He.noat_ok (fact X G c 54 (f := .noat "Script" "first_parts") rfl)
        · exact He.noat_ok (fact X G c 55 (f := .noat "Script" "middle_parts") rfl)
        · exact He.noat_ok (fact X G c 56 (f := .noat "Script" "last_parts") rfl)
        · exact He.noat_ok (fact X G c 57 (f := .noat "Script" "least") rfl)
      · have m : f ∈ (["after_last", "after_none", "script", "joined", "light"] : List Str) := m
        simp only [List.mem_cons, List.not_mem_nil, or_false] at m
        rcases m with rfl | rfl | rfl | rfl | rfl
        · exact He.noat_ok (fact X G c 61 (f := .noat "Ending" "after_last") rfl)
        · exact He.noat_ok (fact X G c 62 (f := .noat "Ending" "after_none") rfl)
        · exact He.noat_ok (fact X G c 63 (f := .noat "Ending" "script") rfl)
        · exact He.noat_ok (fact X G c 64 (f := .noat "Ending" "joined") rfl)
        · exact He.noat_ok (fact X G c 65 (f := .noat "Ending" "light") rfl)
      · exact nomatch (show f ∈ ([] : List Str) from m)
      · exact nomatch (show f ∈ ([] : List Str) from m)
    · rw [if_neg hm] at e
      cases e
  · have e : ((subL.lookup c0).getD []).lookup y = some b := e
    cases hc : subL.lookup c0 with
    | none => rw [hc] at e; cases e
    | some l =>
      rw [hc] at e
      have h1 := DM.lookup_memS hc
      have h2 := DM.lookup_memS (show l.lookup y = some b from e)
      simp only [subL, List.mem_cons, List.not_mem_nil, or_false, Prod.mk.injEq] at h1
      rcases h1 with ⟨rfl, rfl⟩
      · simp only [List.mem_cons, List.not_mem_nil, or_false, Prod.mk.injEq] at h2
        rcases h2 with ⟨rfl, rfl⟩ | ⟨rfl, rfl⟩
        · exact ⟨_, He.glo_ok X G (fact X G c 66 (f := .glo "NoPiece") rfl), fun a ha => by
            have ha : (if ("NoPiece" : Str) ∈ cls then some (He.ga K "NoPiece") else none) = some a := ha
            rw [if_pos (by decide +kernel)] at ha
            cases ha
            exact of_decide_eq_true (fact X G c 70 (f := .exm "NoPiece" "NoPiece" true) rfl)⟩
        · exact ⟨_, He.glo_ok X G (fact X G c 66 (f := .glo "NoPiece") rfl), fun a ha => by
            have ha : (if ("NoWord" : Str) ∈ cls then some (He.ga K "NoWord") else none) = some a := ha
            rw [if_pos (by decide +kernel)] at ha
            cases ha
            exact of_decide_eq_true (fact X G c 71 (f := .exm "NoWord" "NoPiece" false) rfl)⟩
  · have e : ((isxL.lookup c0).getD []).lookup y = some b := e
    cases hc : isxL.lookup c0 with
    | none => rw [hc] at e; cases e
    | some l =>
      rw [hc] at e
      have h1 := DM.lookup_memS hc
      have h2 := DM.lookup_memS (show l.lookup y = some b from e)
      cases h1
  · simp only [exn, List.mem_cons, List.not_mem_nil, or_false] at m
    rcases m with rfl | rfl
    · exact ⟨_, (show (if ("NoPiece" : Str) ∈ cls then some (He.ga K "NoPiece") else none) = _ from if_pos (by decide +kernel)), He.glo_ok X G (fact X G c 66 (f := .glo "NoPiece") rfl), He.exc_ok (fact X G c 68 (f := .exc "NoPiece") rfl)⟩
    · exact ⟨_, (show (if ("NoWord" : Str) ∈ cls then some (He.ga K "NoWord") else none) = _ from if_pos (by decide +kernel)), He.glo_ok X G (fact X G c 67 (f := .glo "NoWord") rfl), He.exc_ok (fact X G c 69 (f := .exc "NoWord") rfl)⟩
theorem facts {f : Addr} (hf : mg ("law" : Str) = some (.ref f)) {c0 T0 : Addr} (ht : PySem.W.tabIn K "law" = some (c0, T0)) : ∃ fd : FuncData, (∀ (s : Shared) (v : Value), BindsTo s fd ⟨[v], []⟩ [("_law_script_here", v)]) ∧ ∀ base : Heap, K.In base → base.Ns mainGlobals mg → LamX.TabB base mg c0 T0 → FnQ P w K mg base L2.CX0 105 f fd ["_law_script_here"] (spL (Gk K) 1 sp_law83) := by
  have B := bs X G c
  obtain ⟨fd0, F0⟩ := c.1.def_ 0 (d := d0) rfl
  have F0 : FunD (Gk K).K "_law_take" "_law_take" (defArgs (top 31)) (defBody (top 31)) (defScope (top 31)) [] [] (He.ga K "_law_take") fd0 := F0
  obtain ⟨fd1, F1⟩ := c.1.def_ 1 (d := d1) rfl
  have F1 : FunD (Gk K).K "_law_mixed" "_law_mixed" (defArgs (top 32)) (defBody (top 32)) (defScope (top 32)) [] [] (He.ga K "_law_mixed") fd1 := F1
  obtain ⟨fd2, F2⟩ := c.1.def_ 2 (d := d2) rfl
  have F2 : FunD (Gk K).K "_law_more" "_law_more" (defArgs (top 33)) (defBody (top 33)) (defScope (top 33)) [] [] (He.ga K "_law_more") fd2 := F2
  obtain ⟨fd3, F3⟩ := c.1.def_ 3 (d := d3) rfl
  have F3 : FunD (Gk K).K "is_part" "is_part" (defArgs (top 23)) (defBody (top 23)) (defScope (top 23)) [] [] (He.ga K "is_part") fd3 := F3
  obtain ⟨fd4, F4⟩ := c.1.def_ 4 (d := d4) rfl
  have F4 : FunD (Gk K).K "are_parts" "are_parts" (defArgs (top 24)) (defBody (top 24)) (defScope (top 24)) [] [] (He.ga K "are_parts") fd4 := F4
  obtain ⟨fd5, F5⟩ := c.1.def_ 5 (d := d5) rfl
  have F5 : FunD (Gk K).K "is_whole" "is_whole" (defArgs (top 22)) (defBody (top 22)) (defScope (top 22)) [] [] (He.ga K "is_whole") fd5 := F5
  obtain ⟨fd6, F6⟩ := c.1.def_ 6 (d := d6) rfl
  have F6 : FunD (Gk K).K "letters_in" "letters_in" (defArgs (top 25)) (defBody (top 25)) (defScope (top 25)) [] [] (He.ga K "letters_in") fd6 := F6
  obtain ⟨fd7, F7⟩ := c.1.def_ 7 (d := d7) rfl
  have F7 : FunD (Gk K).K "are_script" "are_script" (defArgs (top 26)) (defBody (top 26)) (defScope (top 26)) [] [] (He.ga K "are_script") fd7 := F7
  obtain ⟨fd8, F8⟩ := c.1.def_ 8 (d := d8) rfl
  have F8 : FunD (Gk K).K "__init__" "Script.__init__" (defArgs (inClass (top 27) 0)) (defBody (inClass (top 27) 0)) (defScope (inClass (top 27) 0)) [.int 0] [] (He.ma K (He.ga K "Script") "__init__") fd8 := F8
  obtain ⟨fd9, F9⟩ := c.1.def_ 9 (d := d9) rfl
  have F9 : FunD (Gk K).K "_law_script" "_law_script" (defArgs (top 34)) (defBody (top 34)) (defScope (top 34)) [] [] (He.ga K "_law_script") fd9 := F9
  obtain ⟨fd10, F10⟩ := c.1.def_ 10 (d := d10) rfl
  have F10 : FunD (Gk K).K "_law_cell_at" "_law_cell_at" (defArgs (top 29)) (defBody (top 29)) (defScope (top 29)) [] [] (He.ga K "_law_cell_at") fd10 := F10
  obtain ⟨fd11, F11⟩ := c.1.def_ 11 (d := d11) rfl
  have F11 : FunD (Gk K).K "_law_pot" "_law_pot" (defArgs (top 30)) (defBody (top 30)) (defScope (top 30)) [] [] (He.ga K "_law_pot") fd11 := F11
  obtain ⟨fd12, F12⟩ := c.1.def_ 12 (d := d12) rfl
  have F12 : FunD (Gk K).K "firsts" "Script.firsts" (defArgs (inClass (top 27) 1)) (defBody (inClass (top 27) 1)) (defScope (inClass (top 27) 1)) [] [] (He.ma K (He.ga K "Script") "firsts") fd12 := F12
  obtain ⟨fd13, F13⟩ := c.1.def_ 13 (d := d13) rfl
  have F13 : FunD (Gk K).K "middles" "Script.middles" (defArgs (inClass (top 27) 2)) (defBody (inClass (top 27) 2)) (defScope (inClass (top 27) 2)) [] [] (He.ma K (He.ga K "Script") "middles") fd13 := F13
  obtain ⟨fd14, F14⟩ := c.1.def_ 14 (d := d14) rfl
  have F14 : FunD (Gk K).K "lasts" "Script.lasts" (defArgs (inClass (top 27) 3)) (defBody (inClass (top 27) 3)) (defScope (inClass (top 27) 3)) [] [] (He.ma K (He.ga K "Script") "lasts") fd14 := F14
  obtain ⟨fd15, F15⟩ := c.1.def_ 15 (d := d15) rfl
  have F15 : FunD (Gk K).K "_law_unit" "_law_unit" (defArgs (top 35)) (defBody (top 35)) (defScope (top 35)) [] [] (He.ga K "_law_unit") fd15 := F15
  obtain ⟨fd16, F16⟩ := c.1.def_ 16 (d := d16) rfl
  have F16 : FunD (Gk K).K "_law_end" "_law_end" (defArgs (top 37)) (defBody (top 37)) (defScope (top 37)) [] [] (He.ga K "_law_end") fd16 := F16
  obtain ⟨fd17, F17⟩ := c.1.def_ 17 (d := d17) rfl
  have F17 : FunD (Gk K).K "is_first" "Script.is_first" (defArgs (inClass (top 27) 7)) (defBody (inClass (top 27) 7)) (defScope (inClass (top 27) 7)) [] [] (He.ma K (He.ga K "Script") "is_first") fd17 := F17
  obtain ⟨fd18, F18⟩ := c.1.def_ 18 (d := d18) rfl
  have F18 : FunD (Gk K).K "is_middle" "Script.is_middle" (defArgs (inClass (top 27) 8)) (defBody (inClass (top 27) 8)) (defScope (inClass (top 27) 8)) [] [] (He.ma K (He.ga K "Script") "is_middle") fd18 := F18
  obtain ⟨fd19, F19⟩ := c.1.def_ 19 (d := d19) rfl
  have F19 : FunD (Gk K).K "is_loose" "is_loose" (defArgs (top 10)) (defBody (top 10)) (defScope (top 10)) [] [] (He.ga K "is_loose") fd19 := F19
  obtain ⟨fd20, F20⟩ := c.1.def_ 20 (d := d20) rfl
  have F20 : FunD (Gk K).K "is_last" "Script.is_last" (defArgs (inClass (top 27) 9)) (defBody (inClass (top 27) 9)) (defScope (inClass (top 27) 9)) [] [] (He.ma K (He.ga K "Script") "is_last") fd20 := F20
  obtain ⟨fd21, F21⟩ := c.1.def_ 21 (d := d21) rfl
  have F21 : FunD (Gk K).K "has_block" "Script.has_block" (defArgs (inClass (top 27) 10)) (defBody (inClass (top 27) 10)) (defScope (inClass (top 27) 10)) [] [] (He.ma K (He.ga K "Script") "has_block") fd21 := F21
  obtain ⟨fd22, F22⟩ := c.1.def_ 22 (d := d22) rfl
  have F22 : FunD (Gk K).K "is_block" "is_block" (defArgs (top 9)) (defBody (top 9)) (defScope (top 9)) [] [] (He.ga K "is_block") fd22 := F22
  obtain ⟨fd23, F23⟩ := c.1.def_ 23 (d := d23) rfl
  have F23 : FunD (Gk K).K "is_unit" "is_unit" (defArgs (top 11)) (defBody (top 11)) (defScope (top 11)) [] [] (He.ga K "is_unit") fd23 := F23
  obtain ⟨fd24, F24⟩ := c.1.def_ 24 (d := d24) rfl
  have F24 : FunD (Gk K).K "unit_told" "unit_told" (defArgs (top 12)) (defBody (top 12)) (defScope (top 12)) [] [] (He.ga K "unit_told") fd24 := F24
  obtain ⟨fd25, F25⟩ := c.1.def_ 25 (d := d25) rfl
  have F25 : FunD (Gk K).K "looked_over" "looked_over" (defArgs (top 13)) (defBody (top 13)) (defScope (top 13)) [] [] (He.ga K "looked_over") fd25 := F25
  obtain ⟨fd26, F26⟩ := c.1.def_ 26 (d := d26) rfl
  have F26 : FunD (Gk K).K "are_lasts" "are_lasts" (defArgs (top 16)) (defBody (top 16)) (defScope (top 16)) [] [] (He.ga K "are_lasts") fd26 := F26
  obtain ⟨fd27, F27⟩ := c.1.def_ 27 (d := d27) rfl
  have F27 : FunD (Gk K).K "__init__" "Ending.__init__" (defArgs (inClass (top 17) 0)) (defBody (inClass (top 17) 0)) (defScope (inClass (top 17) 0)) [] [] (He.ma K (He.ga K "Ending") "__init__") fd27 := F27
  obtain ⟨fd28, F28⟩ := c.1.def_ 28 (d := d28) rfl
  have F28 : FunD (Gk K).K "_law_ended" "_law_ended" (defArgs (top 38)) (defBody (top 38)) (defScope (top 38)) [] [] (He.ga K "_law_ended") fd28 := F28
  obtain ⟨fd29, F29⟩ := c.1.def_ 29 (d := d29) rfl
  have F29 : FunD (Gk K).K "_law_word" "_law_word" (defArgs (top 36)) (defBody (top 36)) (defScope (top 36)) [] [] (He.ga K "_law_word") fd29 := F29
  obtain ⟨fd30, F30⟩ := c.1.def_ 30 (d := d30) rfl
  have F30 : FunD (Gk K).K "_law_piece" "_law_piece" (defArgs (top 39)) (defBody (top 39)) (defScope (top 39)) [] [] (He.ga K "_law_piece") fd30 := F30
  obtain ⟨fd31, F31⟩ := c.1.def_ 31 (d := d31) rfl
  have F31 : FunD (Gk K).K "_law_words" "_law_words" (defArgs (top 40)) (defBody (top 40)) (defScope (top 40)) [] [] (He.ga K "_law_words") fd31 := F31
  obtain ⟨fd32, F32⟩ := c.1.def_ 32 (d := d32) rfl
  have F32 : FunD (Gk K).K "_law_number" "_law_number" (defArgs (top 41)) (defBody (top 41)) (defScope (top 41)) [] [] (He.ga K "_law_number") fd32 := F32
  obtain ⟨fd33, F33⟩ := c.1.def_ 33 (d := d33) rfl
  have F33 : FunD (Gk K).K "_law_handed" "_law_handed" (defArgs (top 42)) (defBody (top 42)) (defScope (top 42)) [] [] (He.ga K "_law_handed") fd33 := F33
  obtain ⟨fd34, F34⟩ := c.1.def_ 34 (d := d34) rfl
  have F34 : FunD (Gk K).K "stems" "Ending.stems" (defArgs (inClass (top 17) 2)) (defBody (inClass (top 17) 2)) (defScope (inClass (top 17) 2)) [] [] (He.ma K (He.ga K "Ending") "stems") fd34 := F34
  obtain ⟨fd35, F35⟩ := c.1.def_ 35 (d := d35) rfl
  have F35 : FunD (Gk K).K "word_of" "word_of" (defArgs (top 15)) (defBody (top 15)) (defScope (top 15)) [] [] (He.ga K "word_of") fd35 := F35
  obtain ⟨fd36, F36⟩ := c.1.def_ 36 (d := d36) rfl
  have F36 : FunD (Gk K).K "ended" "Ending.ended" (defArgs (inClass (top 17) 1)) (defBody (inClass (top 17) 1)) (defScope (inClass (top 17) 1)) [] [] (He.ma K (He.ga K "Ending") "ended") fd36 := F36
  obtain ⟨fd37, F37⟩ := c.1.def_ 37 (d := d37) rfl
  have F37 : FunD (Gk K).K "ends" "Script.ends" (defArgs (inClass (top 27) 11)) (defBody (inClass (top 27) 11)) (defScope (inClass (top 27) 11)) [] [] (He.ma K (He.ga K "Script") "ends") fd37 := F37
  obtain ⟨fd38, F38⟩ := c.1.def_ 38 (d := d38) rfl
  have F38 : FunD (Gk K).K "number" "Script.number" (defArgs (inClass (top 27) 13)) (defBody (inClass (top 27) 13)) (defScope (inClass (top 27) 13)) [] [] (He.ma K (He.ga K "Script") "number") fd38 := F38
  obtain ⟨fd39, F39⟩ := c.1.def_ 39 (d := d39) rfl
  have F39 : FunD (Gk K).K "numbers" "Ending.numbers" (defArgs (inClass (top 17) 4)) (defBody (inClass (top 17) 4)) (defScope (inClass (top 17) 4)) [] [] (He.ma K (He.ga K "Ending") "numbers") fd39 := F39
  obtain ⟨fd40, F40⟩ := c.1.def_ 40 (d := d40) rfl
  have F40 : FunD (Gk K).K "unended" "Ending.unended" (defArgs (inClass (top 17) 3)) (defBody (inClass (top 17) 3)) (defScope (inClass (top 17) 3)) [] [] (He.ma K (He.ga K "Ending") "unended") fd40 := F40
  obtain ⟨fd41, F41⟩ := c.1.def_ 41 (d := d41) rfl
  have F41 : FunD (Gk K).K "law" "law" (defArgs (top 43)) (defBody (top 43)) (defScope (top 43)) [] [] (He.ga K "law") fd41 := F41
  have e := hf.symm.trans (He.glo_ok X G (fact X G c 26 (f := .glo "law") rfl))
  cases e
  have b := FunD.bindsA (ps := ["_law_script_here"]) F41 fun _ _ _ _ _ _ us hl => match us, hl with | [_], _ => rfl
  refine ⟨fd41, fun s v => b s [v] rfl, fun base KB NB TB => ?_⟩
  have bx0 : ∀ x, x ∈ exa → NcOk (Gk K) P w mg base x := fun x m => by
    cases m
  have bx : Bx (Gk K) P w mg base exa hot := ⟨bx0, fun f y l hl => by
    have e : ((hotL.lookup f).getD []).lookup y = some l := hl
    cases hc : hotL.lookup f with
    | none => rw [hc] at e; cases e
    | some l1 =>
      rw [hc] at e
      have h1 := DM.lookup_memS hc
      have h2 := DM.lookup_memS (show l1.lookup y = some l from e)
      cases h1
    ⟩
  have b0 : Binds (Gk K).K fd0 ps0 [] := F0.bindsN fun _ _ _ _ _ _ us hl => match us, hl with | [_, _], _ => rfl
  have h0 := allCons (allNil (J := 2)) (ent (G := Gk K) (nm := nm) (P := P) (w := w) (base := base) (id := 36) (ar := 2) (dv := []) (gok B bx (by decide) (allNil (J := 2))) F0 sc0 ch0 (vc_take) nl0 b0 .nil (fun _ _ => .nil) (nmF rfl (He.glo_ok X G (fact X G c 0 (f := .glo "_law_take") rfl)) (by decide +kernel)))
  have b1 : Binds (Gk K).K fd1 ps1 [] := F1.bindsN fun _ _ _ _ _ _ us hl => match us, hl with | [_, _], _ => rfl
  have h1 := allCons h0 (ent (G := Gk K) (nm := nm) (P := P) (w := w) (base := base) (id := 37) (ar := 2) (dv := []) (gok B bx (by decide) h0) F1 sc1 ch1 (vc_mixed rfl) nl1 b1 .nil (fun _ _ => .nil) (nmF rfl (He.glo_ok X G (fact X G c 1 (f := .glo "_law_mixed") rfl)) (by decide +kernel)))
  have b2 : Binds (Gk K).K fd2 ps2 [] := F2.bindsN fun _ _ _ _ _ _ us hl => match us, hl with | [_, _, _, _], _ => rfl
  have h2 := allCons h1 (ent (G := Gk K) (nm := nm) (P := P) (w := w) (base := base) (id := 38) (ar := 4) (dv := []) (gok B bx (by decide) h1) F2 sc2 ch2 (vc_more rfl) nl2 b2 .nil (fun _ _ => .nil) (nmF rfl (He.glo_ok X G (fact X G c 2 (f := .glo "_law_more") rfl)) (by decide +kernel)))
  have b3 : Binds (Gk K).K fd3 ps3 [] := F3.bindsN fun _ _ _ _ _ _ us hl => match us, hl with | [_], _ => rfl
  have h3 := allCons h2 (ent (G := Gk K) (nm := nm) (P := P) (w := w) (base := base) (id := 15) (ar := 1) (dv := []) (gok B bx (by decide) h2) F3 sc3 ch3 (vc_is_part (by kernel_rfl) (by kernel_rfl)) nl3 b3 .nil (fun _ _ => .nil) (nmF rfl (He.glo_ok X G (fact X G c 3 (f := .glo "is_part") rfl)) (by decide +kernel)))
  have b4 : Binds (Gk K).K fd4 ps4 [] := F4.bindsN fun _ _ _ _ _ _ us hl => match us, hl with | [_, _], _ => rfl
  have h4 := allCons h3 (ent (G := Gk K) (nm := nm) (P := P) (w := w) (base := base) (id := 16) (ar := 2) (dv := []) (gok B bx (by decide) h3) F4 sc4 ch4 (vc_are_parts (by kernel_rfl) rfl) nl4 b4 .nil (fun _ _ => .nil) (nmF rfl (He.glo_ok X G (fact X G c 4 (f := .glo "are_parts") rfl)) (by decide +kernel)))
  have b5 : Binds (Gk K).K fd5 ps5 [] := F5.bindsN fun _ _ _ _ _ _ us hl => match us, hl with | [_], _ => rfl
  have h5 := allCons h4 (ent (G := Gk K) (nm := nm) (P := P) (w := w) (base := base) (id := 14) (ar := 1) (dv := []) (gok B bx (by decide) h4) F5 sc5 ch5 (vc_is_whole) nl5 b5 .nil (fun _ _ => .nil) (nmF rfl (He.glo_ok X G (fact X G c 5 (f := .glo "is_whole") rfl)) (by decide +kernel)))
  have b6 : Binds (Gk K).K fd6 ps6 [] := F6.bindsN fun _ _ _ _ _ _ us hl => match us, hl with | [_], _ => rfl
  have h6 := allCons h5 (ent (G := Gk K) (nm := nm) (P := P) (w := w) (base := base) (id := 17) (ar := 1) (dv := []) (gok B bx (by decide) h5) F6 sc6 ch6 (vc_letters_in) nl6 b6 .nil (fun _ _ => .nil) (nmF rfl (He.glo_ok X G (fact X G c 6 (f := .glo "letters_in") rfl)) (by decide +kernel)))
  have b7 : Binds (Gk K).K fd7 ps7 [] := F7.bindsN fun _ _ _ _ _ _ us hl => match us, hl with | [_, _, _], _ => rfl
  have h7 := allCons h6 (ent (G := Gk K) (nm := nm) (P := P) (w := w) (base := base) (id := 18) (ar := 3) (dv := []) (gok B bx (by decide) h6) F7 sc7 ch7 (vc_are_script rfl) nl7 b7 .nil (fun _ _ => .nil) (nmF rfl (He.glo_ok X G (fact X G c 7 (f := .glo "are_script") rfl)) (by decide +kernel)))
  obtain ⟨ds8, dv8, b8⟩ := FunD.binds1 (ps := ps8) F8 5 1 (by decide) rfl fun _ _ _ _ _ _ _ us its hl hi => match us, its, hl, hi with | [_, _, _, _, _], [_], _, _ => ⟨_, rfl, rfl⟩
  have h8 := allCons h7 (ent (G := Gk K) (nm := nm) (P := P) (w := w) (base := base) (id := 19) (ar := 4) (dv := []) (gok B bx (by decide) h7) F8 sc8 ch8 (vc_Script_init (fdS _) rfl rfl rfl) nl8 b8 dv8 (fun _ _ => .nil) (nmI (a := He.ga K "Script") rfl (by decide +kernel) (He.glo_ok X G (fact X G c 51 (f := .glo "Script") rfl)) rfl (He.cls_ok (fact X G c 52 (f := .cls "Script") rfl)) (He.meth_ok (fact X G c 72 (f := .meth "Script" "__init__") rfl)) (He.mkr_ok (fact X G c 53 (f := .mkr "Script") rfl))))
  have b9 : Binds (Gk K).K fd9 ps9 [] := F9.bindsN fun _ _ _ _ _ _ us hl => match us, hl with | [_], _ => rfl
  have h9 := allCons h8 (ent (G := Gk K) (nm := nm) (P := P) (w := w) (base := base) (id := 39) (ar := 1) (dv := []) (gok B bx (by decide) h8) F9 sc9 ch9 (vc_script rfl rfl rfl rfl) nl9 b9 .nil (fun _ _ => .nil) (nmF rfl (He.glo_ok X G (fact X G c 8 (f := .glo "_law_script") rfl)) (by decide +kernel)))
  have b10 : Binds (Gk K).K fd10 ps10 [] := F10.bindsN fun _ _ _ _ _ _ us hl => match us, hl with | [_, _], _ => rfl
  have h10 := allCons h9 (ent (G := Gk K) (nm := nm) (P := P) (w := w) (base := base) (id := 34) (ar := 2) (dv := []) (gok B bx (by decide) h9) F10 sc10 ch10 (vc_cell) nl10 b10 .nil (fun _ _ => .nil) (nmF rfl (He.glo_ok X G (fact X G c 9 (f := .glo "_law_cell_at") rfl)) (by decide +kernel)))
  have b11 : Binds (Gk K).K fd11 ps11 [] := F11.bindsN fun _ _ _ _ _ _ us hl => match us, hl with | [_, _], _ => rfl
  have h11 := allCons h10 (ent (G := Gk K) (nm := nm) (P := P) (w := w) (base := base) (id := 35) (ar := 2) (dv := []) (gok B bx (by decide) h10) F11 sc11 ch11 (vc_pot rfl) nl11 b11 .nil (fun _ _ => .nil) (nmF rfl (He.glo_ok X G (fact X G c 10 (f := .glo "_law_pot") rfl)) (by decide +kernel)))
  have b12 : Binds (Gk K).K fd12 ps12 [] := F12.bindsN fun _ _ _ _ _ _ us hl => match us, hl with | [_], _ => rfl
  have h12 := allCons h11 (ent (G := Gk K) (nm := nm) (P := P) (w := w) (base := base) (id := 20) (ar := 0) (dv := []) (gok B bx (by decide) h11) F12 sc12 ch12 (vc_firsts (fdS _)) nl12 b12 .nil (fun _ _ => .nil) (nmM (a := He.ga K "Script") rfl (by decide +kernel) (by decide +kernel) rfl (He.cls_ok (fact X G c 52 (f := .cls "Script") rfl)) (He.meth_ok (fact X G c 73 (f := .meth "Script" "firsts") rfl))))
  have b13 : Binds (Gk K).K fd13 ps13 [] := F13.bindsN fun _ _ _ _ _ _ us hl => match us, hl with | [_], _ => rfl
  have h13 := allCons h12 (ent (G := Gk K) (nm := nm) (P := P) (w := w) (base := base) (id := 21) (ar := 0) (dv := []) (gok B bx (by decide) h12) F13 sc13 ch13 (vc_middles (fdS _)) nl13 b13 .nil (fun _ _ => .nil) (nmM (a := He.ga K "Script") rfl (by decide +kernel) (by decide +kernel) rfl (He.cls_ok (fact X G c 52 (f := .cls "Script") rfl)) (He.meth_ok (fact X G c 74 (f := .meth "Script" "middles") rfl))))
  have b14 : Binds (Gk K).K fd14 ps14 [] := F14.bindsN fun _ _ _ _ _ _ us hl => match us, hl with | [_], _ => rfl
  have h14 := allCons h13 (ent (G := Gk K) (nm := nm) (P := P) (w := w) (base := base) (id := 22) (ar := 0) (dv := []) (gok B bx (by decide) h13) F14 sc14 ch14 (vc_lasts (fdS _)) nl14 b14 .nil (fun _ _ => .nil) (nmM (a := He.ga K "Script") rfl (by decide +kernel) (by decide +kernel) rfl (He.cls_ok (fact X G c 52 (f := .cls "Script") rfl)) (He.meth_ok (fact X G c 75 (f := .meth "Script" "lasts") rfl))))
  have b15 : Binds (Gk K).K fd15 ps15 [] := F15.bindsN fun _ _ _ _ _ _ us hl => match us, hl with | [_, _], _ => rfl
  have h15 := allCons h14 (ent (G := Gk K) (nm := nm) (P := P) (w := w) (base := base) (id := 40) (ar := 2) (dv := []) (gok B bx (by decide) h14) F15 sc15 ch15 (vc_unit rfl rfl rfl rfl) nl15 b15 .nil (fun _ _ => .nil) (nmF rfl (He.glo_ok X G (fact X G c 11 (f := .glo "_law_unit") rfl)) (by decide +kernel)))
  have b16 : Binds (Gk K).K fd16 ps16 [] := F16.bindsN fun _ _ _ _ _ _ us hl => match us, hl with | [_, _], _ => rfl
  have h16 := allCons h15 (ent (G := Gk K) (nm := nm) (P := P) (w := w) (base := base) (id := 96) (ar := 2) (dv := []) (gok B bx (by decide) h15) F16 sc16 ch16 (vc_lend82 rfl rfl rfl) nl16 b16 .nil (fun _ _ => .nil) (nmF rfl (He.glo_ok X G (fact X G c 12 (f := .glo "_law_end") rfl)) (by decide +kernel)))
  have b17 : Binds (Gk K).K fd17 ps17 [] := F17.bindsN fun _ _ _ _ _ _ us hl => match us, hl with | [_, _], _ => rfl
  have h17 := allCons h16 (ent (G := Gk K) (nm := nm) (P := P) (w := w) (base := base) (id := 1026) (ar := 1) (dv := []) (gok B bx (by decide) h16) F17 sc17 ch17T (vc_is_firstT (fdS _)) nl17 b17 .nil (fun _ _ => .nil) (nmM (a := He.ga K "Script") rfl (by decide +kernel) (by decide +kernel) rfl (He.cls_ok (fact X G c 52 (f := .cls "Script") rfl)) (He.meth_ok (fact X G c 76 (f := .meth "Script" "is_first") rfl))))
  have b18 : Binds (Gk K).K fd18 ps18 [] := F18.bindsN fun _ _ _ _ _ _ us hl => match us, hl with | [_, _], _ => rfl
  have h18 := allCons h17 (ent (G := Gk K) (nm := nm) (P := P) (w := w) (base := base) (id := 1027) (ar := 1) (dv := []) (gok B bx (by decide) h17) F18 sc18 ch18T (vc_is_middleT (fdS _)) nl18 b18 .nil (fun _ _ => .nil) (nmM (a := He.ga K "Script") rfl (by decide +kernel) (by decide +kernel) rfl (He.cls_ok (fact X G c 52 (f := .cls "Script") rfl)) (He.meth_ok (fact X G c 77 (f := .meth "Script" "is_middle") rfl))))
  have b19 : Binds (Gk K).K fd19 ps19 [] := F19.bindsN fun _ _ _ _ _ _ us hl => match us, hl with | [_, _], _ => rfl
  have h19 := allCons h18 (ent (G := Gk K) (nm := nm) (P := P) (w := w) (base := base) (id := 1065) (ar := 2) (dv := []) (gok B bx (by decide) h18) F19 sc19 ch19T (vc_is_looseT rfl rfl) nl19 b19 .nil (fun _ _ => .nil) (nmF rfl (He.glo_ok X G (fact X G c 13 (f := .glo "is_loose") rfl)) (by decide +kernel)))
  have b20 : Binds (Gk K).K fd20 ps20 [] := F20.bindsN fun _ _ _ _ _ _ us hl => match us, hl with | [_, _], _ => rfl
  have h20 := allCons h19 (ent (G := Gk K) (nm := nm) (P := P) (w := w) (base := base) (id := 1028) (ar := 1) (dv := []) (gok B bx (by decide) h19) F20 sc20 ch20T (vc_is_lastT (fdS _)) nl20 b20 .nil (fun _ _ => .nil) (nmM (a := He.ga K "Script") rfl (by decide +kernel) (by decide +kernel) rfl (He.cls_ok (fact X G c 52 (f := .cls "Script") rfl)) (He.meth_ok (fact X G c 78 (f := .meth "Script" "is_last") rfl))))
  have b21 : Binds (Gk K).K fd21 ps21 [] := F21.bindsN fun _ _ _ _ _ _ us hl => match us, hl with | [_, _], _ => rfl
  have h21 := allCons h20 (ent (G := Gk K) (nm := nm) (P := P) (w := w) (base := base) (id := 1029) (ar := 1) (dv := []) (gok B bx (by decide) h20) F21 sc21 ch21T (vc_has_blockT rfl rfl rfl) nl21 b21 .nil (fun _ _ => .nil) (nmM (a := He.ga K "Script") rfl (by decide +kernel) (by decide +kernel) rfl (He.cls_ok (fact X G c 52 (f := .cls "Script") rfl)) (He.meth_ok (fact X G c 79 (f := .meth "Script" "has_block") rfl))))
  have b22 : Binds (Gk K).K fd22 ps22 [] := F22.bindsN fun _ _ _ _ _ _ us hl => match us, hl with | [_, _], _ => rfl
  have h22 := allCons h21 (ent (G := Gk K) (nm := nm) (P := P) (w := w) (base := base) (id := 1064) (ar := 2) (dv := []) (gok B bx (by decide) h21) F22 sc22 ch22T (vc_is_blockT rfl) nl22 b22 .nil (fun _ _ => .nil) (nmF rfl (He.glo_ok X G (fact X G c 14 (f := .glo "is_block") rfl)) (by decide +kernel)))
  have b23 : Binds (Gk K).K fd23 ps23 [] := F23.bindsN fun _ _ _ _ _ _ us hl => match us, hl with | [_, _], _ => rfl
  have h23 := allCons h22 (ent (G := Gk K) (nm := nm) (P := P) (w := w) (base := base) (id := 1066) (ar := 2) (dv := []) (gok B bx (by decide) h22) F23 sc23 ch23T (vc_is_unitT rfl rfl) nl23 b23 .nil (fun _ _ => .nil) (nmF rfl (He.glo_ok X G (fact X G c 15 (f := .glo "is_unit") rfl)) (by decide +kernel)))
  have b24 : Binds (Gk K).K fd24 ps24 [] := F24.bindsN fun _ _ _ _ _ _ us hl => match us, hl with | [_], _ => rfl
  have h24 := allCons h23 (ent (G := Gk K) (nm := nm) (P := P) (w := w) (base := base) (id := 1001) (ar := 1) (dv := []) (gok B bx (by decide) h23) F24 sc24 ch24T (vc_unit_toldT) nl24 b24 .nil (fun _ _ => .nil) (nmF rfl (He.glo_ok X G (fact X G c 16 (f := .glo "unit_told") rfl)) (by decide +kernel)))
  have b25 : Binds (Gk K).K fd25 ps25 [] := F25.bindsN fun _ _ _ _ _ _ us hl => match us, hl with | [_, _], _ => rfl
  have h25 := allCons h24 (ent (G := Gk K) (nm := nm) (P := P) (w := w) (base := base) (id := 1067) (ar := 2) (dv := []) (gok B bx (by decide) h24) F25 sc25 ch25T (vc_lookedT (show ("NoPiece" : Str) ∈ exn by decide +kernel) rfl rfl) nl25 b25 .nil (fun _ _ => .nil) (nmF rfl (He.glo_ok X G (fact X G c 17 (f := .glo "looked_over") rfl)) (by decide +kernel)))
  have b26 : Binds (Gk K).K fd20 ps20 [] := F20.bindsN fun _ _ _ _ _ _ us hl => match us, hl with | [_, _], _ => rfl
  have h26 := allCons h25 (ent (G := Gk K) (nm := nm) (P := P) (w := w) (base := base) (id := 28) (ar := 1) (dv := []) (gok B bx (by decide) h25) F20 sc20 ch20 (vc_is_last (fdS _)) nl20 b26 .nil (fun _ _ => .nil) (nmM (a := He.ga K "Script") rfl (by decide +kernel) (by decide +kernel) rfl (He.cls_ok (fact X G c 52 (f := .cls "Script") rfl)) (He.meth_ok (fact X G c 78 (f := .meth "Script" "is_last") rfl))))
  have b27 : Binds (Gk K).K fd26 ps26 [] := F26.bindsN fun _ _ _ _ _ _ us hl => match us, hl with | [_, _], _ => rfl
  have h27 := allCons h26 (ent (G := Gk K) (nm := nm) (P := P) (w := w) (base := base) (id := 89) (ar := 2) (dv := []) (gok B bx (by decide) h26) F26 sc26 ch26 (vc_are_lasts82 rfl) nl26 b27 .nil (fun _ _ => .nil) (nmF rfl (He.glo_ok X G (fact X G c 18 (f := .glo "are_lasts") rfl)) (by decide +kernel)))
  have b28 : Binds (Gk K).K fd27 ps27 [] := F27.bindsN fun _ _ _ _ _ _ us hl => match us, hl with | [_, _, _, _, _, _], _ => rfl
  have h28 := allCons h27 (ent (G := Gk K) (nm := nm) (P := P) (w := w) (base := base) (id := 1090) (ar := 5) (dv := []) (gok B bx (by decide) h27) F27 sc27 ch27T (vc_EndT (fdE _) rfl rfl rfl rfl) nl27 b28 .nil (fun _ _ => .nil) (nmI (a := He.ga K "Ending") rfl (by decide +kernel) (He.glo_ok X G (fact X G c 58 (f := .glo "Ending") rfl)) rfl (He.cls_ok (fact X G c 59 (f := .cls "Ending") rfl)) (He.meth_ok (fact X G c 80 (f := .meth "Ending" "__init__") rfl)) (He.mkr_ok (fact X G c 60 (f := .mkr "Ending") rfl))))
  have b29 : Binds (Gk K).K fd28 ps28 [] := F28.bindsN fun _ _ _ _ _ _ us hl => match us, hl with | [_, _], _ => rfl
  have h29 := allCons h28 (ent (G := Gk K) (nm := nm) (P := P) (w := w) (base := base) (id := 97) (ar := 2) (dv := []) (gok B bx (by decide) h28) F28 sc28 ch28 (vc_lended82) nl28 b29 .nil (fun _ _ => .nil) (nmF rfl (He.glo_ok X G (fact X G c 19 (f := .glo "_law_ended") rfl)) (by decide +kernel)))
  have b30 : Binds (Gk K).K fd29 ps29 [] := F29.bindsN fun _ _ _ _ _ _ us hl => match us, hl with | [_, _], _ => rfl
  have h30 := allCons h29 (ent (G := Gk K) (nm := nm) (P := P) (w := w) (base := base) (id := 95) (ar := 2) (dv := []) (gok B bx (by decide) h29) F29 sc29 ch29 (vc_lword82 rfl rfl rfl rfl) nl29 b30 .nil (fun _ _ => .nil) (nmF rfl (He.glo_ok X G (fact X G c 20 (f := .glo "_law_word") rfl)) (by decide +kernel)))
  have b31 : Binds (Gk K).K fd30 ps30 [] := F30.bindsN fun _ _ _ _ _ _ us hl => match us, hl with | [_, _, _], _ => rfl
  have h31 := allCons h30 (ent (G := Gk K) (nm := nm) (P := P) (w := w) (base := base) (id := 373) (ar := 3) (dv := []) (gok B bx (by decide) h30) F30 sc30 ch30 (vc_lpiece83 rfl rfl rfl rfl) nl30 b31 .nil (fun _ _ => .nil) (nmF rfl (He.glo_ok X G (fact X G c 21 (f := .glo "_law_piece") rfl)) (by decide +kernel)))
  have b32 : Binds (Gk K).K fd31 ps31 [] := F31.bindsN fun _ _ _ _ _ _ us hl => match us, hl with | [_, _, _], _ => rfl
  have h32 := allCons h31 (ent (G := Gk K) (nm := nm) (P := P) (w := w) (base := base) (id := 374) (ar := 3) (dv := []) (gok B bx (by decide) h31) F31 sc31 ch31 (vc_lwords83 rfl rfl) nl31 b32 .nil (fun _ _ => .nil) (nmF rfl (He.glo_ok X G (fact X G c 22 (f := .glo "_law_words") rfl)) (by decide +kernel)))
  have b33 : Binds (Gk K).K fd32 ps32 [] := F32.bindsN fun _ _ _ _ _ _ us hl => match us, hl with | [_, _], _ => rfl
  have h33 := allCons h32 (ent (G := Gk K) (nm := nm) (P := P) (w := w) (base := base) (id := 375) (ar := 2) (dv := []) (gok B bx (by decide) h32) F32 sc32 ch32 (vc_lnumber83 rfl rfl rfl) nl32 b33 .nil (fun _ _ => .nil) (nmF rfl (He.glo_ok X G (fact X G c 23 (f := .glo "_law_number") rfl)) (by decide +kernel)))
  have b34 : Binds (Gk K).K fd33 ps33 [] := F33.bindsN fun _ _ _ _ _ _ us hl => match us, hl with | [_, _], _ => rfl
  have h34 := allCons h33 (ent (G := Gk K) (nm := nm) (P := P) (w := w) (base := base) (id := 376) (ar := 2) (dv := []) (gok B bx (by decide) h33) F33 sc33 ch33 (vc_lhand83) nl33 b34 .nil (fun _ _ => .nil) (nmF rfl (He.glo_ok X G (fact X G c 24 (f := .glo "_law_handed") rfl)) (by decide +kernel)))
  have b35 : Binds (Gk K).K fd17 ps17 [] := F17.bindsN fun _ _ _ _ _ _ us hl => match us, hl with | [_, _], _ => rfl
  have h35 := allCons h34 (ent (G := Gk K) (nm := nm) (P := P) (w := w) (base := base) (id := 26) (ar := 1) (dv := []) (gok B bx (by decide) h34) F17 sc17 ch17 (vc_is_first (fdS _)) nl17 b35 .nil (fun _ _ => .nil) (nmM (a := He.ga K "Script") rfl (by decide +kernel) (by decide +kernel) rfl (He.cls_ok (fact X G c 52 (f := .cls "Script") rfl)) (He.meth_ok (fact X G c 76 (f := .meth "Script" "is_first") rfl))))
  have b36 : Binds (Gk K).K fd18 ps18 [] := F18.bindsN fun _ _ _ _ _ _ us hl => match us, hl with | [_, _], _ => rfl
  have h36 := allCons h35 (ent (G := Gk K) (nm := nm) (P := P) (w := w) (base := base) (id := 27) (ar := 1) (dv := []) (gok B bx (by decide) h35) F18 sc18 ch18 (vc_is_middle (fdS _)) nl18 b36 .nil (fun _ _ => .nil) (nmM (a := He.ga K "Script") rfl (by decide +kernel) (by decide +kernel) rfl (He.cls_ok (fact X G c 52 (f := .cls "Script") rfl)) (He.meth_ok (fact X G c 77 (f := .meth "Script" "is_middle") rfl))))
  have b37 : Binds (Gk K).K fd19 ps19 [] := F19.bindsN fun _ _ _ _ _ _ us hl => match us, hl with | [_, _], _ => rfl
  have h37 := allCons h36 (ent (G := Gk K) (nm := nm) (P := P) (w := w) (base := base) (id := 65) (ar := 2) (dv := []) (gok B bx (by decide) h36) F19 sc19 ch19 (vc_is_loose2 rfl rfl) nl19 b37 .nil (fun _ _ => .nil) (nmF rfl (He.glo_ok X G (fact X G c 13 (f := .glo "is_loose") rfl)) (by decide +kernel)))
  have b38 : Binds (Gk K).K fd21 ps21 [] := F21.bindsN fun _ _ _ _ _ _ us hl => match us, hl with | [_, _], _ => rfl
  have h38 := allCons h37 (ent (G := Gk K) (nm := nm) (P := P) (w := w) (base := base) (id := 29) (ar := 1) (dv := []) (gok B bx (by decide) h37) F21 sc21 ch21 (vc_has_block2 rfl rfl rfl) nl21 b38 .nil (fun _ _ => .nil) (nmM (a := He.ga K "Script") rfl (by decide +kernel) (by decide +kernel) rfl (He.cls_ok (fact X G c 52 (f := .cls "Script") rfl)) (He.meth_ok (fact X G c 79 (f := .meth "Script" "has_block") rfl))))
  have b39 : Binds (Gk K).K fd22 ps22 [] := F22.bindsN fun _ _ _ _ _ _ us hl => match us, hl with | [_, _], _ => rfl
  have h39 := allCons h38 (ent (G := Gk K) (nm := nm) (P := P) (w := w) (base := base) (id := 64) (ar := 2) (dv := []) (gok B bx (by decide) h38) F22 sc22 ch22 (vc_is_block2 rfl) nl22 b39 .nil (fun _ _ => .nil) (nmF rfl (He.glo_ok X G (fact X G c 14 (f := .glo "is_block") rfl)) (by decide +kernel)))
  have b40 : Binds (Gk K).K fd23 ps23 [] := F23.bindsN fun _ _ _ _ _ _ us hl => match us, hl with | [_, _], _ => rfl
  have h40 := allCons h39 (ent (G := Gk K) (nm := nm) (P := P) (w := w) (base := base) (id := 66) (ar := 2) (dv := []) (gok B bx (by decide) h39) F23 sc23 ch23 (vc_is_unit2 rfl rfl) nl23 b40 .nil (fun _ _ => .nil) (nmF rfl (He.glo_ok X G (fact X G c 15 (f := .glo "is_unit") rfl)) (by decide +kernel)))
  have b41 : Binds (Gk K).K fd24 ps24 [] := F24.bindsN fun _ _ _ _ _ _ us hl => match us, hl with | [_], _ => rfl
  have h41 := allCons h40 (ent (G := Gk K) (nm := nm) (P := P) (w := w) (base := base) (id := 1) (ar := 1) (dv := []) (gok B bx (by decide) h40) F24 sc24 ch24 (vc_unit_told) nl24 b41 .nil (fun _ _ => .nil) (nmF rfl (He.glo_ok X G (fact X G c 16 (f := .glo "unit_told") rfl)) (by decide +kernel)))
  have b42 : Binds (Gk K).K fd25 ps25 [] := F25.bindsN fun _ _ _ _ _ _ us hl => match us, hl with | [_, _], _ => rfl
  have h42 := allCons h41 (ent (G := Gk K) (nm := nm) (P := P) (w := w) (base := base) (id := 67) (ar := 2) (dv := []) (gok B bx (by decide) h41) F25 sc25 ch25 (vc_looked (show ("NoPiece" : Str) ∈ exn by decide +kernel) rfl rfl) nl25 b42 .nil (fun _ _ => .nil) (nmF rfl (He.glo_ok X G (fact X G c 17 (f := .glo "looked_over") rfl)) (by decide +kernel)))
  have b43 : Binds (Gk K).K fd34 ps34 [] := F34.bindsN fun _ _ _ _ _ _ us hl => match us, hl with | [_, _], _ => rfl
  have h43 := allCons h42 (ent (G := Gk K) (nm := nm) (P := P) (w := w) (base := base) (id := 92) (ar := 1) (dv := []) (gok B bx (by decide) h42) F34 sc34 ch34 (vc_stems84 (fdE _)) nl34 b43 .nil (fun _ _ => .nil) (nmM (a := He.ga K "Ending") rfl (by decide +kernel) (by decide +kernel) rfl (He.cls_ok (fact X G c 59 (f := .cls "Ending") rfl)) (He.meth_ok (fact X G c 81 (f := .meth "Ending" "stems") rfl))))
  have b44 : Binds (Gk K).K fd35 ps35 [] := F35.bindsN fun _ _ _ _ _ _ us hl => match us, hl with | [_, _], _ => rfl
  have h44 := allCons h43 (ent (G := Gk K) (nm := nm) (P := P) (w := w) (base := base) (id := 454) (ar := 2) (dv := []) (gok B bx (by decide) h43) F35 sc35 ch35 (vc_word83 rfl rfl) nl35 b44 .nil (fun _ _ => .nil) (nmF rfl (He.glo_ok X G (fact X G c 25 (f := .glo "word_of") rfl)) (by decide +kernel)))
  have b45 : Binds (Gk K).K fd36 ps36 [] := F36.bindsN fun _ _ _ _ _ _ us hl => match us, hl with | [_, _], _ => rfl
  have h45 := allCons h44 (ent (G := Gk K) (nm := nm) (P := P) (w := w) (base := base) (id := 91) (ar := 1) (dv := []) (gok B bx (by decide) h44) F36 sc36 ch36 (vc_ended83 (fdE _) (show ("NoWord" : Str) ∈ exn by decide +kernel) rfl) nl36 b45 .nil (fun _ _ => .nil) (nmM (a := He.ga K "Ending") rfl (by decide +kernel) (by decide +kernel) rfl (He.cls_ok (fact X G c 59 (f := .cls "Ending") rfl)) (He.meth_ok (fact X G c 82 (f := .meth "Ending" "ended") rfl))))
  have b46 : Binds (Gk K).K fd37 ps37 [] := F37.bindsN fun _ _ _ _ _ _ us hl => match us, hl with | [_], _ => rfl
  have h46 := allCons h45 (ent (G := Gk K) (nm := nm) (P := P) (w := w) (base := base) (id := 30) (ar := 0) (dv := []) (gok B bx (by decide) h45) F37 sc37 ch37 (vc_ends13 (fdS _)) nl37 b46 .nil (fun _ _ => .nil) (nmM (a := He.ga K "Script") rfl (by decide +kernel) (by decide +kernel) rfl (He.cls_ok (fact X G c 52 (f := .cls "Script") rfl)) (He.meth_ok (fact X G c 83 (f := .meth "Script" "ends") rfl))))
  have b47 : Binds (Gk K).K fd38 ps38 [] := F38.bindsN fun _ _ _ _ _ _ us hl => match us, hl with | [_, _], _ => rfl
  have h47 := allCons h46 (ent (G := Gk K) (nm := nm) (P := P) (w := w) (base := base) (id := 32) (ar := 1) (dv := []) (gok B bx (by decide) h46) F38 sc38 ch38 (vc_number13 (fdS _) rfl rfl) nl38 b47 .nil (fun _ _ => .nil) (nmM (a := He.ga K "Script") rfl (by decide +kernel) (by decide +kernel) rfl (He.cls_ok (fact X G c 52 (f := .cls "Script") rfl)) (He.meth_ok (fact X G c 84 (f := .meth "Script" "number") rfl))))
  have b48 : Binds (Gk K).K fd39 ps39 [] := F39.bindsN fun _ _ _ _ _ _ us hl => match us, hl with | [_, _], _ => rfl
  have h48 := allCons h47 (ent (G := Gk K) (nm := nm) (P := P) (w := w) (base := base) (id := 94) (ar := 1) (dv := []) (gok B bx (by decide) h47) F39 sc39 ch39 (vc_numbers83 (fdE _) rfl) nl39 b48 .nil (fun _ _ => .nil) (nmM (a := He.ga K "Ending") rfl (by decide +kernel) (by decide +kernel) rfl (He.cls_ok (fact X G c 59 (f := .cls "Ending") rfl)) (He.meth_ok (fact X G c 85 (f := .meth "Ending" "numbers") rfl))))
  have b49 : Binds (Gk K).K fd40 ps40 [] := F40.bindsN fun _ _ _ _ _ _ us hl => match us, hl with | [_, _], _ => rfl
  have h49 := allCons h48 (ent (G := Gk K) (nm := nm) (P := P) (w := w) (base := base) (id := 93) (ar := 1) (dv := []) (gok B bx (by decide) h48) F40 sc40 ch40 (vc_unended83 (fdE _) rfl rfl rfl rfl rfl) nl40 b49 .nil (fun _ _ => .nil) (nmM (a := He.ga K "Ending") rfl (by decide +kernel) (by decide +kernel) rfl (He.cls_ok (fact X G c 59 (f := .cls "Ending") rfl)) (He.meth_ok (fact X G c 86 (f := .meth "Ending" "unended") rfl))))
  exact law_okL (G := Gk K) F41 sc41 ch41 (gok B bx (by decide) h49) (vc_law83 rfl rfl rfl rfl rfl rfl rfl rfl rfl ) (DM.lmAt_of (G := Gk K) X G (Gk_T ht) ht TB hf nl41 (by decide +kernel))
end
end DM.Ak83
set_option autoImplicit false
set_option Elab.async false
set_option linter.all false
set_option maxRecDepth 100000
set_option maxHeartbeats 0
open PySem PySem.W PySem.Calls PyProof.Rows
theorem PySem.Challenge.cw_blocksign_k83_whole_unended_holds : PySem.Challenge.rw_blocksign_k83_whole_unended.Holds := by
  refine DM.Ak83.pre ?_
  refine DM.walk_ofQT (l := PySem.Challenge.rw_blocksign_k83_whole_unended) (m := "law") (dm := HandSHeadRun.topDef (OpenLaw.row PySem.Challenge.rw_blocksign_k83_whole_unended).prog 43) (n := 63) (k := 105) (x := "_law_script_here") (CX := L2.CX0) rfl (by decide) (by kernel_rfl) ⟨rfl, by decide, by decide⟩ (by kernel_rfl) ?F (fun _ _ _ _ z => z)
  intro w mg f h Y G hmg0
  obtain ⟨K, KX, c⟩ := Y
  obtain ⟨c0, T0, ht, nT⟩ := DM.tabB_ok c.2
  have hmg : mg ("law" : PySem.Str) = some (.ref f) := by
    have e : (HandSHeadRun.topDef (OpenLaw.row PySem.Challenge.rw_blocksign_k83_whole_unended).prog 43).name = ("law" : PySem.Str) := by kernel_rfl
    rw [← e]
    exact hmg0
  obtain ⟨fd, hb, hF⟩ := DM.Ak83.facts (P := (PySem.Challenge.rw_blocksign_k83_whole_unended).prog) (w := w) KX G c.1 hmg ht
  exact ⟨K, fd, DM.spL (DM.Ak83.Gk K) 1 DM.sp_law83, c0, T0, KX, ht, nT, hb, fun H a ns hl hH hS => DM.law_spT (G := DM.Ak83.Gk K) (DM.Ak83.Gk_T ht) hH hS hl fun Q E hq => ⟨ns, rfl, hq []⟩, hF⟩
