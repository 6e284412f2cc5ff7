import PyProof.Rows.All
import HandS.Head0
import HandS.Head1
import HandS.Head2
import Wide.All
import OpenK.AllK
import Wide.FinOn
import PyProof.InstNe
import PyProof.ReprRoads
import HandS.Base
import HandS.Call
import HandS.List
import HandS.Comp
import HandS.Dict
import HandS.Iter
import HandS.Walk
import HandS.Text
import HandS.More
import HandS.Words
import HandS.WordsDict
import HandS.WordsList
import HandS.Defaults
import HandS.Property
import HandS.SlotsOwn
import HandS.OwnEq
import HandS.Lambda
import HandS.EndTab
import HandS.SetKeys
import HandS.DictComp
import HandS.DictEq
import HandS.ListItems
import HandS.NoneIn
import HandS.Wide
import HandS.WideBits
import HandS.IsInst
import HandS.Star
import HandS.Conv
import HandS.Steps
import HandS.Small
import HandS.Style
import HandS.Replace
import HandS.RaiseMore
import PyProof.SliceStr2
import PyProof.StrOps2
import PyProof.ListStr
import PyProof.TupleOfSeq
import PyProof.Rows.Range3
import KE.KDictList
import KE.KItemsList
import KE.KEqDict
import PyProof.Draws
import PyProof.EnumMake
import PyProof.StrLoop
import PyProof.SetRoads
import HandS.Set
import HandS.SetBool
import HandS.SortKw
import KE.SortKeyHeap
import KE.KDictSum
import HandS.Nested
import KE.KSuper
import KE.KSuperObj
import HandS.MakeKwOnly
import HandS.HeadWalk
import PySem.Challenge.RW_hymnplates_k44_whole_alike_cases_serve_a
set_option Elab.async false
set_option linter.all false
set_option maxRecDepth 100000
set_option maxHeartbeats 4000000
set_option maxHeartbeats 0
namespace Hy
open PySem PySem.Spec PyProof.Rows L2
abbrev prg : Program := PySem.Challenge.pw_hymnplates_k44_whole_alike_cases_serve_a
def top (i : Nat) : Stmt := PySem.Challenge.pw_hymnplates_k44_whole_alike_cases_serve_a.main.body.getD i (.Pass ⟨0, 0, 0, 0⟩)
def fnA : List (Str × Nat) := [("is_integer", 21), ("is_between", 22), ("is_list", 23), ("is_tuple_of", 24), ("is_sign", 25), ("is_row", 26), ("is_kind", 27), ("need_sign", 29), ("need_signs", 31)]
def fnB : List (Str × Nat) := [("number_of_sets", 34), ("set_of", 35), ("mask_of", 36), ("places_of", 37), ("set_order", 38), ("all_masks", 39), ("bearings_of", 41), ("wants_by_mask", 42), ("stock_of", 43), ("amounts_of", 44), ("slacks", 45), ("slacks_of", 46)]
def fnC : List (Str × Nat) := [("exact", 49), ("alike", 50), ("exact_of", 51), ("is_font_text", 55), ("are_turns", 56), ("kind_key", 67), ("ordered", 68), ("checked_counts", 69), ("meets", 72), ("least_worst", 75), ("greatest_worst", 76), ("hangs", 77), ("shortage", 78), ("base_of", 79), ("are_counts", 82)]
def fnD : List (Str × Nat) := [("_law_pen", 85), ("_law_draw", 86), ("_law_pick", 87), ("_law_shuffled", 88), ("_law_font", 89), ("_law_turns", 90), ("_law_made_font", 91), ("_law_shows", 92)]
def fnE : List (Str × Nat) := [ ("_law_kinds", 93), ("_law_stock", 94), ("_law_made_case", 95), ("_law_planned", 96), ("_law_shown", 97), ("_law_need", 98), ("_law_made_wants", 99), ("_law_sets", 100), ("_law_exchanged", 101), ("_law_filled", 102)]
def fnL : List (Str × Nat) := fnA ++ (fnB ++ (fnC ++ (fnD ++ fnE)))
end Hy
namespace Hy
open PySem PySem.Spec PyProof.Rows L2
abbrev Gt : Type := Addr → Option Obj
/-- an object to be kept: no table of code objects -/
def isTab : Option Obj → Bool
  | some ⟨.none, none, .fields vs, sl⟩ => vs.isEmpty && sl.isEmpty
  | _ => false
def keptO (o : Option Obj) : Option Obj := match isTab o with
  | true => none
  | false => o
def frg (g : Gt) (as : List Addr) : PySem.W.Frag := as.filterMap fun a => (keptO (g a)).map fun o => (a, o)
/-- where the name x of the dict at ns leads -/
def adr (g : Gt) (ns : Addr) (x : Str) : Option Addr := match PySem.W.nsIn (frg g [ns]) ns x with
  | some (some (.ref b)) => some b
  | _ => none
def ad (g : Gt) (ns : Addr) (x : Str) : Addr := (adr g ns x).getD 0
def nsA (g : Gt) (a : Addr) : Addr := match g a with
  | some ⟨_, _, .cls cd, _⟩ => cd.ns
  | _ => 0
def codeG (g : Gt) (cv : Value) (q : Str) : Bool := match cv with
  | .ref c => PySem.W.codeIn (frg g [c]) (.ref c) q
  | _ => false
abbrev FnV : Type := Option (Str × Str × Arguments × FuncBody × Scope × Addr × Addr)
def isNone : Value → Bool
  | .none => true
  | _ => false
/-- a def: k tells what is asked of its defaults and cells -/
def fnO (g : Gt) (q : Str) (k : Nat) (f : Addr) : FnV × Bool := match g f with
  | some ⟨.type t, _, .func fd, _⟩ => (some (fd.name, fd.qualname, fd.params, fd.body, fd.scope, fd.globals, fd.builtins), t == "function" && codeG g fd.code q && (match k with
    | 0 => fd.closure.isEmpty && isNone fd.defaults
    | 1 => fd.closure.isEmpty
    | _ => true))
  | _ => (none, false)
def fnX (g : Gt) (ns : Addr) (x q : Str) (k : Nat) : FnV × Bool := match adr g ns x with
  | some f => fnO g q k f
  | none => (none, false)
/-- a property's getter -/
def getr (g : Gt) (p : Addr) : Option Addr := match g p with
  | some ⟨.type t, _, .fields vs, _⟩ => (match t == "property" with
    | true => (match vs.toList with
      | .ref b :: _ => some b
      | _ => none)
    | false => none)
  | _ => none
def prX (g : Gt) (ns : Addr) (x q : Str) : FnV × Bool := match adr g ns x with
  | some p => (match getr g p with
    | some f => fnO g q 0 f
    | none => (none, false))
  | none => (none, false)
def valF (x q : Str) (st : Stmt) : FnV × Bool := (some (x, q, defArgs st, .stmts (defBody st), defScope st, mainGlobals, builtinsNs), true)
/-- what lies beside a def, a property: code, defaults, cells, a getter -/
def refA : Value → List Addr
  | .ref a => [a]
  | _ => []
def nearF (g : Gt) (f : Addr) : List Addr := match g f with
  | some ⟨_, _, .func fd, _⟩ => refA fd.code ++ (refA fd.defaults ++ (refA fd.kwdefaults ++ fd.closure.map (·.2)))
  | _ => []
def near (g : Gt) (ns : Addr) (x : Str) : List Addr := match adr g ns x with
  | some f => f :: (nearF g f ++ (match getr g f with
    | some b => b :: nearF g b
    | none => []))
  | none => []
def glN : List (Str × Nat) := fnL ++ ([("need_one_font", 32)] : List (Str × Nat))
structure Cas where
  cF : Addr
  cC : Addr
  cP : Addr
  cW : Addr
  nF : Addr
  nC : Addr
  nP : Addr
  nW : Addr
def caOf (g : Gt) : Cas := ⟨ad g mainGlobals "Font", ad g mainGlobals "Case", ad g mainGlobals "Pile", ad g mainGlobals "Wants", nsA g (ad g mainGlobals "Font"), nsA g (ad g mainGlobals "Case"), nsA g (ad g mainGlobals "Pile"), nsA g (ad g mainGlobals "Wants")⟩
def plc1 (c : Cas) : List (Addr × Str) := glN.map (fun p => (mainGlobals, p.1)) ++ ([(mainGlobals, "subset_sums"), (mainGlobals, "copies"), (mainGlobals, "law"), (c.nF, "__init__"), (c.nF, "__eq__"), (c.nF, "__len__"), (c.nF, "signs"), (c.nF, "ascending"), (c.nF, "normal"), (c.nF, "seen"),
  (c.nP, "__init__"), (c.nP, "font"), (c.nP, "plates"), (c.nP, "bearing"), (c.nC, "__init__"), (c.nW, "__init__"), (c.nW, "__getitem__"), (c.nW, "font")] : List (Addr × Str))
def adrs (g : Gt) (c : Cas) : List Addr := mainGlobals :: c.cF :: c.nF :: c.cC :: c.nC :: c.cP :: c.nP :: c.cW :: c.nW :: cStatics :: (plc1 c).flatMap fun p => near g p.1 p.2
def kOf (g : Gt) (c : Cas) : PySem.W.Frag := frg g (adrs g c)
def eqOV (a b : Option (Option Value)) : Bool := decide (a = b)
def clsB (K : PySem.W.Frag) (C : Addr) : Bool := PySem.W.plainGet K C Str.empty && (PySem.W.hasDictIn K C && (PySem.W.plainOver K C && eqOV (PySem.W.findIn K (.ref C) "__setattr__") (some (some (.builtin "object.__setattr__")))))
def noB (K : PySem.W.Frag) (C : Addr) (f : Str) : Bool := eqOV (PySem.W.findIn K (.ref C) f) (some none)
/-- what is found along the classes stands in the dict at ns -/
def fndB (g : Gt) (K : PySem.W.Frag) (C ns : Addr) (m : Str) : Bool := match PySem.W.findIn K (.ref C) m with
  | some (some (.ref f)) => decide (adr g ns m = some f)
  | _ => false
def intB (K : PySem.W.Frag) (x : Str) (i : Int) : Bool := match PySem.W.nsIn K mainGlobals x with
  | some (some (.int j _)) => decide (j = i)
  | _ => false
def strB (K : PySem.W.Frag) (x z : Str) : Bool := match PySem.W.nsIn K mainGlobals x with
  | some (some (.str y _)) => decide (y = z)
  | _ => false
def freeL : List Str := ["len", "all", "any", "min", "max", "sum", "list", "tuple", "dict", "int", "str", "bool", "repr", "abs", "sorted", "range", "enumerate", "zip", "isinstance", "super"]
def fctL (g : Gt) (c : Cas) : List Bool := [
  (adr g mainGlobals "Font").isSome,
  (adr g mainGlobals "Case").isSome,
  (adr g mainGlobals "Wants").isSome,
  freeL.all (fun x => eqOV (PySem.W.nsIn (kOf g c) mainGlobals x) (some none)),
  strB (kOf g c) "BLANK" "-",
  intB (kOf g c) "MAX_COUNT_cases" 1000000000000000000000000000000,
  intB (kOf g c) "MOST_BEARING" 1000000000000000000000000000000000000000000000000000000000000,
  strB (kOf g c) "SIGNS" "0123456789abcdefghijklmnopqrstuvwxyz",
  intB (kOf g c) "LEAST_SIGNS" 2]
/-- the classes' facts -/
def clsL (g : Gt) (c : Cas) : List Bool := [
  clsB (kOf g c) c.cF,
  clsB (kOf g c) c.cC,
  clsB (kOf g c) c.cW,
  noB (kOf g c) c.cF "word",
  noB (kOf g c) c.cF "ranks",
  noB (kOf g c) c.cF "heads",
  noB (kOf g c) c.cC "own_font",
  noB (kOf g c) c.cC "stock",
  noB (kOf g c) c.cW "own_font",
  noB (kOf g c) c.cW "numbers",
  fndB g (kOf g c) c.cF c.nF "__init__",
  fndB g (kOf g c) c.cF c.nF "__eq__",
  fndB g (kOf g c) c.cF c.nF "__len__",
  fndB g (kOf g c) c.cF c.nF "signs",
  fndB g (kOf g c) c.cF c.nF "ascending",
  fndB g (kOf g c) c.cF c.nF "normal",
  fndB g (kOf g c) c.cF c.nF "seen",
  fndB g (kOf g c) c.cC c.nP "font",
  fndB g (kOf g c) c.cC c.nP "plates",
  fndB g (kOf g c) c.cC c.nP "bearing",
  fndB g (kOf g c) c.cC c.nC "__init__",
  fndB g (kOf g c) c.cW c.nW "__init__",
  fndB g (kOf g c) c.cW c.nW "__getitem__",
  fndB g (kOf g c) c.cW c.nW "font",
  eqOV (PySem.W.findIn (kOf g c) (.ref c.cF) "__ne__") (some (some (.builtin "object.__ne__"))),
  decide (PySem.W.mroIn (kOf g c) c.cF (.type "object") = some true),
  PySem.W.noSeq (kOf g c) c.cW,
  PySem.W.makesIn (kOf g c) c.cF,
  PySem.W.makesIn (kOf g c) c.cC,
  PySem.W.makesIn (kOf g c) c.cW,
  PySem.W.keepIn (kOf g c) (.ref c.cF),
  PySem.W.keepIn (kOf g c) (.ref c.cC),
  PySem.W.keepIn (kOf g c) (.ref c.cW),
  eqOV (PySem.W.findIn (kOf g c) (.ref c.cF) "__class__") (some (some (.builtin "object.__class__"))),
  decide (PySem.W.mroIn (kOf g c) c.cC (.ref c.cC) = some true),
  (match PySem.W.ks_superIn (kOf g c) c.cC c.cC "__init__" with
    | some (some (.ref f)) => decide (adr g c.nP "__init__" = some f)
    | _ => false),
  eqOV (PySem.W.nsIn (kOf g c) cStatics "thirdparty.any") (some none),
  (match PySem.W.findIn (kOf g c) (.ref c.cF) "MAX_SIGNS" with
    | some (some (.int j _)) => decide (j = 10)
    | _ => false)]
/-- the code object's address, the table's -/
def codA (g : Gt) (x : Str) : Option Addr := match adr g mainGlobals x with
  | some f => (match g f with
    | some ⟨_, _, .func fd, _⟩ => (match fd.code with
      | .ref c => some c
      | _ => none)
    | _ => none)
  | none => none
def tabA (g : Gt) (cd : Addr) : Option Addr := match g cd with
  | some ⟨_, _, .fields vs, _⟩ => (match (vs[11]? : Option Value) with
    | some (.ref P) => some P
    | _ => none)
  | _ => none
def tabX (g : Gt) (x : Str) : Bool := match codA g x with
  | some cd => (match tabA g cd with
    | some P => isTab (g P) && PySem.W.codeHdIn (frg g [cd]) cd P
    | none => false)
  | none => false
/-- what the special defs have besides -/
def spcL (g : Gt) (c : Cas) : List Bool := [
  !decide ((codA g "ordered").bind (tabA g) = (codA g "_law_sets").bind (tabA g)),
  tabX g "ordered",
  tabX g "_law_sets",
  (match adr g mainGlobals "subset_sums" with
  | some f => (match g f with
    | some ⟨_, _, .func fd, _⟩ => isNone fd.defaults && (match fd.kwdefaults with
      | .ref D => (match PySem.W.nsIn (frg g [D]) D "sign" with
        | some (some (.int j _)) => decide (j = 1)
        | _ => false)
      | _ => false)
    | _ => false)
  | none => false),
  (match adr g mainGlobals "copies" with
  | some f => (match g f with
    | some ⟨_, _, .func fd, _⟩ => (match fd.defaults with
      | .ref T => (match keptO (g T) with
        | some ⟨_, _, .seq its _, _⟩ => (match its.toList with
          | [.none] => true
          | _ => false)
        | _ => false)
      | _ => false)
    | _ => false)
  | none => false),
  (match adr g c.nF "__init__" with
  | some f => (match g f with
    | some ⟨_, _, .func fd, _⟩ => (match fd.defaults with
      | .ref T => (match keptO (g T) with
        | some ⟨_, _, .seq its _, _⟩ => (match its.toList with
          | [.ref _] => true
          | _ => false)
        | _ => false)
      | _ => false)
    | _ => false)
  | none => false),
  match adr g c.nC "__init__" with
  | some f => (match g f with
    | some ⟨_, _, .func fd, _⟩ => (match fd.defaults with
      | .ref T => (match keptO (g T) with
        | some ⟨_, _, .seq its _, _⟩ => (match its.toList with
          | [_] => true
          | _ => false)
        | _ => false)
      | _ => false) && ((match fd.closure with
      | [(z, cc)] => z == "__class__" && (match keptO (g cc) with
        | some ⟨_, _, .cell (some (.ref D)), _⟩ => decide (D = c.cC)
        | _ => false)
      | _ => false) && (match fd.code with
      | .ref cd => (match keptO (g cd) with
        | some ⟨_, _, .fields vs, _⟩ => (match (vs[2]? : Option Value) with
          | some (.str file _) => prg.main.file == file
          | _ => false)
        | _ => false)
      | _ => false))
    | _ => false)
  | none => false]
def fnLs (g : Gt) (c : Cas) : List (FnV × Bool) := glN.map (fun p => fnX g mainGlobals p.1 p.1 0) ++ [fnX g mainGlobals "subset_sums" "subset_sums" 1, fnX g mainGlobals "copies" "copies" 1, fnX g mainGlobals "law" "law" 0, fnX g c.nF "__init__" "Font.__init__" 1, fnX g c.nF "__eq__" "Font.__eq__" 0, fnX g c.nF "__len__" "Font.__len__" 0,
  prX g c.nF "signs" "Font.signs", fnX g c.nF "ascending" "Font.ascending" 0, fnX g c.nF "normal" "Font.normal" 0, fnX g c.nF "seen" "Font.seen" 0, fnX g c.nP "__init__" "Pile.__init__" 0, prX g c.nP "font" "Pile.font", prX g c.nP "plates" "Pile.plates", fnX g c.nP "bearing" "Pile.bearing" 0,
  fnX g c.nC "__init__" "Case.__init__" 2, fnX g c.nW "__init__" "Wants.__init__" 0, fnX g c.nW "__getitem__" "Wants.__getitem__" 0, prX g c.nW "font" "Wants.font"]
def valLs : List (FnV × Bool) := glN.map (fun p => valF p.1 p.1 (top p.2)) ++ [valF "subset_sums" "subset_sums" (top 40), valF "copies" "copies" (top 80), valF "law" "law" (top 103), valF "__init__" "Font.__init__" (inClass (top 57) 1), valF "__eq__" "Font.__eq__" (inClass (top 57) 4), valF "__len__" "Font.__len__" (inClass (top 57) 5),
  valF "signs" "Font.signs" (inClass (top 57) 7), valF "ascending" "Font.ascending" (inClass (top 57) 9), valF "normal" "Font.normal" (inClass (top 57) 10), valF "seen" "Font.seen" (inClass (top 57) 11), valF "__init__" "Pile.__init__" (inClass (top 70) 0), valF "font" "Pile.font" (inClass (top 70) 1), valF "plates" "Pile.plates" (inClass (top 70) 2), valF "bearing" "Pile.bearing" (inClass (top 70) 5),
  valF "__init__" "Case.__init__" (inClass (top 71) 1), valF "__init__" "Wants.__init__" (inClass (top 83) 0), valF "__getitem__" "Wants.__getitem__" (inClass (top 83) 6), valF "font" "Wants.font" (inClass (top 83) 9)]
/-- the classes' places, each made a number first -/
def withC {α : Type} (g : Gt) (k : Cas → α) : α :=
  HandSHeadRun.frNat (ad g mainGlobals "Font") fun cF => HandSHeadRun.frNat (ad g mainGlobals "Case") fun cC => HandSHeadRun.frNat (ad g mainGlobals "Pile") fun cP => HandSHeadRun.frNat (ad g mainGlobals "Wants") fun cW =>
    HandSHeadRun.frNat (nsA g cF) fun nF => HandSHeadRun.frNat (nsA g cC) fun nC => HandSHeadRun.frNat (nsA g cP) fun nP => HandSHeadRun.frNat (nsA g cW) fun nW => k ⟨cF, cC, cP, cW, nF, nC, nP, nW⟩
theorem withC_eq {α : Type} (g : Gt) (k : Cas → α) : withC g k = k (caOf g) := by
  unfold withC
  simp only [HandSHeadRun.frNat_eq]
  rfl
/-- all that is looked at -/
def obsH (g : Gt) : List (FnV × Bool) × Bool := (fnLs g (caOf g), (clsL g (caOf g) ++ (fctL g (caOf g) ++ spcL g (caOf g))).all id)
def hkH : PySem.W.Hook where
  α := List (FnV × Bool) × Bool
  obs := fun s => obsH s.heap.get?
  val := fun _ => (valLs, true)
  says := fun _ h => ∃ h0 : Heap, (∀ b o, h0.get? b = some o → h.get? b = some o) ∧ obsH h0.get? = (valLs, true)
  of := fun _ s e => ⟨s.heap, fun _ _ x => x, e⟩
  keeps := fun _ _ _ ⟨h0, e, x⟩ k => ⟨h0, fun b o y => k b o (e b o y), x⟩
def obT (s : PySem.W.SharedT) : List (FnV × Bool) × Bool := obsH (HandSHeadRun.getT s)
theorem obT_eq (s : PySem.W.SharedT) : obT s = hkH.obs s.abs := congrArg obsH (funext (HandSHeadRun.getT_eq s))
end Hy
namespace Hy
open PySem PySem.Spec PyProof.Rows L2
abbrev R : PySem.W.OpenRow := PySem.W.OpenLaw.row PySem.Challenge.rw_hymnplates_k44_whole_alike_cases_serve_a
noncomputable def endE (w : World) (os : OsState) : Option PySem.W.SharedT := HandSHeadRun.endF (HandSHeadRun.stepQ (HandSHeadRun.denQ HandSHeadRun.tabQ) R.prog w) 9500 R.prog w os
theorem run_f (w : World) (os : OsState) : (endE w os).map (fun s => withC (HandSHeadRun.getT s) fun c => (fnLs (HandSHeadRun.getT s) c, (clsL (HandSHeadRun.getT s) c ++ (fctL (HandSHeadRun.getT s) c ++ spcL (HandSHeadRun.getT s) c)).all id)) = some (valLs, true) := by
  kernel_rfl
end Hy
namespace Hy
open PySem PySem.Spec PyProof.Rows L2
open PySem.W PySem.Calls in
theorem run_l (w : World) (os : OsState) : (endE w os).map (fun s => HandSHeadRun.looksF R.prog (boot_heap w.params) s.abs) = some true := by
  kernel_rfl
end Hy
namespace Hy
open PySem PySem.Spec PyProof.Rows L2
def nm0 : List Str := ["_wall", "InvalidFont", "InvalidTurns", "InvalidKind", "InvalidPlates", "InvalidSigns", "InvalidWants", "InvalidRow", "InvalidNumber", "InvalidBearings", "InvalidText", "OtherFont", "UnknownSign", "Lacking", "NoBearing", "TooMany", "TooFew", "BLANK", "MAX_COUNT_checks", "is_integer", "is_between", "is_list", "is_tuple_of", "is_sign", "is_row", "is_kind", "need_number", "need_sign", "need_kind", "need_signs"]
def nm1 : List Str := ["need_one_font", "number_of_sets", "set_of", "mask_of", "places_of", "set_order", "all_masks", "subset_sums", "bearings_of", "wants_by_mask", "stock_of", "amounts_of", "slacks", "slacks_of", "MOST_BEARING", "exact", "alike", "exact_of", "SIGNS", "LEAST_SIGNS", "is_font_text", "are_turns", "Font", "DIGITS", "MAX_DIGITS", "number_in", "format_case", "Reader", "read_case", "MAX_COUNT_cases"]
def nm2 : List Str := ["kind_key", "ordered", "checked_counts", "Pile", "Case", "meets", "need_few", "least_worst", "greatest_worst", "hangs", "shortage", "base_of", "copies", "are_counts", "Wants", "_law_pen", "_law_draw", "_law_pick", "_law_shuffled", "_law_font", "_law_turns", "_law_made_font", "_law_shows", "_law_kinds", "_law_stock", "_law_made_case", "_law_planned", "_law_shown", "_law_need", "_law_made_wants"]
def nm3 : List Str := ["_law_sets", "_law_exchanged", "_law_filled"]
def names : List Str := nm0 ++ nm1 ++ nm2 ++ nm3
theorem run_s (w : World) (os : OsState) : (endE w os).map (fun s => HandSHeadRun.seenQ (PySem.W.view R.prog [103]) names (importedModules R.prog.main.body) (fun s => PySem.W.xlAt (PySem.W.view R.prog [103]) [] s && PySem.W.recOk R.toRowW.records s) s.abs) = some (PySem.W.openGood (PySem.W.view R.prog [103]) names) := by
  kernel_rfl
end Hy
namespace Hy
open PySem PySem.W PySem.Calls PyProof.Rows
abbrev vw : Program := view R.prog [103]
abbrev dLw : DefRec := HandSHeadRun.topDef R.prog 103
theorem hd1 : opening R.prog = plainProg R.prog.main.scope.names := by kernel_rfl
theorem hd2 (s : Shared) : fenceModules? R.prog s = some s := by kernel_rfl
theorem hd3 : defOf vw R.name = some (dLw, []) := by kernel_rfl
theorem hd4 : R.prog.theDef R.name = some (dLw.params, dLw.body, dLw.scope) := by kernel_rfl
theorem hd5 : kwWritten? dLw.params.kwonlyargs dLw.params.kw_defaults = some [] := by kernel_rfl
theorem hd6 : (!R.writes || R.records.isEmpty) = true := by rfl
theorem hd8 : (chainsOk vw && opensWell R.prog && (frees R.toRowW && R.within.isEmpty)) = true := by decide +kernel
theorem hd9 : R.prog.bare := ⟨rfl, rfl, rfl, rfl, rfl, by decide +kernel⟩
theorem hd10 : R.toRowW.promised := by w_witness2
theorem by_row (h : R.wellSaid = true → R.Holds) : PySem.Challenge.rw_hymnplates_k44_whole_alike_cases_serve_a.Holds := by
  w_on; o_law
  exact h (by assumption)
end Hy
set_option maxHeartbeats 4000000
namespace Hy
open PySem PySem.Spec PyProof.Rows L2

/-- a frame: whether the pen may change; the tables of code objects that the lambdas use -/
structure Fb where
  pen : Bool
  T : List (Addr × Str)
/-- what a frame does not speak of: tables of code objects; with b.pen the pen (its first key is "cells") -/
def loose (b : Fb) : HO → Bool
  | .tbl _ => true
  | .dK ((.inr z, _) :: _) => b.pen && (z == ("cells" : Str))
  | _ => false
def solid : HO → Bool
  | .ext _ => false
  | .tbl _ => false
  | _ => true
structure Fm (b : Fb) (H H' : Hp) : Prop where
  kp : ∀ a o, H a = some o → loose b o = false → H' a = some o
  tb : LamX.Tabs b.T H → LamX.Tabs b.T H'
/-- p is free, or what stands there is not spoken of -/
def Nw (b : Fb) (H : Hp) (p : Addr) : Prop := ∀ o, H p = some o → loose b o = true
theorem Nw.of {b : Fb} {H : Hp} {p : Addr} (h : H p = none) : Nw b H p := fun o e => by
  rw [h] at e
  cases e
theorem Nw.ne {b : Fb} {H : Hp} {p a : Addr} {o : HO} (n : Nw b H p) (h : H a = some o) (l : loose b o = false) : a ≠ p := fun e => by
  subst e
  have := n o h
  rw [l] at this
  cases this
theorem tabs_upd {T : List (Addr × Str)} {H : Hp} {p : Addr} {o : HO} (t : LamX.Tabs T H) (h : ∀ u, H p = some u → solid u = true) : LamX.Tabs T (upd H p o) := by
  intro q hq
  obtain ⟨ps, h1, h2, h3⟩ := t q hq
  refine ⟨ps, ?_, h2, fun pos cv hc => ?_⟩
  · rw [upd_ne]
    · exact h1
    · intro e
      subst e
      cases h _ h1
  · obtain ⟨c, e1, e2⟩ := h3 pos cv hc
    refine ⟨c, e1, ?_⟩
    rw [upd_ne]
    · exact e2
    · intro e
      subst e
      cases h _ e2
namespace Fm
variable {b : Fb} {H H0 H1 H2 : Hp} {p : Addr} {o u : HO}
theorem refl (H : Hp) : Fm b H H := ⟨fun _ _ h _ => h, fun h => h⟩
theorem trans (e : Fm b H H1) (f : Fm b H1 H2) : Fm b H H2 := ⟨fun a o h l => f.kp a o (e.kp a o h l) l, fun h => f.tb (e.tb h)⟩
theorem nw' (e : Fm b H H1) (n : Nw b H1 p) : Nw b H p := fun o h => by
  cases l : loose b o with
  | true => rfl
  | false =>
    have := n o (e.kp p o h l)
    rw [l] at this
    cases this
theorem nw (e : Fm b H H1) (n : H1 p = none) : Nw b H p := e.nw' (Nw.of n)
theorem weak {T : List (Addr × Str)} (e : Fm ⟨false, T⟩ H H1) : Fm ⟨true, T⟩ H H1 := by
  refine ⟨fun a o h l => e.kp a o h ?_, e.tb⟩
  cases o with
  | tbl ps => cases l
  | dK kvs =>
    cases kvs with
    | nil => rfl
    | cons q r =>
      obtain ⟨k, v⟩ := q
      cases k with
      | inl i => rfl
      | inr z => rfl
  | _ => rfl
theorem new (h : H p = none) : Fm b H (upd H p o) := by
  refine ⟨fun a o ha _ => ?_, fun t => tabs_upd t fun u hu => ?_⟩
  · rw [upd_ne (ne_of_none ha h)]
    exact ha
  · rw [h] at hu
    cases hu
/-- an object that H0 does not know changes -/
theorem edit (e : Fm b H0 H) (h0 : Nw b H0 p) (h : H p = some u) (hs : solid u = true) : Fm b H0 (upd H p o) := by
  refine ⟨fun a o ha l => ?_, fun t => tabs_upd (e.tb t) fun u' hu => ?_⟩
  · rw [upd_ne (h0.ne ha l)]
    exact e.kp a o ha l
  · rw [h] at hu
    cases hu
    exact hs
/-- an object that a frame does not speak of changes -/
theorem chg (h : H p = some u) (hl : loose b u = true) (hs : solid u = true) : Fm b H (upd H p o) :=
  edit (refl H) (fun o' ho => by rw [h] at ho; cases ho; exact hl) h hs
/-- a dict locked while a loop walks it -/
theorem lock {od : Obj} (h : H p = some u) (hs : solid u = true) (e : Fm b (upd H p (.frz od u)) H1) : H1 p = some (.frz od u) ∧ Fm b H (upd H1 p u) := by
  have hp := e.kp p _ upd_same rfl
  refine ⟨hp, fun a o ha l => ?_, fun t => tabs_upd (e.tb (tabs_upd t fun u' hu => ?_)) fun u' hu => ?_⟩
  · by_cases q : a = p
    · subst q
      rw [h] at ha
      cases ha
      exact upd_same
    · rw [upd_ne q]
      exact e.kp a o ((upd_ne q).trans ha) l
  · rw [h] at hu
    cases hu
    exact hs
  · rw [hp] at hu
    cases hu
    rfl
theorem lockIn {od : Obj} (h : H p = some u) (hl : loose b u = false) {a : Addr} {o : HO} (ha : H a = some o) (hap : a ≠ p) : upd H p (.frz od u) a = some o := (upd_ne hap).trans ha
theorem seqL {K : PySem.W.Frag} {a : Addr} {xs : List V} (e : Fm b H H1) (h : SqL K H a xs) : SqL K H1 a xs := by
  rcases h with (h | ⟨o, h⟩) | h
  · exact .inl (.inl (e.kp _ _ h rfl))
  · exact .inl (.inr ⟨o, e.kp _ _ h rfl⟩)
  · exact .inr h
theorem seqT {K : PySem.W.Frag} {a : Addr} {xs : List V} (e : Fm b H H1) (h : SqT K H a xs) : SqT K H1 a xs := by
  rcases h with (h | ⟨o, h⟩) | h
  · exact .inl (.inl (e.kp _ _ h rfl))
  · exact .inl (.inr ⟨o, e.kp _ _ h rfl⟩)
  · exact .inr h
theorem lst {a : Addr} {xs : List V} (e : Fm b H H1) (h : H a = some (.lst xs)) : H1 a = some (.lst xs) := e.kp _ _ h rfl
theorem tup {a : Addr} {xs : List V} (e : Fm b H H1) (h : H a = some (.tup xs)) : H1 a = some (.tup xs) := e.kp _ _ h rfl
theorem ins {a C dx : Addr} {fs : List (Str × V)} (e : Fm b H H1) (h : H a = some (.ins C dx fs)) : H1 a = some (.ins C dx fs) := e.kp _ _ h rfl
theorem of_ext (e : ∀ a o, H a = some o → H1 a = some o) : Fm b H H1 := ⟨fun a o h _ => e a o h, fun t p hp => LamX.TabS.ext (t p hp) e⟩
theorem of_extN (e : LamX.ExtN H H1) (t : LamX.Tabs b.T H1) : Fm b H H1 := ⟨fun a o h l => e a o h fun ps z => (by subst z; cases l), fun _ => t⟩
end Fm
/-- a dict whose pairs are no pen's -/
def dOk (kvs : List (Key × V)) : Prop := ∀ v, kvs.head? ≠ some (.inr ("cells" : Str), v)
theorem loose_dK {b : Fb} {kvs : List (Key × V)} (h : dOk kvs) : loose b (.dK kvs) = false := by
  cases kvs with
  | nil => rfl
  | cons q r =>
    obtain ⟨k, v⟩ := q
    cases k with
    | inl i => rfl
    | inr z =>
      show (b.pen && (z == ("cells" : Str))) = false
      by_cases e : z = ("cells" : Str)
      · exact absurd (by rw [e]; rfl) (h v)
      · rw [beq_eq_false_iff_ne.mpr e, Bool.and_false]
theorem Fm.dct {b : Fb} {H H1 : Hp} {a : Addr} {kvs : List (Key × V)} (e : Fm b H H1) (h : H a = some (.dK kvs)) (k : dOk kvs) : H1 a = some (.dK kvs) := e.kp _ _ h (loose_dK k)

section
variable (P : Program) (w : World) (K : PySem.W.Frag) (mg : Str → Option Value) (base : Heap)
/-- the module's name x holds a def that keeps the promise sp, at level k -/
structure Df (x : Str) (k : Nat) (sp : Sp) : Prop where
  ex : ∃ f, FnR P w K mg base CX0 k f sp ∧ mg x = some (.ref f) ∧ PySem.W.keepIn K (.ref f) = true
end
def tDf (sp : Sp) (t : TA) : TE := fun σ H Q => t σ H fun vs H1 => sp vs H1 Q E0
section
variable {X : Cx}
theorem pe_df {x : Str} {k : Nat} {sp : Sp} {e : Expr} {es : List Expr} {t : TA} {p pos : Pos} (F : Df X.prog X.w X.K X.mg X.base x k sp) (hr : Room k X.A) (hg : Gl X x) (ha : PA X (e :: es) t) (hdb : (x == ("__debug__" : Str)) = false := by decide)
    (he : starEach (e :: es) X.env = (false, eval e X.env) :: starEach es X.env := by rfl) (hpl : (backTo pos (starEach es X.env)).any (·.1) = false := by rfl) :
    PE X (.Call (.Name x p) (e :: es) [] pos) (tDf sp t) := by
  obtain ⟨f, G, hm, hk⟩ := F.ex
  refine ⟨fun pins s σ H Q I h => ?_⟩
  refine wpAny_Call_Name_kw (ld_glob I hg hm ?_ hdb)
  refine PySem.W.callWith_K (h₀ := X.base) I.ok.mod.kin hk (thn (ha.run pos pins s σ H _ I h) fun us s1 ⟨vs, H1, I1, r, q⟩ => ⟨I1.kIn, ?_⟩) he hpl
  exact wpAny_call (run_fnR G hr pass0 I1 r q)
end
/-- a def of the text behind the module's name x -/
structure FnT (K : PySem.W.Frag) (mg : Str → Option Value) (x : Str) (st : Stmt) : Prop where
  ex : ∃ f fd, Fun K x x st f fd ∧ mg x = some (.ref f)
section
variable {P : Program} {w : World} {K : PySem.W.Frag} {mg : Str → Option Value} {base : Heap}
/-- the rule for a def without defaults -/
theorem FnT.df {x : Str} {st : Stmt} {N ps : List Str} {k : Nat} {sp : Sp} (F : FnT K mg x st) (S : FnScope N ps (defScope st)) (len : ∀ vs H Q E, sp vs H Q E → vs.length = ps.length)
    (hb : ∀ (kV doc pm : Value) (an : Option Addr) (cdv ct : Value) (us : List Value), us.length = ps.length → bindArgs (PySem.W.fnOf x x (defArgs st) (defBody st) (defScope st) .none kV doc pm an cdv ct) ⟨us, []⟩ = pure (ps.zip us))
    (hbody : ∀ (f : Addr) (cdv : Value) (A : Around) (outer : List Env) (s : Shared) (H : Hp) (vs : List V) (Q : VK) (E : XK), Room k (A.deeper (envOfC x (defScope st) s.heap.objs.size f cdv)) → sp vs H Q E →
      ∃ t, PSs (cxOf CX0 P w K mg base N x (defScope st) f cdv A outer s H E).nox (defBody st) t ∧ t { nx := fun _ H' => Q .non H', rt := Q } (start N vs) H) : Df P w K mg base x (k + 1) sp := by
  obtain ⟨f, fd, G, hm⟩ := F.ex
  refine ⟨f, ?_, hm, G.kp⟩
  have R := FnOk.raw (dvs := []) (ds := []) (G.ok (P := P) (w := w) (mg := mg) (base := base) (sp := sp) S len fun cdv A outer s H vs Q E hr h => hbody f cdv A outer s H vs Q E hr h) (G.binds hb) .nil
  exact R.imp fun vs H Q E h => by
    rw [List.append_nil]
    exact h
theorem Df.mono {x : Str} {j k : Nat} {sp : Sp} (F : Df P w K mg base x j sp) (h : j ≤ k) : Df P w K mg base x k sp := by
  obtain ⟨f, G, hm, hk⟩ := F.ex
  exact ⟨f, G.mono h, hm, hk⟩
theorem Df.imp {x : Str} {k : Nat} {sp sp' : Sp} (F : Df P w K mg base x k sp) (h : ∀ vs H Q E, sp' vs H Q E → sp vs H Q E) : Df P w K mg base x k sp' := by
  obtain ⟨f, G, hm, hk⟩ := F.ex
  exact ⟨f, G.imp h, hm, hk⟩
end

section
variable {σ : L2.St} {H : Hp} {Q : VK} {D : Ends} {i j : Nat} {v : V} {te ta tb tc : TE} {t u : TT} {tl tr : TA} {r : R2} {K : PySem.W.Frag} {g : TG} {ts us : TS}
theorem r_var (h : σ[i]? = some (some v)) (q : Q v H) : tVar i σ H Q := ⟨v, h, q⟩
theorem r_c (q : Q v H) : tC v σ H Q := q
theorem r_op (h : ta σ H fun x H1 => tb σ H1 fun y H2 => r x y H2 Q) : tOp r ta tb σ H Q := h
theorem r_un {r : V → Hp → VK → Prop} (h : ta σ H fun x H1 => r x H1 Q) : tUn r ta σ H Q := h
theorem r_nil {Q : List V → Hp → Prop} (q : Q [] H) : tNil σ H Q := q
theorem r_cons {Q : List V → Hp → Prop} (h : ta σ H fun x H1 => tr σ H1 fun xs H2 => Q (x :: xs) H2) : tCons ta tr σ H Q := h
theorem r_df {sp : Sp} (h : tl σ H fun vs H1 => sp vs H1 Q E0) : tDf sp tl σ H Q := h
theorem r_cb {r : List V → Hp → VK → Prop} (h : tl σ H fun vs H1 => r vs H1 Q) : tCB r tl σ H Q := h
theorem r_seq (h : ts { D with nx := us D } σ H) : tSeq ts us D σ H := h
theorem r_asg (h : te σ H fun x H1 => g x σ H1 D.nx) : tAsg te g D σ H := h
theorem r_gname {Q : L2.St → Hp → Prop} (q : Q (σ.set i (some v)) H) : gName i v σ H Q := q
theorem r_ret (h : te σ H D.rt) : tRet te D σ H := h
theorem r_drop (h : te σ H fun _ H1 => D.nx σ H1) : tDrop te D σ H := h
theorem r_next (h : D.nx σ H) : tNext D σ H := h
theorem r_cont (h : D.ct σ H) : tCont D σ H := h
theorem r_break (h : D.bk σ H) : tBreak D σ H := h
theorem r_ifS (h : t σ H fun b H1 => if b = true then ts D σ H1 else us D σ H1) : tIfS t ts us D σ H := h
theorem r_ifE (h : t σ H fun b H1 => if b = true then ta σ H1 Q else tb σ H1 Q) : tIf t ta tb σ H Q := h
theorem r_test {Q : Bool → Hp → Prop} (h : te σ H fun x H1 => ∃ k, x = .bl k ∧ Q k H1) : tTest te σ H Q := h
theorem r_B {Q : Bool → Hp → Prop} (h : te σ H fun x H1 => ∃ k, x = .bl k ∧ Q k H1) : tB te σ H Q := h
theorem r_bl {c : Bool} {R : Bool → Prop} (q : R c) : ∃ k, V.bl c = .bl k ∧ R k := ⟨c, rfl, q⟩
theorem iteNT {A B : Prop} (h : B) : if (!true) = true then A else B := iteF h
theorem iteNF {A B : Prop} (h : A) : if (!false) = true then A else B := iteT h
theorem r_tand {Q : Bool → Hp → Prop} (h : t σ H fun c H1 => if c = true then u σ H1 Q else Q false H1) : tAnd t u σ H Q := h
theorem r_tor {Q : Bool → Hp → Prop} (h : t σ H fun c H1 => if c = true then Q true H1 else u σ H1 Q) : tOr t u σ H Q := h
theorem r_tnot {Q : Bool → Hp → Prop} (h : t σ H fun c H1 => Q (!c) H1) : tNot t σ H Q := h
theorem r_andV (h : ta σ H fun x H1 => ∃ c, x = .bl c ∧ if c = true then tb σ H1 Q else Q (.bl false) H1) : tAndV ta tb σ H Q := h
theorem r_orV (h : ta σ H fun x H1 => ∃ c, x = .bl c ∧ if c = true then Q (.bl true) H1 else tb σ H1 Q) : tOrV ta tb σ H Q := h
theorem r_notV (h : ta σ H fun x H1 => ∃ c, x = .bl c ∧ Q (.bl (!c)) H1) : tNotV ta σ H Q := h
theorem r_blif {c : Bool} {A B : Prop} (h : if c = true then A else B) : ∃ k, V.bl c = .bl k ∧ if k = true then A else B := ⟨c, rfl, h⟩
theorem r_chain {r r' : R2} (h : ta σ H fun x H1 => tb σ H1 fun y H2 => r x y H2 fun z H3 => ∃ k, z = .bl k ∧ (if k = true then tc σ H3 fun w' H4 => r' y w' H4 Q else Q (.bl false) H3)) : tChain r r' ta tb tc σ H Q := h
theorem r_I0 {gg : Int → Int → V} {x y : Int} (q : Q (gg x y) H) : rI0 gg (.int x) (.int y) H Q := ⟨x, y, rfl, rfl, q⟩
theorem r_I {C : Int → Int → Prop} {gg : Int → Int → V} {x y : Int} (c : C x y) (q : Q (gg x y) H) : rI C gg (.int x) (.int y) H Q := ⟨x, y, rfl, rfl, c, q⟩
theorem r_U {gg : Int → V} {x : Int} (q : Q (gg x) H) : rU gg (.int x) H Q := ⟨x, rfl, q⟩
theorem r_eq {x y : V} (s : scal x y = true) (q : Q (.bl (decide (x = y))) H) : rEq x y H Q := ⟨s, q⟩
theorem r_ne {x y : V} (s : scal x y = true) (q : Q (.bl (!decide (x = y))) H) : rNe x y H Q := ⟨s, q⟩
theorem r_tup (h : tl σ H fun xs H1 => xs.length ≤ sizeLine ∧ ∀ p, H1 p = none → Q (.ref p) (upd H1 p (.tup xs))) : tTup tl σ H Q := h
theorem r_lst (h : tl σ H fun xs H1 => xs.length ≤ sizeLine ∧ ∀ p, H1 p = none → Q (.ref p) (upd H1 p (.lst xs))) : tLst tl σ H Q := h
theorem r_fld {f : Str} (h : ta σ H fun x H1 => ∃ a C dx fs v, x = .ref a ∧ H1 a = some (.ins C dx fs) ∧ Cls K C ∧ NoAttr K C f ∧ fs.lookup f = some v ∧ Q v H1) : tFld K ta f σ H Q := h
theorem r_fld1 {K : PySem.W.Frag} {H : Hp} {v : V} {R : V → Prop} {f : Str} {a C dx : Addr} {fs : List (Str × V)} (ha : H a = some (.ins C dx fs)) (c : Cls K C) (n : NoAttr K C f) (l : fs.lookup f = some v) (q : R v) :
    ∃ a' C dx fs v, V.ref a = .ref a' ∧ H a' = some (.ins C dx fs) ∧ Cls K C ∧ NoAttr K C f ∧ fs.lookup f = some v ∧ R v := ⟨a, C, dx, fs, v, rfl, ha, c, n, l, q⟩
theorem r_dget {td ty : TE} (h : td σ H fun x H1 => ty σ H1 fun y H2 => ∃ a v, x = .ref a ∧ DGet H2 a y (some v) ∧ Q v H2) : tDGet td ty σ H Q := h
theorem r_dget1 {H : Hp} {v : V} {R : V → Prop} {a : Addr} {y : V} {kvs : List (Key × V)} {k : Key} (ha : Rd H a (.dK kvs)) (hy : y = kV k) (hv : valV kvs k = some v) (q : R v) : ∃ a' v, V.ref a = .ref a' ∧ DGet H a' y (some v) ∧ R v := ⟨a, v, rfl, .inl ⟨kvs, k, ha, hy, hv.symm⟩, q⟩
theorem r_din {td ty : TE} (h : ty σ H fun y H1 => td σ H1 fun x H2 => ∃ a o, x = .ref a ∧ DGet H2 a y o ∧ Q (.bl o.isSome) H2) : tDIn ty td σ H Q := h
theorem r_din1 {H : Hp} {R : Option V → Prop} {a : Addr} {y : V} {kvs : List (Key × V)} {k : Key} (ha : Rd H a (.dK kvs)) (hy : y = kV k) (q : R (valV kvs k)) : ∃ a' o, V.ref a = .ref a' ∧ DGet H a' y o ∧ R o := ⟨a, _, rfl, .inl ⟨kvs, k, ha, hy, rfl⟩, q⟩
theorem iteD {b : Bool} {A B : Prop} (h1 : b = true → A) (h2 : b = false → B) : if b = true then A else B := by
  cases b with
  | true => exact iteT (h1 rfl)
  | false => exact iteF (h2 rfl)
theorem iteE {b : Bool} {A B : Prop} (e : b = true) (h : A) : if b = true then A else B := by
  subst e
  exact iteT h
theorem iteN {b : Bool} {A B : Prop} (e : b = false) (h : B) : if b = true then A else B := by
  subst e
  exact iteF h
end
end Hy
namespace Hy
open PySem PySem.Spec PyProof.Rows L2
section
variable {X : Cx} {pins : List (Addr × Obj)} {σ : L2.St} {H : Hp} {s : Shared} {C g : Addr} {n : Nat} {sp : Sp} {E : XK}
/-- no exception leaves the callee -/
theorem passN (X : Cx) (E : XK) : Passes CX0 X E := fun _ _ _ _ _ _ _ h => h.elim
/-- len(x): the class's own def -/
def rLenOwn (C : Addr) (sp : Sp) : List V → Hp → VK → Prop := fun xs H Q => ∃ a dx fs, xs = [V.ref a] ∧ H a = some (.ins C dx fs) ∧ sp [.ref a] H (fun z H' => ∃ i : Int, z = .int i ∧ 0 ≤ i ∧ i < 2 ^ 63 ∧ Q z H') E0
theorem call_lenOwn (hs : PySem.W.findIn X.K (.ref C) "__len__" = some (some (.ref g))) (hf : PySem.W.isFn X.K (.ref g) = true) (F : FnR X.prog X.w X.K X.mg X.base CX0 n g sp) (hr : Room (n + 1) X.A) : CallR X (.builtin "len") (rLenOwn C sp) := by
  intro pins s σ H xs us Q I r h
  obtain ⟨a, dx, fs, rfl, ha, q⟩ := h
  cases r with
  | cons r1 rr =>
    cases rr
    cases r1
    obtain ⟨mA, O, _⟩ := ins_get I.hok ha
    obtain ⟨od, J, _⟩ := O.look
    obtain ⟨m, hF⟩ := I.fr
    have run := SlX.run_at (us := [.ref a]) (ws := [.ref a]) F hr.in1 I.env0.in1 (passN X E0) I (.cons rfl .nil) q
    refine PySem.W.len_K hF I.ok.mod.kin J hs hf (wpAny_mono (wpAny_call run) (fun w s' z => ?_) fun _ _ x => x)
    obtain ⟨z', H', I', rz, i, ei, h0, h1, qz⟩ := z
    subst ei
    obtain ⟨t, e⟩ := (show ∃ t, w = Value.int i t from rz)
    subst e
    exact ⟨⟨h0, h1⟩, .int i, H', I'.tok _, ⟨_, rfl⟩, qz⟩
/-- x[i]: the class's own def -/
def rIxOwn (C : Addr) (sp : Sp) : R2 := fun x y H Q => ∃ a dx fs, x = V.ref a ∧ H a = some (.ins C dx fs) ∧ sp [.ref a, y] H Q E0
theorem ix_own (hq : PySem.W.noSeq X.K C = true) (hs : PySem.W.findIn X.K (.ref C) "__getitem__" = some (some (.ref g))) (hf : PySem.W.isFn X.K (.ref g) = true) (hfn : PySem.W.fnIn X.K g = true) (F : FnR X.prog X.w X.K X.mg X.base CX0 n g sp) (hr : Room (n + 1) X.A)
    {a b : Expr} {ta tb : TE} {pos : Pos} (ha : PE X a ta) (hb : PE X b tb)
    (hsl : ∀ (o i : Value), subscripted b true o i = runValue (.builtin "lifetime.subscript" ⟨[o, i], []⟩) := by intro _ _; with_unfolding_all rfl) : PE X (.Subscript a b pos) (tOp (rIxOwn C sp) ta tb) := by
  refine ⟨fun pins s σ H Q I h => ?_⟩
  refine Subscript_ (thn (ha.run pins s σ H _ I h) fun v s1 q1 => ?_)
  obtain ⟨x, H1, I1, r1, h1⟩ := q1
  refine thn (hb.run pins s1 σ H1 _ I1 h1) fun u s2 q2 => ?_
  obtain ⟨y, H2, I2, r2, c, dx, fs, ex, hc, hsp⟩ := q2
  subst ex
  cases r1
  obtain ⟨mA, O, _⟩ := ins_get I2.hok hc
  obtain ⟨od, J, _⟩ := O.look
  obtain ⟨m, hF⟩ := I2.fr
  refine PySem.W.sub_K hF I2.ok.mod.kin J hs hfn hf ?_ (hsl _ _)
  exact wpAny_mono (wpAny_call (SlX.run_at (us := [.ref c, u]) (ws := [.ref c, y]) F hr.in1 I2.env0.in1 (passN X E0) I2 (.cons rfl (.cons r2 .nil)) hsp)) (fun w s' z => z) fun _ _ x => x
/-- x != y, by the class's own == -/
def rNeOwn (C : Addr) (sp : Sp) : R2 := fun x y H Q => ∃ a dx fs b dy gs, x = V.ref a ∧ y = V.ref b ∧ H a = some (.ins C dx fs) ∧ H b = some (.ins C dy gs) ∧ sp [x, y] H (fun z H' => ∃ c, z = .bl c ∧ Q (.bl (!c)) H') E0
theorem op_neOwn (hn : PySem.W.findIn X.K (.ref C) "__ne__" = some (some (.builtin "object.__ne__"))) (hm : PySem.W.mroIn X.K C (.type "object") = some true) (hs : PySem.W.findIn X.K (.ref C) "__eq__" = some (some (.ref g))) (hf : PySem.W.isFn X.K (.ref g) = true)
    (F : FnR X.prog X.w X.K X.mg X.base CX0 n g sp) (hr : Room (n + 1) X.A) : OpR X (compareOp .NotEq) (rNeOwn C sp) := by
  intro pins s σ H x y v u Q I rx ry h
  obtain ⟨a, dx, fs, b, dy, gs, rfl, rfl, ha, hb, hsp⟩ := h
  cases (show v = Value.ref a from rx)
  cases (show u = Value.ref b from ry)
  obtain ⟨mA, O, _⟩ := ins_get I.hok ha
  obtain ⟨od, J, _⟩ := O.look
  obtain ⟨mB, O', _⟩ := ins_get I.hok hb
  obtain ⟨od', J', _⟩ := O'.look
  have XK : X.K.In s.heap := I.kIn
  have hu : X.A.units + 1 < cLine := by
    have := hr.un
    omega
  have run := wpAny_call (SlX.run_at (us := [.ref a, .ref b]) (ws := [.ref a, .ref b]) F hr.in1 I.env0.in1 (passN X E0) I (.cons rfl (.cons rfl .nil)) hsp)
  show wpAny (model X.prog X.w) X.A (richCompare .NotEq (.ref a) (.ref b)) _ _ _
  have csb : wpAny (model X.prog X.w) X.A (callSpecialIfBound? (.ref a) "__ne__" [.ref b]) (fun r s' => ∃ c, r = some (.bool c) ∧ EP X pins σ Q (.bool c) s') X.xe s := by
    simp only [callSpecialIfBound?, bindSpecialIfBound?]
    refine wpAny_holding (wpAny_bind (wpAny_bind (wpAny_bind (J.type.here ((PySem.W.looks_findIn XK hn).here ?_)))))
    have S := PySem.F.cmp_object.ne
    simp only [S.bind]
    have sub : PySem.W.Looks (model X.prog X.w) s.heap (isInstance (.ref a) (.type "object")) true := J.type.andThen (PySem.W.looks_mroIn XK hm)
    have body : wpAny (model X.prog X.w) X.A (call (.builtin "object.__ne__") [.ref a, .ref b]) (fun v s' => ∃ c, v = .bool c ∧ EP X pins σ Q (.bool c) s') X.xe s := by
      refine wpAny_call (codeAny_call_builtin S.plain PySem.F.cmpEntry_ne (@PySem.W.check_slot (model X.prog X.w) _ _ s "object.__ne__" "object" "__ne__" (.ref a) [.ref b] [] _ PySem.F.cmpKind_ne PySem.F.cmpSplit_ne sub (PySem.F.cmpArgs_ne _ _) ?_))
      unfold Builtin.«object.__ne__»
      refine wpAny_bind (wpAny_of_eq (a := (Value.ref a, [Value.ref b])) (by first | rfl | kernel_rfl) ?_)
      refine wpAny_bind (wpAny_cRoomFor hu ?_)
      refine wpAny_bind (m := callSpecialIfBound? (.ref a) (Str.ofString "__eq__") [.ref b]) (PySem.W.ifBound_K XK J hs hf (wpAny_mono run (fun w s' z => ?_) fun _ _ x => x))
      obtain ⟨z', H', I', rz, c, ec, qz⟩ := z
      subst ec
      cases rz
      refine wpAny_bind (m := truthy (.bool c)) (wpAny_truthy_bool ?_)
      exact wpAny_pure ⟨_, rfl, .bl (!c), H', I', rfl, qz⟩
    have fin : wpAny (model X.prog X.w) X.A (call (.builtin "object.__ne__") ([.ref a] ++ [.ref b]) >>= fun v => pure (some v)) (fun r s' => ∃ c, r = some (.bool c) ∧ EP X pins σ Q (.bool c) s') X.xe s := by
      refine wpAny_bind (wpAny_mono body (fun v s' z => wpAny_pure ?_) fun _ _ x => x)
      obtain ⟨c, rfl, q⟩ := z
      exact ⟨c, rfl, q⟩
    refine wpAny_bind (wpAny_askSetting (wpAny_ite ?_))
    split
    · exact wpAny_bind (wpAny_pure (wpAny_pure fin))
    · exact wpAny_tryCatch (wpAny_bind (wpAny_pure (wpAny_pure fin)))
  have one : wpAny (model X.prog X.w) X.A (tryCompare (.ref a) "__ne__" (.ref b)) (fun r s' => ∃ c, r = some (.bool c) ∧ EP X pins σ Q (.bool c) s') X.xe s := by
    unfold tryCompare
    refine wpAny_bind (wpAny_mono csb (fun r s' z => ?_) fun _ _ x => x)
    obtain ⟨c, rfl, q⟩ := z
    exact wpAny_pure ⟨c, rfl, q⟩
  unfold richCompare
  simp only [oneThing_ref]
  refine wpAny_holding (wpAny_bind (wpAny_cRoomFor (Nat.lt_of_succ_lt hu) ?_))
  rw [cmpInfo_NotEq]
  dsimp only
  refine wpAny_bind (J.type.here (wpAny_bind (J'.type.here ?_)))
  rw [show (Value.ref C != Value.ref C) = false from by simp]
  simp only [Bool.false_eq_true, if_false]
  refine wpAny_bind (wpAny_pure ?_)
  simp only [Bool.false_eq_true, if_false]
  refine wpAny_bind (wpAny_mono one (fun r s' z => ?_) fun _ _ x => x)
  obtain ⟨c, rfl, q⟩ := z
  exact wpAny_pure q
end
end Hy
namespace Hy
open PySem PySem.Spec PyProof.Rows L2
section
variable {X : Cx}
theorem get_list : PGet X (rIxL X.K) := by
  intro pins s σ H x y v u Q I rx ry h
  obtain ⟨p, xs, i, z, rfl, rfl, hq, he, q⟩ := h
  cases rx
  obtain ⟨t, rfl⟩ := ry
  obtain ⟨its, r, pl, hz⟩ := I.list hq
  obtain ⟨j, h1, h2, h3, h4, h5⟩ := atI_get he
  obtain ⟨c, ec, rc⟩ := r.get h2
  have hl := r.length
  have hn := line63
  by_cases h0 : 0 ≤ i
  · have hj : i.toNat = j := by
      rw [seqIndex_of h0 h5] at h1
      exact Option.some.inj h1
    exact wpAny_getItem_list pl.isList h0 (by omega) (by rw [hj]; simpa using ec) ⟨z, H, I, rc, q⟩
  · have hj : (i + (its.toArray.size : Int)).toNat = j := by
      rw [seqIndex_neg (by omega) h4] at h1
      rw [List.size_toArray, ← hl]
      exact Option.some.inj h1
    exact wpAny_getItem_list_neg pl.isList (by omega) (by rw [List.size_toArray] <;> omega) (by omega) (by rw [hj]; simpa using ec) ⟨z, H, I, rc, q⟩
/-- a, b = x, y with names of the def, captured or not -/
theorem ps_parA {i j : Nat} {x y : Str} {a b : Expr} {ta : TA} {px py pt pos : Pos} {kt k2 pt2} (hN : X.N.Nodup) (ha : PA X [a, b] ta) (hc : X.calm = true := by rfl) (hi : X.N[i]? = some x := by rfl) (hj : X.N[j]? = some y := by rfl) (hij : i ≠ j := by decide)
    (hx : Loc X.env.scope x := by first | exact Or.inl rfl | exact Or.inr rfl) (hy : Loc X.env.scope y := by first | exact Or.inl rfl | exact Or.inr rfl)
    (fx : X.fn x = true ∨ X.env.scope.names.lookup x = some .local := by first | exact Or.inl rfl | exact Or.inr rfl) (fy : X.fn y = true ∨ X.env.scope.names.lookup y = some .local := by first | exact Or.inl rfl | exact Or.inr rfl)
    (hw : swappedStores [.Tuple [.Name x px, .Name y py] kt pt] (.Tuple [a, b] k2 pt2) X.env = pure (some [x, y]) := by rfl)
    (hs : swapsWithSole [.Tuple [.Name x px, .Name y py] kt pt] (.Tuple [a, b] k2 pt2) pos.line X.env = pure false := by rfl) :
    PS X (.Assign [.Tuple [.Name x px, .Name y py] kt pt] (.Tuple [a, b] k2 pt2) pos) (tPar i j ta) := by
  refine ⟨fun pins s σ H D I h => ?_⟩
  rw [exec_Assign_arm]
  refine wpAny_bind (wpAny_standAt ?_)
  rw [hs]
  refine wpAny_bind (wpAny_pure ?_)
  rw [if_neg (by decide)]
  refine wpAny_bind (Tuple_ (thn (ha.run _ pins s σ H _ I h) fun ws s1 q0 => ?_))
  obtain ⟨vs, H1, I1, r1, v, v', e1, q1⟩ := q0
  subst e1
  cases r1 with
  | @cons _ u1 _ _ p1 q2 =>
    cases q2 with
    | @cons _ u2 _ _ p2 q3 =>
      cases q3
      refine wpAny_newObj_type ?_ (by show 2 ≤ sizeLine; decide)
      have J : Inv X pins σ H1 { s1 with heap := s1.heap.push { cls := .type "tuple", data := .seq [u1, u2].toArray } } := I1.kept (t' := s1.toks) fun b o e => Heap.get?_push_of_some _ e
      rw [hw]
      refine wpAny_bind (wpAny_pure ?_)
      show wpAny (model X.prog X.w) X.A (do rule "assign.swapped-stores"; let items ← unpackItems (.ref s1.heap.objs.size) 2 none; assignInOrder [fun v => bindName X.env y v, fun v => bindName X.env x v] items.reverse; pure Flow.next) _ _ _
      refine wpAny_bind (wpAny_rule (wpAny_bind (unpackItems_tuple (items := #[u1, u2]) (I.ok.hd hc) (IsTup.new s1.heap _) fun h' hx' => ?_)))
      have J3 := J.kept (h' := h') (t' := s1.toks) fun b o e => hx' b o (Nat.ne_of_lt (Heap.lt_size e)) e
      show wpAny _ _ (assignInOrder [fun v => bindName X.env y v, fun v => bindName X.env x v] [u2, u1] >>= fun _ => pure Flow.next) _ _ _
      refine wpAny_bind (assignInOrder_cons (wpAny_bindName (store_ok J3 hN hj hy p2 (fun s2 I4 => ?_) fy)))
      refine assignInOrder_cons (wpAny_bindName (store_ok I4 hN hi hx p1 (fun s3 I5 => assignInOrder_nil (wpAny_pure ?_)) fx))
      rw [List.set_comm _ _ (Ne.symm hij)] at I5
      exact ⟨_, H1, I5, q1⟩
end
section
variable (P : Program) (w : World) (K : PySem.W.Frag) (mg : Str → Option Value) (base : Heap)
/-- the class at C has (or inherits) a method m that keeps sp -/
structure Mt (C : Addr) (m : Str) (k : Nat) (sp : Sp) : Prop where
  ex : ∃ f, Meth K C m f ∧ FnR P w K mg base CX0 k f sp
  cl : Cls K C
structure Pt (C : Addr) (m : Str) (k : Nat) (sp : Sp) : Prop where
  ex : ∃ p f, PropOf K C m p f ∧ FnR P w K mg base CX0 k f sp
  cl : Cls K C
/-- the module's name x holds the class at C whose __init__ keeps sp -/
structure Ct (x : Str) (C : Addr) (k : Nat) (sp : Sp) : Prop where
  ex : ∃ f, Mk K C f ∧ FnR P w K mg base CX0 k f sp
  at_ : mg x = some (.ref C)
end
def tMt (C : Addr) (m : Str) (sp : Sp) (ta : TE) (t : TA) : TE := fun σ H Q => ta σ H fun x H1 => ∃ a dx fs, x = .ref a ∧ H1 a = some (.ins C dx fs) ∧ fs.lookup m = none ∧ t σ H1 fun vs H2 => sp (x :: vs) H2 Q E0
def tPt (C : Addr) (sp : Sp) (ta : TE) : TE := fun σ H Q => ta σ H fun x H1 => ∃ a dx fs, x = .ref a ∧ H1 a = some (.ins C dx fs) ∧ sp [.ref a] H1 Q E0
section
variable {X : Cx} {C : Addr} {m : Str} {k : Nat} {sp : Sp} {o e : Expr} {es : List Expr} {ta : TE} {t : TA} {apos pos : Pos}
theorem pe_mth {pl : Sem Bool} (M : Mt X.prog X.w X.K X.mg X.base C m k sp) (hr : Room k X.A) (he : PE X o ta) (ha : PA X (e :: es) t)
    (hst : starEach (e :: es) X.env = (false, eval e X.env) :: starEach es X.env := by rfl) (hpl : (backTo pos (starEach es X.env)).any (·.1) = false := by rfl)
    (ht : eval (.Call (.Attribute o m apos) (e :: es) [] pos) X.env = (do
      let ov ← eval o X.env
      standAt apos.atName
      let (f, first) ← holding [ov] (getMethod ov m pl)
      callWith pos f first (backTo pos (starEach (e :: es) X.env)) (backToKw pos (keywordEach [] X.env))) := by rfl) :
    PE X (.Call (.Attribute o m apos) (e :: es) [] pos) (tMt C m sp ta t) := by
  obtain ⟨f, hm, F⟩ := M.ex
  refine ⟨fun pins s σ H Q I h => PySem.W.methodCall_KW (pl := pl) (thn (he.run pins s σ H _ I h) fun u s1 q0 => ?_) ht⟩
  obtain ⟨x, H1, I1, rx, a, dx, fs, ex, ea, l, q⟩ := q0
  subst ex
  obtain rfl : u = Value.ref a := rx
  refine getmeth_ok I1 ea M.cl hm l (PySem.W.callWith_K (first := [.ref a]) (h₀ := X.base) I.ok.mod.kin hm.kp (thn (ha.run pos pins s1 σ H1 _ I1 q) fun us s2 z => ?_) hst hpl)
  obtain ⟨vs, H2, I2, r, q2⟩ := z
  exact ⟨I2.kIn, wpAny_call (run_fnR F hr pass0 I2 (us := .ref a :: us) (vs := .ref a :: vs) (.cons rfl r) q2)⟩
theorem pe_prp (M : Pt X.prog X.w X.K X.mg X.base C m k sp) (hr : Room (k + 1) X.A) (he : PE X o ta) (hab : attributeBase o m X.env (eval o X.env) = eval o X.env := by rfl) : PE X (.Attribute o m pos) (tPt C sp ta) := by
  obtain ⟨p, g, hp, F⟩ := M.ex
  refine ⟨fun pins s σ H Q I h => attr_of hab (thn (he.run pins s σ H _ I h) fun u s1 q0 => ?_)⟩
  obtain ⟨x, H1, I1, rx, a, dx, fs, ex, ea, q⟩ := q0
  subst ex
  obtain rfl : u = Value.ref a := rx
  obtain ⟨mA, O, _, _, _, _⟩ := ins_get I1.hok ea
  obtain ⟨od, J, _⟩ := O.look
  obtain ⟨rest, hrec⟩ := hp.rec_
  have I2 := I1.tok (s1.toks + 1)
  have hc : (PySem.W.clsIn X.K C).isSome = true := by
    obtain ⟨cd, hc, _⟩ := PySem.W.any_some M.cl.hd
    rw [hc]
    rfl
  refine PySem.W.get_bind I1.kIn J (PySem.W.plainGet_of (M.cl.get m)).1 (PySem.W.findObj_data hc hp.at_ hp.get hp.tak) (PySem.W.plainGet_of (M.cl.get m)).2 (wpAny_call (PySem.W.prop_get (s := { s1 with toks := s1.toks + 1 }) I1.kIn hrec ?_))
  refine codeAny_mono (F X.A.in1 X.stack { s1 with toks := s1.toks + 1 } H1 [.ref a] [.ref a] Q E0 hr.in1 I2.env0.in1 (.cons rfl .nil) q) fun r s' hq => ?_
  cases r with
  | error er => exact False.elim hq
  | ok fl =>
    cases fl with
    | ret u =>
      obtain ⟨v, H', I3, rv, q3⟩ := I2.after hq
      show wpAny _ _ (handedOut u) _ _ _
      rw [PySem.W.handedOut_of (handed_of rv)]
      exact wpAny_pure ⟨v, H', I3, rv, q3⟩
    | next => exact False.elim hq
    | brk => exact False.elim hq
    | cont => exact False.elim hq
def tMk (C : Addr) (sp : Sp) (t : TA) : TE := fun σ H Q => t σ H fun vs H1 => ∀ x dx, H1 x = none → H1 dx = none → dx ≠ x → sp (V.ref x :: vs) (upd (upd H1 dx (.own x)) x (.ins C dx [])) (fun v H2 => v = .non ∧ Q (.ref x) H2) E0
theorem pe_mk {x : Str} {p : Pos} (M : Ct X.prog X.w X.K X.mg X.base x C k sp) (hr : Room (k + 1) X.A) (hg : Gl X x) (ha : PA X (e :: es) t) (hdb : (x == ("__debug__" : Str)) = false := by decide)
    (he : starEach (e :: es) X.env = (false, eval e X.env) :: starEach es X.env := by rfl) (hpl : (backTo pos (starEach es X.env)).any (·.1) = false := by rfl) :
    PE X (.Call (.Name x p) (e :: es) [] pos) (tMk C sp t) := by
  obtain ⟨f, hM, F⟩ := M.ex
  exact ⟨(StX.pe_makeR (E := E0) hM F hr hg M.at_ pass0 ha hdb he hpl).run⟩
end
section
variable {X : Cx}
/-- "-" * 2 -/
def rRepS : R2 := fun x y H Q => x = .str "-" ∧ y = .int 2 ∧ Q (.str "--") H
theorem op_repS : OpR X (binaryOp .Mult) rRepS := by
  intro pins s σ H x y v u Q I rx ry h
  obtain ⟨rfl, rfl, q⟩ := h
  obtain ⟨t, rfl⟩ := rx
  obtain ⟨t', rfl⟩ := ry
  refine PySem.P.mul_str (by decide) (fun _ _ => by decide) (fun _ _ => by decide +kernel) ?_
  rw [if_neg (by decide), if_neg (by decide)]
  exact ⟨by decide +kernel, .str _, H, I.tok _, ⟨_, rfl⟩, q⟩
/-- the text of two signs turned round -/
def tRev2 (te : TE) : TE := fun σ H Q => te σ H fun x H1 => ∃ a b : Nat, x = .str ⟨#[a, b]⟩ ∧ Q (.str ⟨#[b, a]⟩) H1
theorem pe_rev2 {e : Expr} {te : TE} {k : Nat} {p1 p2 p3 pos : Pos} (he : PE X e te) : PE X (.Subscript e (.Slice none none (some (.UnaryOp .USub (.Constant (.int 1) k p1) p2)) p3) pos) (tRev2 te) := by
  refine ⟨fun pins s σ H Q I h => Subscript_ (thn (he.run pins s σ H _ I h) fun v s1 q0 => ?_)⟩
  obtain ⟨x, H1, I1, r1, a, b, ex, q⟩ := q0
  subst ex
  obtain ⟨t, rfl⟩ := r1
  have hst : PO X (some (.UnaryOp .USub (.Constant (.int 1) k p1) p2)) (tPart (tUn (rU fun i => .int (-i)) (tC (.int 1)))) := po_some (pe_un un_neg pe_int)
  refine wpAny_Slice (thn (po_none.run pins s1 σ H1 (fun o H2 => o = none ∧ H2 = H1) I1 ⟨rfl, rfl⟩) fun vl s2 z2 => ?_)
  obtain ⟨l, H2, I2, pl, rfl, rfl⟩ := z2
  refine thn (po_none.run pins s2 σ H2 (fun o H3 => o = none ∧ H3 = H2) I2 ⟨rfl, rfl⟩) fun vu s3 z3 => ?_
  obtain ⟨u, H3, I3, pu, rfl, rfl⟩ := z3
  refine thn (hst.run pins s3 σ H3 (fun o H4 => o = some (-1) ∧ H4 = H3) I3 ⟨1, rfl, -1, rfl, rfl, rfl⟩) fun vs s4 z4 => ?_
  obtain ⟨o, H4, I4, ps, rfl, rfl⟩ := z4
  obtain ⟨ll, rfl, hl⟩ := IsPart.raw pl
  obtain ⟨uu, rfl, hu⟩ := IsPart.raw pu
  obtain ⟨ss, rfl, hs⟩ := IsPart.raw ps
  have I5 : Inv X pins σ H4 { s4 with heap := s4.heap.push { cls := .type "slice", data := .fields #[partValue ll, partValue uu, partValue ss] } } := I4.kept (t' := s4.toks) fun b ob q => Heap.get?_push_of_some _ q
  show wpAny (model X.prog X.w) X.A (subscriptTail e (.Slice none none (some (.UnaryOp .USub (.Constant (.int 1) k p1) p2)) p3) (.str ⟨#[a, b]⟩ t) (.ref s4.heap.objs.size)) (EP X pins σ Q) X.xe _
  refine tail_any (ops := [.str ⟨#[a, b]⟩ t, .ref s4.heap.objs.size]) (typeIs_str _ _ _) (F.slot_str_getitem.lookup) ?_ (by with_unfolding_all rfl)
  have e1 : ll = none := by
    cases ll with
    | none => rfl
    | some z => cases hl
  have e2 : uu = none := by
    cases uu with
    | none => rfl
    | some z => cases hu
  obtain ⟨t1, e3⟩ : ∃ t1, ss = some (-1, t1) := by
    cases ss with
    | none => cases hs
    | some z =>
      obtain ⟨i, t1⟩ := z
      cases hs
      exact ⟨t1, rfl⟩
  subst e1 e2 e3
  refine wpAny_getItem_str_slice (l := none) (u := none) (st := some (-1, t1)) ⟨_, Heap.get?_push_size _ rfl, rfl, rfl⟩ rfl ?_
  have eM : sliceMade ⟨#[a, b]⟩ t none none (some (-1, t1)) = Made.str ⟨#[b, a]⟩ := by kernel_rfl
  rw [eM]
  exact ⟨by show 2 ≤ sizeLine; decide, .str _, H4, I5.tok _, ⟨_, rfl⟩, q⟩
end
end Hy
namespace Hy
open PySem PySem.Spec PyProof.Rows L2
def isI : V → Bool
  | .int _ => true
  | _ => false
def eqDI (ks ls : List (Key × V)) : Bool := ks.length == ls.length && ks.all fun p => decide (valV ls p.1 = some p.2)
theorem hitsI {A : Around} {s : Shared} {ls : List (Key × V)} {vb : List (Key × Value)} (rb : KV ls vb) (hl : ls.all (fun p => isI p.2) = true) {ks : List (Key × V)} {va : List (Key × Value)} (ra : KV ks va) (hk : ks.all (fun p => isI p.2) = true) :
    PySem.W.KeqHits A s vb va (ks.all fun p => decide (valV ls p.1 = some p.2)) := by
  unfold KV at ra
  induction ra with
  | nil => exact .nil
  | @cons p q ps qs h t ih =>
    rw [List.all_cons, Bool.and_eq_true] at hk
    have ih' := ih hk.2
    obtain ⟨k, v⟩ := q
    obtain ⟨p1, p2⟩ := p
    obtain ⟨h1, h2⟩ := h
    dsimp only at h1 h2 hk
    subst h1
    rw [List.all_cons]
    have rr := rb.val p1
    cases hv : valV ls p1 with
    | none =>
      rw [hv] at rr
      have e : valueAt vb p1 = none := RelO.none_of rr
      have e2 : (decide ((none : Option V) = some p2) && ps.all fun p => decide (valV ls p.1 = some p.2)) = false := by simp
      show PySem.W.KeqHits A s vb ((p1, v) :: qs) (decide ((none : Option V) = some p2) && ps.all fun p => decide (valV ls p.1 = some p.2))
      rw [e2]
      exact .miss e
    | some y =>
      rw [hv] at rr
      obtain ⟨yv, e, ry⟩ := rr.some_of
      have hy : isI y = true := by
        unfold valV at hv
        cases hf : ls.find? (fun kv => decide (kv.1 = p1)) with
        | none =>
          rw [hf] at hv
          cases hv
        | some z =>
          rw [hf] at hv
          cases hv
          exact List.all_eq_true.mp hl z (List.mem_of_find?_eq_some hf)
      cases p2 with
      | int i =>
        cases y with
        | int j =>
          obtain ⟨t1, rfl⟩ := h2
          obtain ⟨t2, rfl⟩ := ry
          have E := PySem.W.keq_flat (A := A) (s := s) (v := .int i t1) (y := .int j t2) (d := .int i) (e := .int j) (fun _ => .int _ _) (fun _ => .int _ _)
          have e3 : decide (some (V.int j) = some (V.int i)) = PyData.eqv (.int i) (.int j) := by
            show decide (some (V.int j) = some (V.int i)) = PyData.eqv (.int i) (.int j)
            have e4 : PyData.eqv (.int i) (.int j) = (i == j) := by
              first
              | rfl
              | (unfold PyData.eqv; rfl)
              | simp [PyData.eqv]
            rw [e4, Bool.eq_iff_iff]
            simp only [decide_eq_true_eq, beq_iff_eq, Option.some.injEq, V.int.injEq]
            exact eq_comm
          show PySem.W.KeqHits A s vb ((p1, Value.int i t1) :: qs) (decide (some (V.int j) = some (V.int i)) && ps.all fun p => decide (valV ls p.1 = some p.2))
          rw [e3]
          exact .hit e E ih'
        | _ => cases hy
      | _ => cases hk.1
def rEqDI : R2 := fun x y H Q => ∃ a b ks ls, x = .ref a ∧ y = .ref b ∧ H a = some (.dK ks) ∧ H b = some (.dK ls) ∧ ks.all (fun p => isI p.2) = true ∧ ls.all (fun p => isI p.2) = true ∧ Q (.bl (eqDI ks ls)) H
theorem op_eqDI {X : Cx} (hu : X.A.units < cLine) : OpR X (compareOp .Eq) rEqDI := by
  intro pins s σ H x y v u Q I rx ry h
  obtain ⟨a, b, ks, ls, rfl, rfl, ea, eb, hk, hl, q⟩ := h
  obtain rfl : v = Value.ref a := rx
  obtain rfl : u = Value.ref b := ry
  obtain ⟨_, ya, va, ra, da⟩ := (show ObjOk X.prog X.w H s.heap a (.dK ks) from I.hok a _ ea)
  obtain ⟨_, yb, vb, rb, db⟩ := (show ObjOk X.prog X.w H s.heap b (.dK ls) from I.hok b _ eb)
  refine PySem.W.keq_eq (knd := mixKind X.prog X.w) (r := ks.all fun p => decide (valV ls p.1 = some p.2)) ya yb da db hu (fun _ => hitsI rb hl ra hk) (fin_bl I q ?_)
  rw [← ra.length, ← rb.length]
  rfl
def rListStr : List V → Hp → VK → Prop := fun xs H Q => ∃ z : Str, xs = [.str z] ∧ z.cps.size ≤ sizeLine ∧ ∀ p, H p = none → Q (.ref p) (upd H p (.lst (z.cps.toList.map fun c => V.str ⟨#[c]⟩)))
theorem call_list_str {X : Cx} (hc : X.calm = true) : CallR X (.type "list") rListStr := by
  intro pins s σ H xs us Q I r h
  obtain ⟨z, rfl, hz, q⟩ := h
  obtain ⟨u, rfl, rx⟩ := vals1 r
  obtain ⟨t, rfl⟩ := rx
  refine PySem.call_list_str (I.ok.hd hc) z t (fun h' tk acc c' hk hS hacc => ?_) hz
  have hl : acc.toList.length = z.cps.size := by simpa using hacc.1
  refine ⟨.ref s.heap.objs.size, _, I.laid (t' := tk) (o := .lst (z.cps.toList.map fun c => V.str ⟨#[c]⟩)) hk (Nat.le_refl _) ⟨by rw [List.length_map, Array.length_toList]; exact hz, acc.toList, c', ?_, by rw [Array.toArray_toList]; exact hS⟩, rfl, q _ (I.hok.fresh (Nat.le_refl _))⟩
  refine vals_of_at (by rw [List.length_map, Array.length_toList, hl]) fun j x u h1 h2 => ?_
  obtain ⟨c, v, h3, rfl⟩ := hacc.2 j u (by rw [← Array.getElem?_toList]; exact h2)
  rw [List.getElem?_map, Array.getElem?_toList, h3] at h1
  cases h1
  exact ⟨v, rfl⟩
def tListVals (te : TE) : TE := fun σ H Q => te σ H fun x H1 => ∃ (d : Addr) (kvs : List (Key × V)), x = .ref d ∧ H1 d = some (.dK kvs) ∧ ∀ p, H1 p = none → Q (.ref p) (upd H1 p (.lst (kvs.map (·.2))))
section
variable {X : Cx} {e : Expr} {te : TE} {p apos cpos pos : Pos}
theorem pe_listVals (hc : X.calm = true) (hg : Gl X "list") (hm : X.mg "list" = none) (he : PE X e te) (hbase : attributeBase e "values" X.env (eval e X.env) = eval e X.env := by rfl) (hline : (apos.endLine == cpos.line) = true := by rfl)
    (hs : starEach [.Call (.Attribute e "values" apos) [] [] cpos] X.env = (false, eval (.Call (.Attribute e "values" apos) [] [] cpos) X.env) :: starEach [] X.env := by rfl) :
    PE X (.Call (.Name "list" p) [.Call (.Attribute e "values" apos) [] [] cpos] [] pos) (tListVals te) := by
  refine ⟨fun pins s σ H Q I hq => ?_⟩
  refine wpAny_Call_Name_kw (ld_blt I hg hm boot_list ?_)
  refine PyProof.Rows.callWith_type1 ?_ hs rfl
  rw [hs]
  show wpAny _ _ (spliced ((false, eval (.Call (.Attribute e "values" apos) [] [] cpos) X.env) :: backTo pos (starEach [] X.env))) _ _ s
  refine Calls.spliced_cons (wpAny_Call_method (T := "dict") (id := "dict.values") hbase rfl hline F.plainAttrs_dict F.slot_dict_values F.type_dict_values (thn (he.run pins s σ H _ I hq) fun u s1 q0 => ?_))
  obtain ⟨x, H1, I1, rx, d, kvs, ex, hd, q⟩ := q0
  subst ex
  obtain rfl : u = Value.ref d := rx
  obtain ⟨hz, hs0, vs, kv, hdo⟩ := I1.hok d _ hd
  obtain ⟨ep, hat⟩ := hdo.dictAt
  have lk : kvs.length = vs.length := Paired.length kv
  have I2 : Inv X pins σ H1 { s1 with heap := s1.heap.push { cls := .type "dict_values", data := .fields #[.ref d] } } := I1.kept (t' := s1.toks) fun b ob q => Heap.get?_push_of_some _ q
  refine ⟨hdo.typeIs, hdo.mapOf.noDict, ?_⟩
  show wpAny _ _ (callWith cpos (.builtin "dict.values") [.ref d] [] []) _ X.xe s1
  refine method_meetsIn F.slot_dict_values F.entry_dict_values rfl (PySem.evalArgs_none ⟨rfl, hdo.typeIs, F.args_dict_values_1 _, _, meets_dict_values (mixKind X.prog X.w) d hs0, ⟨vs, hdo⟩, Calls.spliced_nil ?_⟩)
  refine PySem.W.kdl_call (PySem.W.kdl_values (knd := mixKind X.prog X.w) (d := d) (r := s1.heap.objs.size) (kvs := vs) (ep := ep)) (I1.ok.hd hc) ⟨⟨_, Heap.get?_push_size _ rfl, rfl, rfl⟩, hat.push _⟩ (by rw [← lk]; exact hz) fun h' tk acc c' hk hS hacc => ?_
  refine ⟨.ref _, _, I2.laid (t' := tk) (o := .lst (kvs.map (·.2))) hk (Nat.le_refl _) ⟨by rw [List.length_map]; exact hz, acc.toList, c', ?_, by rw [Array.toArray_toList]; exact hS⟩, rfl, q _ (I2.hok.fresh (Nat.le_refl _))⟩
  have hl : acc.toList.length = vs.length := by simpa using hacc.1
  refine vals_of_at (by rw [List.length_map, hl, lk]) fun j x u h1 h2 => ?_
  obtain ⟨k, h3⟩ := hacc.2 j u (by rw [← Array.getElem?_toList]; exact h2)
  rw [List.getElem?_map] at h1
  cases h4 : kvs[j]? with
  | none =>
    rw [h4] at h1
    cases h1
  | some z =>
    rw [h4] at h1
    cases h1
    obtain ⟨y, g1, g2, g3⟩ := LiI.paired_get kv h4
    rw [h3] at g1
    cases g1
    exact g3
end
theorem pairs_up {H H' : Hp} {ts : List Addr} {kvs : List (Key × V)} (p : Paired (fun (t : Addr) (q : Key × V) => H t = some (.tup [kV q.1, q.2])) ts kvs) (h : ∀ t o, H t = some o → H' t = some o) : Paired (fun (t : Addr) (q : Key × V) => H' t = some (.tup [kV q.1, q.2])) ts kvs := by
  induction p with
  | nil => exact .nil
  | cons a t ih => exact .cons (h _ _ a) ih
theorem pairs_laid {X : Cx} {pins : List (Addr × Obj)} {σ : L2.St} {H : Hp} {s : Shared} {h' : Heap} {tk : Nat} {kvs : List (Key × V)} {vs : List (Key × Value)} {as : List Addr} (I : Inv X pins σ H s) (kv : KV kvs vs)
    (hk : ∀ b o, s.heap.get? b = some o → h'.get? b = some o) (hl : as.length = vs.length) (hG : PySem.W.KdxG (mixKind X.prog X.w) vs s.heap.objs.size h' as) :
    ∃ H' : Hp, (∀ b o, H b = some o → H' b = some o) ∧ (∀ t ∈ as, H t = none) ∧ Paired (fun (t : Addr) (q : Key × V) => H' t = some (.tup [kV q.1, q.2])) as kvs ∧ Inv X pins σ H' { s with heap := h', toks := tk } := by
  have lk : kvs.length = vs.length := Paired.length kv
  have nd : as.Nodup := List.Pairwise.imp (fun {a b} (h : a < b) => Nat.ne_of_lt h) hG.rise
  have new : ∀ t ∈ as, H t = none := fun t ht => I.hok.fresh (Nat.le_of_lt (hG.above t ht))
  have atP := LiI.putT_at as kvs H (by omega) nd
  have off : ∀ b, b ∉ as → LiI.putT H as kvs b = H b := fun b h1 => LiI.putT_off as kvs H h1
  have low : ∀ b o, s.heap.get? b = some o → b ∉ as := fun b o e z => absurd (Heap.lt_size e) (Nat.not_lt.mpr (Nat.le_of_lt (hG.above b z)))
  have kp : ∀ b u, H b = some u → (LiI.putT H as kvs) b = some u := fun b u e => by
    rw [off b (fun z => by rw [new b z] at e; cases e)]
    exact e
  refine ⟨LiI.putT H as kvs, kp, new, atP, ?_⟩
  refine I.call' (ch := []) rfl ⟨fun b o q _ _ _ => hk b o q, fun b o q _ _ _ => ⟨o.slots, hk b o q⟩, fun b o q n _ => ?_, fun b o q _ => ⟨o, hk b o q⟩, fun b xs q => kp b _ q, fun b o u q => kp b _ q, fun b ps q => ⟨#[], by rw [kp b _ q]; simp⟩⟩ (fun b u q => ?_) I.bare fun b z => by simp at z
  · rw [off b (low b o q)]
    exact n
  · by_cases hb : b ∈ as
    · obtain ⟨j, pk, e1, e2, e3⟩ := LiI.paired_ix atP hb
      rw [e3] at q
      cases q
      obtain ⟨key, k, x, f1, f2, f3⟩ := hG.pairs j b e1
      obtain ⟨qv, g1, g2, g3⟩ := LiI.paired_get kv e2
      rw [f1] at g1
      cases g1
      have rk : RelV (kV pk.1) key := by
        rw [g2]
        exact relV_key (show keyIs k key = true from f2)
      exact ⟨by show 2 ≤ sizeLine; decide, [key, x], .cons rk (.cons g3 .nil), ⟨_, f3, rfl, _, rfl⟩⟩
    · rw [off b hb] at q
      exact (I.hok b u q).stay (fun d v _ y => hk d v y) (fun d y => kp d _ y) fun d xs y => kp d _ y
theorem meets_tuple_items {P : Program} {w : World} (r d : Addr) {K : Type} [DecidableEq K] (knd : KeyKind P w K) (kvs : List (K × Value)) (ep : Nat) (hn : kvs.length ≤ sizeLine) :
    MeetsIn P w (Builtin.«tuple.__new__» ⟨[.type "tuple", .ref r], []⟩) (fun A R s => A.handled = none ∧ s.heap.IsItemsView r d ∧ s.heap.DictAt knd d kvs ep ∧
      ∀ (h' : Heap) (tk : Nat) (as : List Addr), (∀ b o, s.heap.get? b = some o → h'.get? b = some o) → as.length = kvs.length → PySem.W.KdxG knd kvs s.heap.objs.size h' as →
        R (.ok (.ret (.ref h'.objs.size))) { s with heap := h'.push { cls := .type "tuple", data := .seq (as.map Value.ref).toArray }, toks := tk }) :=
  .of_wp fun A R s h => by
    obtain ⟨hp, g, dd, tk, os⟩ := s
    obtain ⟨hh, hv, hm, h⟩ := h
    have hsub := sub_tuple_self
    have hinit := init_tuple_lookup
    have hmh := madeHere_tuple
    have hT : Shared.TypeIs ⟨hp, g, dd, tk, os⟩ (.ref r) "dict_items" := let ⟨o, ho, hc, _⟩ := hv; ⟨o, ho, hc⟩
    wp_walk using wpAny_typeOf hT, PySem.W.kdx_collect (by first | exact hh | assumption) hv hm hn
    intro h' tk' as hk hl hG
    show wpAny _ _ (Builtin.Tuple.tupleExact (as.map Value.ref).toArray >>= fun v => ret v) _ _ _
    unfold Builtin.Tuple.tupleExact
    refine wpAny_bind (wpAny_newObj_type ?_ (by show (as.map Value.ref).toArray.size ≤ sizeLine; rw [List.size_toArray, List.length_map]; omega))
    refine wpAny_pure ⟨_, rfl, ?_⟩
    exact h h' tk' as hk hl hG
section
variable {prog : Program} {w : World} {A : Around} {E : Value → Shared → Prop} {s : Shared}
theorem object_init_in {obj : Value} {a : Value} : argsOk "object.__init__" ⟨obj :: [a], []⟩ := F.args_object_init_2 obj _
theorem call_tuple_items {r d : Addr} {K : Type} [DecidableEq K] (knd : KeyKind prog w K) {kvs : List (K × Value)} {ep : Nat} {Q : Value → Shared → Prop} (hh : A.handled = none) (hv : s.heap.IsItemsView r d) (hm : s.heap.DictAt knd d kvs ep) (hn : kvs.length ≤ sizeLine)
    (h : ∀ (h' : Heap) (tk : Nat) (as : List Addr), (∀ b o, s.heap.get? b = some o → h'.get? b = some o) → as.length = kvs.length → PySem.W.KdxG knd kvs s.heap.objs.size h' as →
      Q (.ref h'.objs.size) { s with heap := h'.push { cls := .type "tuple", data := .seq (as.map Value.ref).toArray }, toks := tk }) : wpAny (model prog w) A (call (.type "tuple") [.ref r]) Q E s :=
  callType_meetsIn (Q₁ := fun obj s₁ => s₁.TypeIs obj "tuple" ∧ Q obj s₁) F.called_tuple (F.typeCall_tuple_1 _) (F.newCall_tuple_1 _) F.entry_tuple_new F.entry_object_init (meets_tuple_items r d knd kvs ep hn)
    ⟨hh, hv, hm, fun h' tk as hk hl hG => ⟨⟨_, Heap.get?_push_size _ rfl, rfl⟩, h h' tk as hk hl hG⟩⟩
    fun obj _ hq => ⟨hq.1, F.args_object_init_2 obj _, _, object_init_meets F.called_tuple.init.lookup F.called_tuple.made (by decide), hq.1, rfl, hq.2⟩
end
/-- tuple(d.items()): a new tuple of new pairs -/
def tTupItems (te : TE) : TE := fun σ H Q => te σ H fun x H1 => ∃ (d : Addr) (kvs : List (Key × V)), x = .ref d ∧ H1 d = some (.dK kvs) ∧
  ∀ (H' : Hp) (p : Addr) (ts : List Addr), (∀ b o, H1 b = some o → H' b = some o) → H1 p = none → H' p = some (.tup (ts.map V.ref)) → Paired (fun (t : Addr) (q : Key × V) => H' t = some (.tup [kV q.1, q.2])) ts kvs → Q (.ref p) H'
section
variable {X : Cx} {e : Expr} {te : TE} {p apos cpos pos : Pos}
theorem pe_tupItems (hc : X.calm = true) (hg : Gl X "tuple") (hm : X.mg "tuple" = none) (he : PE X e te) (hbase : attributeBase e "items" X.env (eval e X.env) = eval e X.env := by rfl) (hline : (apos.endLine == cpos.line) = true := by rfl)
    (hs : starEach [.Call (.Attribute e "items" apos) [] [] cpos] X.env = (false, eval (.Call (.Attribute e "items" apos) [] [] cpos) X.env) :: starEach [] X.env := by rfl) :
    PE X (.Call (.Name "tuple" p) [.Call (.Attribute e "items" apos) [] [] cpos] [] pos) (tTupItems te) := by
  refine ⟨fun pins s σ H Q I hq => ?_⟩
  refine wpAny_Call_Name_kw (ld_blt I hg hm boot_tuple ?_)
  refine PyProof.Rows.callWith_type1 ?_ hs rfl
  rw [hs]
  show wpAny _ _ (spliced ((false, eval (.Call (.Attribute e "items" apos) [] [] cpos) X.env) :: backTo pos (starEach [] X.env))) _ _ s
  refine Calls.spliced_cons (wpAny_Call_method (T := "dict") (id := "dict.items") hbase rfl hline F.plainAttrs_dict F.slot_dict_items F.type_dict_items (thn (he.run pins s σ H _ I hq) fun u s1 q0 => ?_))
  obtain ⟨x, H1, I1, rx, d, kvs, ex, hd, q⟩ := q0
  subst ex
  obtain rfl : u = Value.ref d := rx
  obtain ⟨hz, hs0, vs, kv, hdo⟩ := I1.hok d _ hd
  obtain ⟨ep, hat⟩ := hdo.dictAt
  have lk : kvs.length = vs.length := Paired.length kv
  refine ⟨hdo.typeIs, hdo.mapOf.noDict, ?_⟩
  show wpAny _ _ (callWith cpos (.builtin "dict.items") [.ref d] [] []) _ X.xe s1
  refine method_meetsIn F.slot_dict_items F.entry_dict_items rfl (PySem.evalArgs_none ⟨rfl, hdo.typeIs, F.args_dict_items_1 _, _, meets_dict_items (mixKind X.prog X.w) d hs0, ⟨vs, hdo⟩, Calls.spliced_nil ?_⟩)
  have I2 : Inv X pins σ H1 { s1 with heap := s1.heap.push { cls := .type "dict_items", data := .fields #[.ref d] } } := I1.kept (t' := s1.toks) fun b ob q => Heap.get?_push_of_some _ q
  -- a list of nothing takes the first place, so that the pairs lie as they lie behind list(d.items())
  refine call_tuple_items (mixKind X.prog X.w) (r := s1.heap.objs.size) (d := d) (kvs := vs) (ep := ep) (I1.ok.hd hc) ⟨_, Heap.get?_push_size _ rfl, rfl, rfl⟩ (hat.push _) (by omega) fun h' tk as hk hl hG => ?_
  obtain ⟨H', k1, k2, k4, J⟩ := pairs_laid (tk := tk) I2 kv hk hl hG
  have J2 : Inv X pins σ (upd H' h'.objs.size (.tup (as.map V.ref))) { s1 with heap := h'.push { cls := .type "tuple", data := .seq (as.map Value.ref).toArray }, toks := tk } :=
    J.laid (t' := tk) (fun b o e => Heap.get?_push_of_some _ e) (Nat.le_refl _) (show ObjOk X.prog X.w _ _ _ (.tup (as.map V.ref)) from ⟨by rw [List.length_map]; omega, as.map Value.ref, LiI.vals_refs as, IsTup.new _ _⟩)
  have nf : H' h'.objs.size = none := J.hok.fresh (Nat.le_refl _)
  refine ⟨.ref _, _, J2, rfl, q _ _ as (fun b o e => (upd_ne (ne_of_none (k1 b o e) nf)).trans (k1 b o e)) ?_ upd_same ?_⟩
  · cases e9 : H1 h'.objs.size with
    | none => rfl
    | some o =>
      rw [k1 _ o e9] at nf
      cases nf
  · exact pairs_up k4 fun t o e => (upd_ne (ne_of_none e nf)).trans e
end
end Hy
namespace Hy
open PySem PySem.Spec PyProof.Rows L2
/-- turn i gives a new pair of i and the i-th sign -/
def Ites (x : Str) : It :=
  ⟨fun i _ => i < x.cps.size, fun i H v H' => ∃ T c, v = .ref T ∧ H T = none ∧ x.cps[i]? = some c ∧ H' = upd H T (.tup [.int (i : Nat), .str ⟨#[c]⟩]), fun i _ => x.cps.size ≤ i⟩
theorem turn_enumS {P : Program} {w : World} {K : PySem.W.Frag} {elts : List Expr} {kk : Nat} {tpos : Pos} (x : Str) (t : Tok) (ty : String) (hty : ty = "str_ascii_iterator" ∨ ty = "str_iterator") (e it : Addr) :
    Turn P w K (.Tuple elts kk tpos) (Ites x) [e, it] e (fun i h => (∃ old, IsEnum h e it ((i : Nat) : Int) old) ∧ h.IsStrIter it ty x t i ∧ e ≠ it ∧ i ≤ x.cps.size) where
  mem := by simp
  obj := by
    intro i h st b hb
    obtain ⟨⟨old, he⟩, ⟨oi, hoi, _, hdi⟩, _⟩ := st
    rcases (show b = e ∨ b = it by simpa using hb) with rfl | rfl
    · exact ⟨_, he, by intro v q; cases q⟩
    · exact ⟨oi, hoi, by intro v q; rw [hdi] at q; cases q⟩
  keep := by
    intro i h h' st k
    obtain ⟨⟨old, he⟩, ⟨oi, hoi, hr⟩, hne⟩ := st
    exact ⟨⟨old, k e (by simp) _ he⟩, ⟨oi, k it (by simp) oi hoi, hr⟩, hne⟩
  item := by
    intro X hP hw hK hc i pins s σ H E I hf st hlt
    subst hP hw hK
    obtain ⟨⟨old, he⟩, hit, hne, _⟩ := st
    have hel : e < s.heap.objs.size := Heap.lt_size he
    have hil : it < s.heap.objs.size := by
      obtain ⟨_, q, _⟩ := id hit
      exact Heap.lt_size q
    have DD : Draws X.prog X.w X.A.in1 it [it] x.cps.size (fun i v => ∃ c u, x.cps[i]? = some c ∧ v = .str ⟨#[c]⟩ u) (fun i h => h.IsStrIter it ty x t i) := by
      have hh : X.A.in1.handled = none := I.ok.hd hc
      rcases hty with rfl | rfl
      · exact Draws.strAscii hh it x t
      · exact Draws.strWide hh it x t
    refine wpAny_pyNext_enum_itemD DD he hit hlt hne (by simpa using hne) fun v h' tk hv ho st' hT hsz hk => ?_
    obtain ⟨c, u, hcx, rfl⟩ := hv
    refine ⟨_, rfl, wpAny_letOwnedTupleGo_enum (s := { s with heap := h', toks := tk + 1 }) ho fun h'' he' sb => ?_⟩
    have hT2 := (sb.2 _ (Nat.ne_of_gt hel)).trans hT
    have new : ObjOk X.prog X.w (upd H s.heap.objs.size (.tup [.int (i : Nat), .str ⟨#[c]⟩])) h'' s.heap.objs.size (.tup [.int (i : Nat), .str ⟨#[c]⟩]) := by
      refine ⟨by show 2 ≤ sizeLine; decide, [.int i tk, .str ⟨#[c]⟩ u], .cons ⟨_, rfl⟩ (.cons ⟨_, rfl⟩ .nil), ?_⟩
      exact ⟨_, hT2, rfl, _, rfl⟩
    have I1 : Inv X pins σ (upd H s.heap.objs.size (.tup [.int (i : Nat), .str ⟨#[c]⟩])) { s with heap := h'', toks := tk + 1 } := by
      refine I.turnedNew (ch := [e, it]) (fun b ob hb q => ?_) hf (Nat.le_refl _) new
      have h1 : b ≠ e := fun z => hb (by simp [z])
      have h2 : b ≠ it := fun z => hb (by simp [z])
      exact (sb.2 b h1).trans (hk b ob h1 h2 q)
    refine ⟨.ref s.heap.objs.size, _, I1, rfl, ⟨_, c, rfl, I.hok.fresh (Nat.le_refl _), hcx, rfl⟩, ⟨⟨.str ⟨#[c]⟩ u, ?_⟩, ?_, hne, hlt⟩, ?_⟩
    · have e1 : ((i + 1 : Nat) : Int) = (i : Int) + 1 := by omega
      rw [e1]
      exact he'
    · obtain ⟨o2, q1, q2⟩ := st'
      exact ⟨o2, (sb.2 it (Ne.symm hne)).trans q1, q2⟩
    · intro b hb
      have hb' : b < s.heap.objs.size := by
        rcases (show b = e ∨ b = it by simpa using hb) with rfl | rfl
        · exact hel
        · exact hil
      rw [upd_ne (Nat.ne_of_lt hb')]
      exact (hf b hb).1
  done := by
    intro X hP hw hK hc i pins s σ H E I hf st hge
    subst hP hw hK
    obtain ⟨⟨old, he⟩, hit, hne, hle⟩ := st
    obtain ⟨f0, f1, f2, f3, f4, f5⟩ := hf it (by simp)
    have hh : X.A.in1.handled = none := I.ok.hd hc
    have DD : Draws X.prog X.w X.A.in1 it [it] x.cps.size (fun i v => ∃ c u, x.cps[i]? = some c ∧ v = .str ⟨#[c]⟩ u) (fun i h => h.IsStrIter it ty x t i) := by
      rcases hty with rfl | rfl
      · exact Draws.strAscii hh it x t
      · exact Draws.strWide hh it x t
    have ei : i = x.cps.size := Nat.le_antisymm hle hge
    subst ei
    refine wpAny_pyNext_enum_endD DD he hit fun h' eb => ⟨rfl, ?_⟩
    exact I.turned (t' := s.toks) (fun b o hb q => eb b o hb q) f0 f1 f3 f4 f5
  self := by
    intro A i s Q E st h
    obtain ⟨⟨_, he⟩, _⟩ := st
    exact wpAny_pyIter_enum he h
def iEnumS (ta : TA) : TI := fun σ H R => ta σ H fun vs H1 => ∃ x, vs = [.str x] ∧ R (Ites x) H1
theorem pi_enumS {X : Cx} {e : Expr} {ta : TA} {p pos tpos : Pos} {elts : List Expr} {kk : Nat} (hg : Gl X "enumerate") (hm : X.mg "enumerate" = none) (ha : PA X [e] ta) (hs : starEach [e] X.env = [(false, eval e X.env)] := by rfl) :
    PI X (.Tuple elts kk tpos) (.Call (.Name "enumerate" p) [e] [] pos) (iEnumS ta) := by
  refine ⟨fun pins s σ H R I h => ?_⟩
  refine Call_ (ld_blt I hg hm boot_enumerate (PyProof.Rows.callWith_type1 (thn (ha.run pos pins s σ H _ I h) fun us s1 q0 => ?_) hs rfl))
  obtain ⟨vs, H1, I1, r1, x, ex, q⟩ := q0
  subst ex
  cases r1 with
  | cons r rr =>
    cases rr
    obtain ⟨t, rfl⟩ := r
    refine call_enumerate_str fun h' he hit hsz hk => wpAny_pyIter_enum he ?_
    have I2 : Inv X pins σ H1 { s1 with heap := h' } := I1.kept (t' := s1.toks) hk
    have hty : strIterType x = "str_ascii_iterator" ∨ strIterType x = "str_iterator" := by
      unfold strIterType
      split
      · exact .inl rfl
      · exact .inr rfl
    refine ⟨s1.heap.objs.size + 1, [s1.heap.objs.size + 1, s1.heap.objs.size], _, _, H1, rfl, I2, turn_enumS x t (strIterType x) hty (s1.heap.objs.size + 1) s1.heap.objs.size, ⟨⟨.none, he⟩, hit, Nat.succ_ne_self _, Nat.zero_le _⟩, fun b hb => ?_, q⟩
    have hle : s1.heap.objs.size ≤ b := by
      rcases (show b = s1.heap.objs.size + 1 ∨ b = s1.heap.objs.size by simpa using hb) with rfl | rfl
      · exact Nat.le_add_right _ _
      · exact Nat.le_refl _
    exact I1.fpOk hle (I1.hok.fresh hle)
theorem walk_enumS {x : Str} : Walk (Ites x) x.cps.size (fun _ => True) (fun i H v H' => ∃ T c, v = .ref T ∧ H T = none ∧ x.cps[i]? = some c ∧ H' = upd H T (.tup [.int (i : Nat), .str ⟨#[c]⟩])) :=
  ⟨fun _ _ hi _ => hi, fun _ _ => Nat.le_refl _, fun _ _ _ _ _ _ y => y⟩
end Hy
namespace Hy
open PySem PySem.Spec PyProof.Rows L2
/-- a, b = a text of two (ASCII) signs -/
def gUn2 (t : TGs) : TG := fun v σ H Q => ∃ c d : Nat, v = .str ⟨#[c, d]⟩ ∧ c < 128 ∧ d < 128 ∧ t [.str ⟨#[c]⟩, .str ⟨#[d]⟩] σ H Q
theorem unpackItems_two {prog : Program} {w : World} {A : Around} {E : Value → Shared → Prop} {s : Shared} {c d : Nat} {t : Tok} {Q : List Value → Shared → Prop} (hh : A.handled = none) (hc : c < 128) (hd : d < 128)
    (hQ : ∀ h' tk t1 t2, (∀ b o, s.heap.get? b = some o → h'.get? b = some o) → Q [.str ⟨#[c]⟩ t1, .str ⟨#[d]⟩ t2] { s with heap := h', toks := tk }) : wpAny (model prog w) A (unpackItems (.str ⟨#[c, d]⟩ t) 2 none) Q E s := by
  unfold unpackItems
  refine wpAny_bind ?_
  unfold notIterableAtAll
  refine wpAny_bind (wpAny_specialOf (typeIs_str s _ t) F.slot_str_iter.lookup ?_)
  refine wpAny_pure ?_
  simp only [Bool.false_eq_true, if_false]
  have ha : (⟨#[c, d]⟩ : Str).cps.all (· < 128) = true := by simp [hc, hd]
  refine wpAny_bind (wpAny_holding (wpAny_pyIter_ascii ha ?_))
  generalize hs1 : s.heap.push { cls := .type "str_ascii_iterator", data := .fields #[.str ⟨#[c, d]⟩ t, .int 0 0] } = h1
  have i1 : h1.IsStrIter s.heap.objs.size "str_ascii_iterator" ⟨#[c, d]⟩ t 0 := by
    rw [← hs1]
    exact ⟨_, Heap.get?_push_size _ rfl, rfl, rfl⟩
  have k1 : ∀ b o, s.heap.get? b = some o → h1.get? b = some o := fun b o e => by
    rw [← hs1]
    exact Heap.get?_push_of_some _ e
  have ne : ∀ b o, s.heap.get? b = some o → b ≠ s.heap.objs.size := fun b o e => Nat.ne_of_lt (Heap.lt_size e)
  refine wpAny_bind (wpAny_holding ?_)
  show wpAny _ _ (pyNext (.ref s.heap.objs.size) >>= _) _ _ _
  refine wpAny_bind (wpAny_pyNext_ascii_item (s := { s with heap := h1 }) (c := c) i1 (by simp) fun h2 i2 sb2 => ?_)
  refine wpAny_bind (wpAny_holding ?_)
  show wpAny _ _ (pyNext (.ref s.heap.objs.size) >>= _) _ _ _
  refine wpAny_bind (wpAny_pyNext_ascii_item (s := { s with heap := h2, toks := s.toks + 1 }) (c := d) i2 (by simp) fun h3 i3 sb3 => ?_)
  refine wpAny_bind (wpAny_holding ?_)
  show wpAny _ _ (pure []) _ _ _
  refine wpAny_pure (wpAny_pure (wpAny_pure ?_))
  show wpAny _ _ (if 2 < 2 then _ else _) _ _ _
  rw [if_neg (Nat.lt_irrefl 2)]
  refine wpAny_bind (wpAny_holding (wpAny_pyNext_ascii_end (s := { s with heap := h3, toks := s.toks + 1 + 1 }) hh i3 (by simp) fun h4 eb => ?_))
  simp only [Option.isSome_none, Bool.false_eq_true, if_false]
  refine wpAny_pure (hQ h4 _ _ _ fun b o e => ?_)
  have e1 := k1 b o e
  have n1 := ne b o e
  exact eb b o n1 ((sb3.2 b n1).trans ((sb2.2 b n1).trans e1))
section
variable {X : Cx} {pos : Pos}
theorem pg_un2 {es : List Expr} {k : Nat} {t : TGs} (hc : X.calm = true) (h : PGs X es t) (hn : (assignEach es X.env).length = 2 := by rfl) (hst : (assignEach es X.env).findIdx? (·.1) = none := by rfl) : PG X (.Tuple es k pos) (gUn2 t) := by
  refine ⟨fun pins s σ H v u Q I r hw => ?_⟩
  obtain ⟨c, d, rfl, h1, h2, hw⟩ := hw
  obtain ⟨tk, rfl⟩ := r
  rw [PyProof.Rows.assign_Tuple]
  refine wpAny_bind (wpAny_standAt ?_)
  unfold unpack
  rw [hn, hst]
  refine wpAny_bind (wpAny_holding (unpackItems_two (I.ok.hd hc) h1 h2 fun h' tk' t1 t2 kp => ?_))
  exact h.run pins _ σ H [.str ⟨#[c]⟩, .str ⟨#[d]⟩] _ Q (I.kept (t' := tk') kp) (.cons ⟨_, rfl⟩ (.cons ⟨_, rfl⟩ .nil)) hw
end
end Hy
namespace Hy
open PySem PySem.Spec PyProof.Rows L2
section
variable {X : Cx}
/-- k goes into the set at D -/
theorem key_added {pins : List (Addr × Obj)} {σ : L2.St} {H : Hp} {s : Shared} {E : Value → Shared → Prop} {D : Addr} {S : Key → Bool} {n : Nat} {k : Key} {u : Value} {Q : Value → Shared → Prop} (I : Inv X pins σ H s) (hD : H D = some (SetK X.prog X.w D S n)) (room : n + 1 < scanBound)
    (ru : RelV (kV k) u) (h : ∀ s', Inv X pins σ (upd H D (SetK X.prog X.w D (fun j => S j || decide (j = k)) (if S k = true then n else n + 1))) s' → Q .none s') : wpAny (model X.prog X.w) X.A (call (.builtin "set.add") [.ref D, u]) Q E s := by
  refine call_set_add (kV_is ru) (key_scan ru) (setK_get I hD) room fun h' sb new => h _ ?_
  obtain ⟨o, _, _, _, ho, _⟩ := id new
  exact I.write (e := D) (t' := s.toks + 1) (by rw [hD]; trivial) (.inl rfl) (fun b u hb hu => (sb.2 b hb).trans hu) ⟨o, ho⟩ (setK_new new)
abbrev noKeys (P : Program) (w : World) (D : Addr) : HO := SetK P w D (fun _ => false) 0
/-- the reading: D the new set -/
def tScK (P : Program) (w : World) (wi : TI) (g : TG) (tt : TT) (te : TE) (vs : List Nat) : TE := fun σ H Q => wi σ H fun J H1 => ∀ D, H1 D = none → ∃ W : Nat → Nat → Hp → Prop, (∃ m, W 0 m (upd H1 D (noKeys P w D))) ∧ ∀ i m H, W i m H →
  (J.stop i H ∧ Q (.ref D) H) ∨ (J.go i H ∧ ∃ Nx : Hp → Prop, (∀ H', Nx H' → ∃ m', m' < m ∧ W (i + 1) m' H') ∧ ∀ x H', J.yld i H x H' → g x (wipe σ vs) H' fun σ2 H2 => wipe σ2 vs = wipe σ vs ∧ tt σ2 H2 fun b H3 =>
    if b = true then te σ2 H3 fun y H4 => ∃ (k : Key) (S : Key → Bool) (n : Nat), y = kV k ∧ H4 D = some (SetK P w D S n) ∧ n + 1 < scanBound ∧ Nx (upd H4 D (SetK P w D (fun j => S j || decide (j = k)) (if S k = true then n else n + 1))) else Nx H3)
theorem pe_scK {elt tg iter : Expr} {ifs : List Expr} {scope : Scope} {own : List (PySem.Str × Nat)} {pos : Pos} {wi : TI} {g : TG} {tt : TT} {te : TE} (hc : X.calm = true) (hN : X.N.Nodup) (hi : PI X tg iter wi) (ok : BlkOk X.N X.env.scope scope own)
    (hg : ∀ (s : Shared) (H : Hp) (C : Addr) (cl : List (PySem.Str × Addr)) (fp : List Addr), PG (X.blk s H scope (compEnvC scope cl C X.env) fp) tg g) (ht : ∀ (s : Shared) (H : Hp) (C : Addr) (cl : List (PySem.Str × Addr)) (fp : List Addr), PTs (X.blk s H scope (compEnvC scope cl C X.env) fp) ifs tt)
    (he : ∀ (s : Shared) (H : Hp) (C : Addr) (cl : List (PySem.Str × Addr)) (fp : List Addr), PE (X.blk s H scope (compEnvC scope cl C X.env) fp) elt te) (hs : ∀ x, foldedSetIterable iter X.env x = pure x := by intro _; rfl) :
    PE X (.SetComp elt [⟨tg, iter, ifs, 0⟩] scope pos) (tScK X.prog X.w wi g tt te (own.map (·.2))) := by
  refine ⟨fun pins s σ H Q I h => ?_⟩
  rw [PpSet.eval_SetComp]
  have hfree : ∀ y ∈ scope.names, y.2 = .free → ∃ c, X.env.cells.lookup y.1 = some c := by
    intro y hy e
    rcases ok.free y hy e with z | z
    · exact I.ok.has _ (.inl z)
    · exact I.ok.has _ (.inr z)
  refine wpAny_comprehension_free (use := Option.none) rfl hs (closure_ok hfree) ok.kind (fun y hy e => by rw [ok.uniq y hy, e]) ?_
  refine thn (hi.run pins s σ H _ I h) fun xv s1 hx => thn hx fun itv s2 h2 => ?_
  obtain ⟨it, fp, tn, J, H2, e, I2, T, st2, f2, q⟩ := h2
  subst e
  refine PpSet.newSet_ok (newEnv_comp ?_)
  generalize hD : s2.heap.objs.size = D
  have hDn : H2 D = none := I2.hok.fresh (Nat.le_of_eq hD)
  obtain ⟨W, ⟨m0, w0⟩, turn⟩ := q D hDn
  generalize hs3 : ({ s2 with heap := s2.heap.push { cls := .type "set", dict := none, data := .set #[] 0 (.fresh 0 0 (!X.w.params.followText "set-order")) } } : Shared) = s3
  have h3 : s3.heap = s2.heap.push { cls := .type "set", dict := none, data := .set #[] 0 (.fresh 0 0 (!X.w.params.followText "set-order")) } := by rw [← hs3]
  have I3 : Inv X pins σ (upd H2 D (noKeys X.prog X.w D)) s3 := by
    rw [← hs3]
    refine I2.laid (t' := s2.toks) (fun b o e => Heap.get?_push_of_some _ e) (Nat.le_of_eq hD) ?_
    rw [← hD]
    refine setK_new ?_
    exact ⟨_, #[], 0, _, Heap.get?_push_size _ rfl, ⟨rfl, rfl, rfl⟩, rfl, (fun e he => by simp at he), (fun k => by simp), (by decide), (by rfl), rfl⟩
  have hne : ∀ b ∈ fp, b ≠ D := fun b hb => by
    obtain ⟨o, e, _⟩ := T.obj _ _ st2 b hb
    rw [← hD]
    exact Nat.ne_of_lt (Heap.lt_size e)
  have hlt : ∀ b ∈ fp, b < s3.heap.objs.size := fun b hb => by
    obtain ⟨o, e, _⟩ := T.obj _ _ st2 b hb
    rw [h3, Heap.size_push]
    exact Nat.lt_succ_of_lt (Heap.lt_size e)
  have f3 : ∀ b ∈ fp, FpOk X pins (upd H2 D (noKeys X.prog X.w D)) b ∧ b < s3.heap.objs.size := fun b hb =>
    ⟨⟨by rw [upd_ne (hne b hb)]; exact (f2 b hb).1, (f2 b hb).2⟩, hlt b hb⟩
  have st3 : tn 0 s3.heap := T.keep _ _ _ st2 fun b _ o e => by
    rw [h3]
    exact Heap.get?_push_of_some _ e
  have I4 := block_start I3 ok hN f3
  generalize hcl : cellsFrom (s3.heap.objs.size + 1) scope.names (cloFrom X.env.cells scope.names []) = cl at I4
  have pg := hg s3 (upd H2 D (noKeys X.prog X.w D)) s3.heap.objs.size cl fp
  have pt := ht s3 (upd H2 D (noKeys X.prog X.w D)) s3.heap.objs.size cl fp
  have pe := he s3 (upd H2 D (noKeys X.prog X.w D)) s3.heap.objs.size cl fp
  show codeAny _ _ (.compStart (.SetComp elt [⟨tg, iter, ifs, 0⟩] scope pos) 0 (.ref it) (.ref D) (compEnvC scope cl s3.heap.objs.size X.env)) (compPost (model X.prog X.w) X.A X.xe none (EP X pins σ Q) (.ref D) s3.heap.objs.size) { s3 with heap := pushCells (s3.heap.push { cls := .type "dict", data := .dict #[] }) scope.names }
  have nfp : ∀ b ∈ fp, (upd H2 D (noKeys X.prog X.w D)) b = none := fun b hb => (f3 b hb).1.1
  generalize hce : compEnvC scope cl s3.heap.objs.size X.env = ce at I4 pg pt pe ⊢
  have cL : ce.locals = s3.heap.objs.size := by
    subst hce
    rfl
  generalize hH3 : upd H2 D (noKeys X.prog X.w D) = H3 at I3 I4 pg pt pe w0 nfp f3
  generalize hs4 : ({ s3 with heap := pushCells (s3.heap.push { cls := .type "dict", data := .dict #[] }) scope.names } : Shared) = s4 at I4 ⊢
  have st4 : tn 0 s4.heap := T.keep _ _ _ st3 fun b _ o e => by
    rw [← hs4]
    exact pushCells_keeps _ _ _ _ (Heap.get?_push_of_some _ e)
  have stat : ∀ {σ' : L2.St} {H' : Hp} {s' : Shared}, Inv (X.blk s3 H3 scope ce fp) [] σ' H' s' → (∀ b ∈ fp, H' b = none) → ∀ b ∈ fp, FpOk (X.blk s3 H3 scope ce fp) [] H' b := by
    intro σ' H' s' I' hn b hb
    refine ⟨hn b hb, (I'.ok.exf b hb).1, I'.ok.exfs b hb, .inl hb, fun x c e => (I'.ok.exf b hb).2 x c e, fun p hp => ?_⟩
    exact absurd (show p ∈ ([] : List (Addr × Obj)) ++ [] from hp) (by simp)
  have loop : codeAny (model X.prog X.w) X.A (.compLoop (.SetComp elt [⟨tg, iter, ifs, 0⟩] scope pos) 0 (.ref it) (.ref D) ce) (compPost (model X.prog X.w) X.A X.xe none (EP X pins σ Q) (.ref D) s3.heap.objs.size) s4 := by
    refine PpSet.compLoopS_any (fun n s' => ∃ i H', Inv (X.blk s3 H3 scope ce fp) [] (wipe σ (own.map (·.2))) H' s' ∧ tn i s'.heap ∧ (∀ b ∈ fp, H' b = none) ∧ W i n H') ?_ m0 ⟨0, H3, I4, st4, nfp, w0⟩
    rintro n s5 ⟨i, H5, I5, st5, n5, w5⟩
    rcases turn i n H5 w5 with ⟨stop, qq⟩ | ⟨go, Nx, hNx, step⟩
    · refine thnF (T.done (X.blk s3 H3 scope ce fp) rfl rfl rfl hc i [] s5 _ H5 (fun _ _ => False) I5 (stat I5 n5) st5 stop) fun r s6 ⟨hr, I6⟩ => ?_
      subst hr
      have I7 : Inv X pins σ H5 s6 := I3.call' (ch := fp) I6.os I6.base I6.hok I6.bare fun b hb =>
        ⟨(f3 b hb).1.2.2.2.1, (f3 b hb).1.2.1, (f3 b hb).1.2.2.2.2.1, (f3 b hb).1.2.2.2.2.2⟩
      have nC : H5 s3.heap.objs.size = none := by
        have z : H5 ce.locals = none := I6.free
        rw [cL] at z
        exact z
      obtain ⟨m, hn, _⟩ := I6.loc
      have hn2 : s6.heap.Ns s3.heap.objs.size m := by
        have hn' : s6.heap.Ns ce.locals m := hn
        rw [cL] at hn'
        exact hn'
      obtain ⟨f0, f1, f2', f3', f4, f5⟩ := I3.fpOk (Nat.le_refl _) nC
      refine ⟨m, hn2, fun h'' sb => ?_⟩
      exact ⟨.ref D, H5, I7.turned (t' := s6.toks) (fun b o hb e => (sb.2 b hb).trans e) f0 f1 f3' f4 f5, rfl, qq⟩
    · refine thnF (T.item (X.blk s3 H3 scope ce fp) rfl rfl rfl hc i [] s5 _ H5 (fun _ _ => False) I5 (stat I5 n5) st5 go) fun r s6 ⟨u, hr, h6⟩ => ?_
      subst hr
      refine thnF h6 fun _ s7 ⟨x, H7, I7, r7, y7, st7, n7⟩ => ?_
      have I7' := I7.pinned (stat I7 n7) (T.obj _ _ st7)
      refine thnF (pg.run _ s7 _ H7 x u _ I7' r7 (step x H7 y7)) fun _ s8 ⟨σ8, H8, I8, hw8, q8⟩ => ?_
      refine thnF (pt.run _ s8 σ8 H8 _ I8 q8) fun b s9 ⟨H9, I9, q9⟩ => ?_
      have fin : ∀ {s' : Shared} {H' : Hp}, Inv (X.blk s3 H3 scope ce fp) ([] ++ pinsAt fp s7.heap) σ8 H' s' → Nx H' → ∃ m, m < n ∧ ∃ i H', Inv (X.blk s3 H3 scope ce fp) [] (wipe σ (own.map (·.2))) H' s' ∧ tn i s'.heap ∧ (∀ b ∈ fp, H' b = none) ∧ W i m H' := by
        intro s' H' I' nx
        obtain ⟨m', hm, w'⟩ := hNx H' nx
        have pin' : ∀ b ∈ fp, ∀ o, s7.heap.get? b = some o → s'.heap.get? b = some o ∧ H' b = none := by
          intro b hb o e
          have z := I'.pin (b, o) (List.mem_append_right _ (List.mem_append_right _ (mem_pinsAt hb e)))
          exact ⟨z.1, z.2.1⟩
        have hl : (wipe σ (own.map (·.2))).length = σ8.length := by rw [← hw8, wipe_length]
        refine ⟨m', hm, i + 1, H', (I'.unpinned (pins := [])).weak hl (fun j v e => ?_), T.keep _ _ _ st7 fun b hb o e => (pin' b hb o e).1, fun b hb => ?_, w'⟩
        · rw [← hw8] at e
          exact (wipe_some e).1
        · obtain ⟨o, e, _⟩ := T.obj _ _ st7 b hb
          exact (pin' b hb o e).2
      cases b with
      | false =>
        simp only [Bool.false_eq_true, if_false] at q9 ⊢
        exact fin I9 q9
      | true =>
        simp only [if_true] at q9 ⊢
        refine thnF (pe.run _ s9 σ8 H9 _ I9 q9) fun z s10 ⟨yv, H10, I10, r10, k, S0, n0, ey, hD10, hz10, nx⟩ => ?_
        subst ey
        exact key_added (X := X.blk s3 H3 scope ce fp) I10 hD10 hz10 r10 fun s11 I11 => fin I11 nx
  exact PpSet.codeAny_compStart_set loop (T.self X.A 0 _ _ _ st4 loop)
/-- len of such a set -/
def rLenK (P : Program) (w : World) : List V → Hp → VK → Prop := fun xs H Q => ∃ (a : Addr) (S : Key → Bool) (n : Nat), xs = [V.ref a] ∧ H a = some (SetK P w a S n) ∧ n < 1000000 ∧ Q (.int n) H
theorem call_lenK : CallR X (.builtin "len") (rLenK X.prog X.w) := by
  intro pins s σ H xs us Q I r h
  obtain ⟨a, S, n, rfl, ha, hn, q⟩ := h
  cases r with
  | cons r1 rr =>
    cases rr
    cases r1
    have R := setK_get I ha
    obtain ⟨o, es, ep, t, ho, he, hd, _, _, hz, hf, hsz⟩ := R
    have hz' : es.size = n := hsz
    refine call_len_set ho he hd hf (by rw [hz']; omega) ⟨.int n, H, I.tok _, ⟨_, by rw [hz']⟩, q⟩
end
end Hy
namespace Hy
open PySem PySem.Spec PyProof.Rows L2
def fdat : V → PyData
  | .bl b => .bool b
  | .int i => .int i
  | .str x => .str x
  | _ => .none
def kdat : Key → PyData
  | .inl i => .int i
  | .inr x => .str x
theorem fdat_reads {h : Heap} {x : V} {u : Value} (f : flatV x = true) (r : RelV x u) : Reads h u (fdat x) [] := by
  cases x with
  | non =>
    cases r
    exact .none
  | bl b =>
    cases r
    exact .bool b
  | int i =>
    obtain ⟨t, rfl⟩ := r
    exact .int i t
  | str y =>
    obtain ⟨t, rfl⟩ := r
    exact .str y t
  | byt _ => cases f
  | flt _ => cases f
  | ref _ => cases f
  | ty _ => cases f
theorem kdat_reads {h : Heap} {k : Key} {u : Value} (r : RelV (kV k) u) : Reads h u (kdat k) [] := by
  cases k with
  | inl i =>
    obtain ⟨t, rfl⟩ := r
    exact .int i t
  | inr y =>
    obtain ⟨t, rfl⟩ := r
    exact .str y t
theorem fdats_reads {h : Heap} : ∀ {xs : List V} {us : List Value}, Vals xs us → xs.all flatV = true → ReadsAll h us (xs.map fdat) []
  | _, _, .nil, _ => .nil
  | _, _, .cons r rr, f => by
    rw [List.all_cons, Bool.and_eq_true] at f
    exact ReadsAll.cons (as := []) (bs := []) (fdat_reads f.1 r) (fdats_reads rr f.2)
/-- what the object at a shows -/
inductive Shows (H : Hp) (a : Addr) : PyData → Prop where
  | tup (xs : List V) (h : H a = some (.tup xs)) (f : xs.all flatV = true) : Shows H a (.tuple (xs.map fdat))
  | dct (kvs : List (Key × V)) (h : H a = some (.dK kvs)) (f : (kvs.map (·.2)).all flatV = true) : Shows H a (.dict (kvs.map fun p => (kdat p.1, fdat p.2)))
section
variable {X : Cx}
theorem kv_reads {P : Program} {w : World} {h : Heap} {kvs : List (Key × V)} {vs : List (Key × Value)} {es : List DictEntry} (r : KV kvs vs) (p : Pairs (mixKind P w) es vs) (f : (kvs.map (·.2)).all flatV = true) :
    ReadsAll h (es.map (·.key)) (kvs.map fun p => kdat p.1) [] ∧ ReadsAll h (es.map (·.val)) (kvs.map fun p => fdat p.2) [] := by
  induction r generalizing es with
  | nil =>
    cases p
    exact ⟨.nil, .nil⟩
  | @cons q z qs zs hq t ih =>
    cases p with
    | cons h1 h2 tp =>
      simp only [List.map_cons, List.all_cons, Bool.and_eq_true] at f
      obtain ⟨i1, i2⟩ := ih tp f.2
      obtain ⟨e1, e2⟩ := hq
      refine ⟨ReadsAll.cons (as := []) (bs := []) (kdat_reads ?_) i1, ReadsAll.cons (as := []) (bs := []) (fdat_reads f.1 ?_) i2⟩
      · rw [e1]
        exact relV_key h1
      · have := h2
        exact Eq.mpr (congrArg (RelV q.2) h2) e2
theorem shows_reads {pins : List (Addr × Obj)} {σ : L2.St} {H : Hp} {s : Shared} {a : Addr} {d : PyData} (I : Inv X pins σ H s) (h : Shows H a d) : ∃ as, Reads s.heap (.ref a) d as ∧ (d.hasDict = true → sysModules ∉ as) := by
  cases h with
  | tup xs h f =>
    obtain ⟨_, its, r, o, ho, hc, n, hd⟩ := (show ObjOk X.prog X.w H s.heap a (.tup xs) from I.hok a _ h)
    have rd : Reads s.heap (.ref a) (.tuple (xs.map fdat)) [] := .tuple ho hc hd (by simpa using fdats_reads (h := s.heap) r f)
    exact ⟨[], rd, fun _ z => by cases z⟩
  | dct kvs h f =>
    obtain ⟨_, hs, vs, r, o, es, ep, ho, hx, hd, _, hp, _⟩ := (show ObjOk X.prog X.w H s.heap a (.dK kvs) from I.hok a _ h)
    obtain ⟨r1, r2⟩ := kv_reads (h := s.heap) r hp f
    have rd : Reads s.heap (.ref a) (.dict (kvs.map fun p => (kdat p.1, fdat p.2))) (a :: [] ++ []) := by
      refine .dict ho hx.1 hd ?_ ?_
      · rw [List.map_map]
        exact r1
      · rw [List.map_map]
        exact r2
    refine ⟨_, rd, fun _ z => ?_⟩
    have e : sysModules = a := by simpa using z
    rw [← e] at hs
    simp at hs
/-- repr(x) -/
def rRepr : List V → Hp → VK → Prop := fun xs H Q => ∃ a d, xs = [.ref a] ∧ Shows H a d ∧ d.showable = true ∧ d.depth ≤ 8 ∧ d.shown.length ≤ sizeLine ∧ Q (.str d.shown) H
theorem call_repr_ref (hg : X.A.guards = some []) (hu : X.A.units + 64 < cLine) : CallR X (.builtin "repr") rRepr := by
  intro pins s σ H xs us Q I r h
  obtain ⟨a, d, rfl, hs, hsh, hdp, hz, q⟩ := h
  cases r with
  | cons r1 rr =>
    cases rr
    cases r1
    obtain ⟨as, rd, hsm⟩ := shows_reads I hs
    exact repr_of_reads' rd hsh hsm hg (by omega) (fun _ _ e => e) (fun h' u tk hk => ⟨.str d.shown, H, I.kept (t' := tk) hk, ⟨u, rfl⟩, q⟩) hz
end
end Hy
namespace Hy
open PySem PySem.Spec PyProof.Rows L2
inductive KyS where
  | l
  | pt
  | pl
def kyD (c : KyS) (k : Int × List Int) : PyData := match c with
  | .l => .list (k.2.map .int)
  | .pt => .tuple [.int k.1, .tuple (k.2.map .int)]
  | .pl => .tuple [.int k.1, .list (k.2.map .int)]
def KyAt (H : Hp) (c : KyS) (v : V) (k : Int × List Int) : Prop := match c with
  | .l => ∃ p, v = .ref p ∧ H p = some (.lst (k.2.map V.int))
  | .pt => ∃ p q, v = .ref p ∧ H p = some (.tup [.int k.1, .ref q]) ∧ H q = some (.tup (k.2.map V.int))
  | .pl => ∃ p q, v = .ref p ∧ H p = some (.tup [.int k.1, .ref q]) ∧ H q = some (.lst (k.2.map V.int))
theorem KyAt.mono {b : Fb} {H H' : Hp} {c : KyS} {v : V} {k : Int × List Int} (e : Fm b H H') (h : KyAt H c v k) : KyAt H' c v k := by
  cases c with
  | l =>
    obtain ⟨p, h1, h2⟩ := h
    exact ⟨p, h1, e.lst h2⟩
  | pt =>
    obtain ⟨p, q, h1, h2, h3⟩ := h
    exact ⟨p, q, h1, e.tup h2, e.tup h3⟩
  | pl =>
    obtain ⟨p, q, h1, h2, h3⟩ := h
    exact ⟨p, q, h1, e.tup h2, e.lst h3⟩
theorem ints_reads {h : Heap} : ∀ {ns : List Int} {us : List Value}, Vals (ns.map V.int) us → ReadsAll h us (ns.map .int) []
  | [], _, .nil => .nil
  | n :: ns, _, .cons r t => by
    obtain ⟨tk, rfl⟩ := r
    exact ReadsAll.cons (as := []) (bs := []) (.int n tk) (ints_reads t)
section
variable {X : Cx} {pins : List (Addr × Obj)} {σ : L2.St} {H : Hp} {s : Shared}
theorem lst_reads (I : Inv X pins σ H s) {p : Addr} {ns : List Int} (h : H p = some (.lst (ns.map V.int))) : ∃ as, Reads s.heap (.ref p) (.list (ns.map .int)) as := by
  obtain ⟨z, its, n, r, e⟩ := (show ObjOk X.prog X.w H s.heap p (.lst (ns.map V.int)) from I.hok p _ h)
  exact ⟨_, .list e rfl rfl (by simpa using ints_reads (h := s.heap) r)⟩
theorem tup_reads (I : Inv X pins σ H s) {p : Addr} {ns : List Int} (h : H p = some (.tup (ns.map V.int))) : Reads s.heap (.ref p) (.tuple (ns.map .int)) [] := by
  obtain ⟨z, its, r, o, ho, hc, n, hd⟩ := (show ObjOk X.prog X.w H s.heap p (.tup (ns.map V.int)) from I.hok p _ h)
  exact .tuple ho hc hd (by simpa using ints_reads (h := s.heap) r)
theorem pair_reads (I : Inv X pins σ H s) {p q : Addr} {m : Int} {d : PyData} {as : List Addr} (h : H p = some (.tup [.int m, .ref q])) (hq : Reads s.heap (.ref q) d as) : ∃ as, Reads s.heap (.ref p) (.tuple [.int m, d]) as := by
  obtain ⟨z, its, r, o, ho, hc, n, hd⟩ := (show ObjOk X.prog X.w H s.heap p (.tup [.int m, .ref q]) from I.hok p _ h)
  cases r with
  | cons r1 t1 =>
    cases t1 with
    | cons r2 t2 =>
      cases t2
      obtain ⟨tk, rfl⟩ := r1
      cases r2
      exact ⟨_, .tuple ho hc hd (.cons (.int m tk) (.cons hq .nil))⟩
theorem KyAt.reads (I : Inv X pins σ H s) {c : KyS} {v : V} {u : Value} {k : Int × List Int} (h : KyAt H c v k) (r : RelV v u) : ∃ as, Reads s.heap u (kyD c k) as := by
  cases c with
  | l =>
    obtain ⟨p, rfl, h2⟩ := h
    cases r
    exact lst_reads I h2
  | pt =>
    obtain ⟨p, q, rfl, h2, h3⟩ := h
    cases r
    exact pair_reads I h2 (tup_reads I h3)
  | pl =>
    obtain ⟨p, q, rfl, h2, h3⟩ := h
    cases r
    obtain ⟨as, h4⟩ := lst_reads I h3
    exact pair_reads I h2 h4
end
theorem ky_alike (c : KyS) {β : Type} (k : β → Int × List Int) (bs : List β) : PySem.W.AllAlike (bs.map fun x => kyD c (k x)) := by
  refine PySem.W.AllAlike.of (enc := fun x => kyD c (k x)) fun x y => ?_
  have h := PySem.W.alike_ints (k x).2 (k y).2
  cases c with
  | l => simpa [kyD, PySem.W.alike] using h
  | pt => simpa [kyD, PySem.W.alike, PySem.W.alikeAll] using h
  | pl => simpa [kyD, PySem.W.alike, PySem.W.alikeAll] using h
theorem ky_sortable (c : KyS) {β : Type} (k : β → Int × List Int) (bs : List β) : PySem.W.Sortable (bs.map fun x => kyD c (k x)) := by
  cases c with
  | l => exact PySem.W.Sortable.others (enc := fun x => kyD .l (k x)) fun x => ⟨by simp [kyD], fun xs => by simp [kyD]⟩
  | pt => exact PySem.W.Sortable.tuples (enc := fun x => kyD .pt (k x)) fun x => ⟨_, _, rfl⟩
  | pl => exact PySem.W.Sortable.tuples (enc := fun x => kyD .pl (k x)) fun x => ⟨_, _, rfl⟩
theorem ky_depth (c : KyS) (k : Int × List Int) : (kyD c k).depth ≤ 8 := by
  have h := PySem.W.depth_ints k.2
  cases c with
  | l => simp [kyD, PyData.depth, h]
  | pt => simp [kyD, PyData.depth, PyData.depthAll, h]
  | pl => simp [kyD, PyData.depth, PyData.depthAll, h]
/-- the order of the keys -/
def kyLe {β : Type} (c : KyS) (k : β → Int × List Int) : β → β → Bool := PySem.W.dataLe false fun x => kyD c (k x)
theorem each_vals : ∀ {xs : List V} {us : List Value}, Vals xs us → PySem.W.EachIs (fun v x => RelV x v) us xs
  | _, _, .nil => .nil
  | _, _, .cons r t => .cons r (each_vals t)
theorem vals_each : ∀ {xs : List V} {us : List Value}, PySem.W.EachIs (fun v x => RelV x v) us xs → Vals xs us
  | _, _, .nil => .nil
  | _, _, .cons r t => .cons r (vals_each t)

theorem paired_flip {α β : Type} {F : α → β → Prop} : ∀ {xs : List α} {ys : List β}, Paired F xs ys → Paired (fun y x => F x y) ys xs
  | _, _, .nil => .nil
  | _, _, .cons a t => .cons a (paired_flip t)
theorem paired_mono {α β : Type} {F G : α → β → Prop} : ∀ {xs : List α} {ys : List β}, Paired F xs ys → (∀ x y, F x y → G x y) → Paired G xs ys
  | _, _, .nil, _ => .nil
  | _, _, .cons a t, h => .cons (h _ _ a) (paired_mono t h)
theorem paired_append {α β : Type} {F : α → β → Prop} : ∀ {xs xs' : List α} {ys ys' : List β}, Paired F xs ys → Paired F xs' ys' → Paired F (xs ++ xs') (ys ++ ys')
  | _, _, _, _, .nil, h => h
  | _, _, _, _, .cons a t, h => .cons a (paired_append t h)
section
variable {X : Cx} {pins : List (Addr × Obj)} {σ : L2.St} {H : Hp} {s : Shared}
theorem keys_each (I : Inv X pins σ H s) {c : KyS} {k : V → Int × List Int} : ∀ {ks xs : List V} {us : List Value}, Vals ks us → Paired (fun v y => KyAt H c v (k y)) ks xs → PySem.W.EachIs (fun v d => ∃ as, Reads s.heap v d as) us (xs.map fun y => kyD c (k y))
  | _, _, _, .nil, .nil => .nil
  | _, _, _, .cons r t, .cons a q => .cons (a.reads I r) (keys_each I t q)
/-- what a key's call is asked: T the call's reading -/
def KyCall (X : Cx) (pf : List (Addr × Obj)) (σ : L2.St) (f : Value) (T : V → Hp → VK → Prop) : Prop :=
  ∀ (pins : List (Addr × Obj)) (s : Shared) (H : Hp) (x : V) (u : Value) (Q : VK), (∀ p ∈ pf, p ∈ pins) → Inv X pins σ H s → RelV x u → T x H Q → wpAny (model X.prog X.w) X.A.in1.in1 (call f [u]) (EP X pins σ Q) (fun _ _ => False) s
/-- the object at a goes from nothing to ys, the one at kS may be anything -/
theorem Inv.twoSet {a kS : Addr} {h' : Heap} {t' n : Nat} {xs ys : List V} {its : List Value} (I : Inv X pins σ H s) (ha : H a = some (.lst xs)) (fp : FpOk X pins H kS) (hk : ∀ b o, b ≠ a → b ≠ kS → s.heap.get? b = some o → h'.get? b = some o)
    (e : h'.get? a = some { cls := .type "list", dict := none, data := .seq its.toArray n, slots := #[] }) (r : Vals ys its) (hz : ys.length ≤ sizeLine) : Inv X pins σ (upd H a (.lst ys)) { s with heap := h', toks := t' } := by
  have nk : H kS = none := fp.1
  have hak : a ≠ kS := ne_of_none ha nk
  refine I.step (g' := s.gens) (d' := s.drawn) (ch := [kS]) (fun b hb => ?_) (fun b o _ _ hc q n => hk b o (fun z => ?_) (fun z => hc (by simp [z])) q) (fun b o _ _ hc q n => ⟨o.slots, hk b o (fun z => ?_) (fun z => hc (by simp [z])) q⟩)
    (fun b o _ _ n => ?_) (fun b o hc q => ?_) (fun b xs' q => ?_) (fun b o u q => ?_) (fun b ps q => ⟨#[], ?_⟩) (fun m hm => ?_) (fun b u q => ?_) I.bare
  · have eb : b = kS := by simpa using hb
    subst eb
    exact ⟨fp.2.2.2.1, fp.2.1, fp.2.2.2.2.1, fp.2.2.2.2.2⟩
  · rw [z, ha] at n
    cases n
  · rw [z, ha] at n
    cases n
  · rw [upd_ne (fun z => by rw [z, ha] at n; cases n)]
    exact n
  · by_cases hb : b = a
    · rw [hb]
      exact ⟨_, e⟩
    · exact ⟨o, hk b o hb (fun z => hc (by simp [z])) q⟩
  · rw [upd_ne (ne_of q ha (by intro z; cases z))]
    exact q
  · rw [upd_ne (ne_of q ha (by intro z; cases z))]
    exact q
  · rw [upd_ne (ne_of q ha (by intro z; cases z)), q]
    simp
  · obtain ⟨o, es, ep, ho, r'⟩ := hm
    exact ⟨o, es, ep, hk _ o (fun z => by have := I.free; rw [z, ha] at this; cases this) (fun z => fp.2.1 z.symm) ho, r'⟩
  · by_cases hb : b = a
    · subst hb
      rw [upd_same] at q
      cases q
      exact ⟨hz, its, n, r, e⟩
    · rw [upd_ne hb] at q
      refine (I.hok b u q).stay (fun c v hc y => hk c v (fun z => ?_) (fun z => ?_) y) (fun c y => ?_) fun c xs' y => ?_
      · rcases hc with z2 | z2
        · exact hb (z2.symm.trans z)
        · rw [z, ha] at z2
          cases z2
      · rcases hc with z2 | z2
        · rw [← z2, z, nk] at q
          cases q
        · rw [z, nk] at z2
          cases z2
      · rw [upd_ne (ne_of y ha (by intro z; cases z))]
        exact y
      · rw [upd_ne (ne_of y ha (by intro z; cases z))]
        exact y
/-- sorted(x, key=f): hcol: what x's items are -/
theorem sorted_key_run {b : Fb} {xs : List V} {x : Value} {f : Addr} {T : V → Hp → VK → Prop} {c : KyS} {k : V → Int × List Int} {Q : VK} (I : Inv X pins σ H s)
    (hcol : ∀ (E : Value → Shared → Prop) (R : List Value → Shared → Prop), (∀ (h' : Heap) (tk : Nat) (us : List Value), (∀ b o, s.heap.get? b = some o → h'.get? b = some o) → Vals xs us → R us { s with heap := h', toks := tk }) → wpAny (model X.prog X.w) X.A.in1 (collect x) R E s)
    (hz : xs.length ≤ sizeLine) {pf : List (Addr × Obj)} (hpf : ∀ p ∈ pf, p ∈ pins) (hcall : KyCall X pf σ (.ref f) T) (hu : X.A.units + 64 < cLine)
    (hT : ∀ y ∈ xs, ∀ H', Fm b H H' → T y H' fun v H2 => Fm b H' H2 ∧ KyAt H2 c v (k y))
    (q : ∀ H2 p, Fm b H H2 → H p = none → H2 p = some (.lst (xs.mergeSort (kyLe c k))) → Q (.ref p) H2) :
    wpAny (model X.prog X.w) X.A (call (.builtin "sorted") [x] [(Str.ofString "key", .ref f)]) (EP X pins σ Q) X.xe s := by
  refine call_function_entry_kw kind_sorted plain_sorted entry_sorted (ksk_s1 _ _) ?_
  unfold Builtin.«sorted»
  refine wpAny_bind (m := checkCount "sorted" 1 1 _) (wpAny_pure ?_)
  refine wpAny_bind (hcol _ _ fun h0 tk us hk rv => ?_)
  have I1 : Inv X pins σ H { s with heap := h0, toks := tk } := I.kept (t' := tk) hk
  have hlu : us.length ≤ sizeLine := by
    rw [← rv.length]
    exact hz
  refine wpAny_bind (wpAny_newList ?_ hlu)
  have ho : (h0.push (seqObj "list" us.toArray 0)).get? h0.objs.size = some (seqObj "list" us.toArray 0) := Heap.get?_push_size _ rfl
  refine wpAny_bind (wpAny_holding (wpAny_call_entry_kw slot_list_sort ⟨_, ho, rfl⟩ entry_list_sort ?_ (ksk_l1 _ _)))
  rw [ksk_t1]
  unfold ksk_tree
  obtain ⟨e1, ho1⟩ : ∃ e1, ((h0.push (seqObj "list" us.toArray 0)).update h0.objs.size (Obj.mapSeq fun _ => (#[] : Array Value))).get? h0.objs.size = some (seqObj "list" #[] e1) := ⟨_, get?_update_seq ho fun _ => #[]⟩
  refine wpAny_bind (listItems_at ho rfl ?_)
  refine wpAny_bind (listUpdate_at ho rfl ?_ (by rw [List.size_toArray]; exact hlu) (Nat.zero_le _))
  refine wpAny_bind (seqEpoch_at ho1 rfl ?_)
  refine wpAny_bind (wpAny_newTuple ?_ (by show us.length ≤ _; exact hlu))
  refine wpAny_bind (wpAny_newList ?_ (Nat.zero_le _))
  refine wpAny_holding ?_
  generalize hg : (((h0.push (seqObj "list" us.toArray 0)).update h0.objs.size (Obj.mapSeq fun _ => (#[] : Array Value))).push (seqObj "tuple" us.toArray 0)) = g1
  have hg1 : g1.objs.size = h0.objs.size + 2 := by
    rw [← hg, size_push', Heap.size_update, size_push']
  have keep : ∀ b o, h0.get? b = some o → (g1.push (seqObj "list" #[] 0)).get? b = some o := fun b o e => by
    refine Heap.get?_push_of_some _ ?_
    rw [← hg]
    refine Heap.get?_push_of_some _ ?_
    rw [Heap.get?_update_ne _ _ _ _ (Nat.ne_of_lt (Heap.lt_size e))]
    exact Heap.get?_push_of_some _ e
  have na : (g1.push (seqObj "list" #[] 0)).get? h0.objs.size = some (seqObj "list" #[] e1) := by
    refine Heap.get?_push_of_some _ ?_
    rw [← hg]
    exact Heap.get?_push_of_some _ ho1
  have nk : (g1.push (seqObj "list" #[] 0)).get? g1.objs.size = some (seqObj "list" #[] 0) := Heap.get?_push_size _ rfl
  have fa : H h0.objs.size = none := I1.hok.fresh (Nat.le_refl _)
  have J1 : Inv X pins σ (upd H h0.objs.size (.lst [])) { s with heap := g1.push (seqObj "list" #[] 0), toks := tk } :=
    I1.laid (t' := tk) keep (Nat.le_refl _) (show ObjOk X.prog X.w _ _ _ (.lst []) from ⟨Nat.zero_le _, [], e1, .nil, na⟩)
  obtain ⟨od, J2⟩ := J1.lock (d := h0.objs.size) upd_same trivial
  rw [upd_upd] at J2
  have eod : od = seqObj "list" #[] e1 := by
    have := (J2.hok h0.objs.size _ upd_same).1
    rw [na] at this
    exact (Option.some.inj this).symm
  subst eod
  have hne : g1.objs.size ≠ h0.objs.size := by omega
  have fk : (upd H h0.objs.size (.frz (seqObj "list" #[] e1) (.lst []))) g1.objs.size = none := by
    rw [upd_ne hne]
    exact I1.hok.fresh (by show h0.objs.size ≤ g1.objs.size; omega)
  have fp : FpOk X pins (upd H h0.objs.size (.frz (seqObj "list" #[] e1) (.lst []))) g1.objs.size := I1.fpOk (by show h0.objs.size ≤ g1.objs.size; omega) fk
  have pinK : ∀ (H' : Hp) (s' : Shared) (o : Obj), Inv X pins σ H' s' → H' g1.objs.size = none → s'.heap.get? g1.objs.size = some o → (∀ v, o.data ≠ .cell v) → Inv X ((g1.objs.size, o) :: pins) σ H' s' := fun H' s' o J n e d => by
    refine J.pins_of fun p hp => ?_
    rcases List.mem_cons.mp hp with z | z
    · subst z
      exact ⟨e, n, fp.2.1, fp.2.2.1, d⟩
    · exact J.pin p (List.mem_append_right _ z)
  have frame0 : Fm b H (upd H h0.objs.size (.frz (seqObj "list" #[] e1) (.lst []))) := Fm.new fa
  unfold ksk_rest
  refine wpAny_bind (wpAny_rule ?_)
  rw [List.forIn_toArray]
  refine wpAny_bind (ksk_fold (fun i s' => ∃ (kA : Array Value) (e : Nat) (ks : List V) (H' : Hp), Inv X ((g1.objs.size, seqObj "list" kA e) :: pins) σ H' s' ∧ Fm b (upd H h0.objs.size (.frz (seqObj "list" #[] e1) (.lst []))) H' ∧ H' g1.objs.size = none ∧
      Vals ks kA.toList ∧ Paired (fun v y => KyAt H' c v (k y)) ks (xs.take i)) us 0 _ ⟨#[], 0, [], _, pinK _ _ _ J2 fk nk (fun v z => by cases z), Fm.refl _, fk, .nil, by rw [List.take_zero]; exact .nil⟩ ?step ?done)
  case step =>
    rintro j u s' hx ⟨kA, e, ks, H', J, fm, nkS, rk, hp⟩
    simp only [Nat.zero_add] at hp ⊢
    obtain ⟨y, hy, ry⟩ := LiI.paired_get (F := fun u y => RelV y u) (xs := us) (ys := xs) (paired_flip rv) hx
    have hlen : kA.size ≤ us.length := by
      have h1 : ks.length = (xs.take j).length := Paired.length hp
      have h2 : ks.length = kA.toList.length := Paired.length rk
      have h4 : kA.toList.length = kA.size := Array.length_toList
      have h3 : xs.length = us.length := Paired.length rv
      rw [List.length_take] at h1
      omega
    have hTy := hT y (List.mem_of_getElem? hy) H' (frame0.trans fm)
    refine wpAny_bind (wpAny_attempt (wpAny_mono (hcall _ s' H' y u _ (fun p hp => List.mem_cons_of_mem _ (hpf p hp)) J ry hTy) (fun v s2 he => ?_) fun _ _ hF => hF.elim))
    obtain ⟨kv, H2, J2', rkv, fm2, hky⟩ := he
    have ep := (J2'.pin (g1.objs.size, seqObj "list" kA e) (List.mem_append_right _ (List.mem_cons_self ..)))
    obtain ⟨c2, hc2⟩ : ∃ c2, (s2.heap.update g1.objs.size (Obj.mapSeq (·.push v))).get? g1.objs.size = some (seqObj "list" (kA.push v) c2) := ⟨_, get?_update_seq ep.1 (·.push v)⟩
    refine wpAny_bind (listUpdate_at ep.1 rfl ?_ (Nat.le_trans hlen hlu) (Nat.le_trans (Nat.le_of_eq (Array.size_push ..)) (Nat.succ_le_succ (Nat.le_trans hlen hlu))))
    have J3 : Inv X pins σ H2 s2 := J2'.pins_of fun p hp => J2'.pin p (List.mem_append_right _ (List.mem_cons_of_mem _ hp))
    have J4 : Inv X pins σ H2 { s2 with heap := s2.heap.update g1.objs.size (Obj.mapSeq (·.push v)) } := J3.turnedL (t' := s2.toks) (ch := [g1.objs.size]) (fun b o hb q => (Heap.get?_update_ne _ _ _ _ (fun z => hb (by simp [z]))).trans q) fun b hb => by
      have eb : b = g1.objs.size := by simpa using hb
      subst eb
      exact ⟨ep.2.1, fp.2⟩
    have etake : xs.take (j + 1) = xs.take j ++ [y] := by
      rw [List.take_add_one, hy]
      rfl
    refine wpAny_pure ⟨rfl, kA.push v, c2, ks ++ [kv], H2, pinK _ _ _ J4 ep.2.1 hc2 (fun v z => by cases z), fm.trans fm2, ep.2.1, ?_, ?_⟩
    · rw [Array.toList_push]
      exact rk.append (.cons rkv .nil)
    · rw [etake]
      exact paired_append (paired_mono hp fun v y h => h.mono fm2) (.cons hky .nil)
  case done =>
    rintro s' ⟨kA, e, ks, H', J, fm, nkS, rk, hp⟩
    have hxl : xs.length = us.length := rv.length
    have et : xs.take (0 + us.length) = xs := List.take_of_length_le (by omega)
    rw [et] at hp
    have ep := (J.pin (g1.objs.size, seqObj "list" kA e) (List.mem_append_right _ (List.mem_cons_self ..)))
    have J3 : Inv X pins σ H' s' := J.pins_of fun p hp => J.pin p (List.mem_append_right _ (List.mem_cons_of_mem _ hp))
    have haH : H' h0.objs.size = some (.frz (seqObj "list" #[] e1) (.lst [])) := fm.kp _ _ upd_same rfl
    have naS : s'.heap.get? h0.objs.size = some (seqObj "list" #[] e1) := (J3.hok _ _ haH).1
    have J5 : Inv X pins σ (upd H' h0.objs.size (.lst [])) s' := J3.unlock haH (J1.nofrz upd_same trivial)
    have hk' : PySem.W.EachIs (fun v d => ∃ as, Reads s'.heap v d as) kA.toList (xs.map fun y => kyD c (k y)) := keys_each J3 rk hp
    have hsz : kA.size = us.length := by
      have h1 : ks.length = xs.length := Paired.length hp
      have h2 : ks.length = kA.toList.length := Paired.length rk
      have h4 : kA.toList.length = kA.size := Array.length_toList
      omega
    refine wpAny_bind (listItems_at ep.1 rfl ?_)
    refine PySem.W.keyH_end (κ := PySem.W.dataKind s'.heap (xs.map fun y => kyD c (k y))) (h₁ := PySem.W.hideAll s'.heap [g1.objs.size]) (vs := us) (fun b o _ q => PySem.W.of_hideAll _ q) (PySem.W.hideAll_none _ (List.mem_singleton.mpr rfl)) ep.1 naS hne
      (PySem.W.SortsAt.data (s := s') hk' (ky_alike c k xs) (ky_sortable c k xs) fun d hd => ?_) hsz hlu fun h3 tk3 c3 kp3 n3 => ?_
    · obtain ⟨y, _, rfl⟩ := List.mem_map.mp hd
      have := ky_depth c (k y)
      have h9 : X.A.in1.in1.units ≤ X.A.units + 2 := Nat.le_refl _
      omega
    · refine ⟨_, rfl, wpAny_pure ⟨_, rfl, ?_⟩⟩
      have hout := PySem.W.keyedOut_each (rev := false) (R := fun v x => RelV x v) (bs := xs) (vs := us) (fun y => kyD c (k y)) ⟨s'.heap, kA.toList, ky_alike c k xs, rfl, hk'⟩ (each_vals rv)
      have hv : Vals (xs.mergeSort (kyLe c k)) (PySem.W.sortVals (PySem.W.dataKind s'.heap (xs.map fun y => kyD c (k y))) false kA.toList us) := vals_each hout
      have hno : (upd H' h0.objs.size (.lst [])) g1.objs.size = none := by
        rw [upd_ne hne]
        exact nkS
      have J6 := Inv.twoSet (t' := tk3) (a := h0.objs.size) (kS := g1.objs.size) (h' := h3) J5 upd_same ⟨hno, fp.2⟩ (fun b o h1 h2 q => kp3 b o h1 (PySem.W.hideAll_get _ q (by simpa using h2))) n3 hv (by rw [List.length_mergeSort]; exact hz)
      rw [upd_upd] at J6
      refine ⟨.ref h0.objs.size, _, J6, rfl, q _ _ ?_ fa upd_same⟩
      exact (frame0.trans fm).edit (Nw.of fa) haH rfl
/-- what sorted walks: a list, or the keys of a dict -/
def CollX (X : Cx) (H : Hp) (v : V) (xs : List V) : Prop := (∃ a, v = .ref a ∧ SqL X.K H a xs) ∨ ∃ a kvs, v = .ref a ∧ Rd H a (.dK kvs) ∧ xs = kvs.map fun q => kV q.1
theorem coll_ok (I : Inv X pins σ H s) (hc : X.calm = true) {v : V} {x : Value} {xs : List V} (r : RelV v x) (h : CollX X H v xs) : xs.length ≤ sizeLine ∧ ∀ (E : Value → Shared → Prop) (R : List Value → Shared → Prop),
    (∀ (h' : Heap) (tk : Nat) (us : List Value), (∀ b o, s.heap.get? b = some o → h'.get? b = some o) → Vals xs us → R us { s with heap := h', toks := tk }) → wpAny (model X.prog X.w) X.A.in1 (collect x) R E s := by
  rcases h with ⟨a, rfl, ha⟩ | ⟨a, kvs, rfl, ha, rfl⟩
  · cases r
    obtain ⟨its, rv, hl, hz⟩ := I.list ha
    refine ⟨hz, fun E R k => ?_⟩
    refine collect_list hl.isList (k _ s.toks its (fun b o e => ?_) rv) (by have := rv.length; omega)
    rw [Heap.get?_update_ne _ _ _ _ (Nat.ne_of_lt (Heap.lt_size e))]
    exact Heap.get?_push_of_some _ e
  · cases r
    obtain ⟨z, lo, vs, rel, dd⟩ := dk_rd I.hok ha
    obtain ⟨ep, hat⟩ := dd.dictAt
    have hl : kvs.length = vs.length := Paired.length rel
    refine ⟨by rw [List.length_map]; exact z, fun E R k => ?_⟩
    refine PySem.W.kdu_collect (A := X.A.in1) (PySem.W.kdl_dict (knd := mixKind X.prog X.w) (kvs := vs) (ep := ep) lo) (I.ok.hd hc) hat (by omega) fun h' tk acc hk hacc => k h' tk acc.toList hk ?_
    have hal : acc.toList.length = vs.length := by
      rw [Array.length_toList]
      exact hacc.1
    refine vals_of_at (by rw [List.length_map, hal, hl]) fun j y u h1 h2 => ?_
    obtain ⟨kk, w, h3, h4⟩ := hacc.2 j u (by rw [← Array.getElem?_toList]; exact h2)
    rw [List.getElem?_map] at h1
    cases h5 : kvs[j]? with
    | none =>
      rw [h5] at h1
      cases h1
    | some q =>
      rw [h5] at h1
      cases h1
      obtain ⟨q2, g1, g2, g3⟩ := LiI.paired_get rel h5
      rw [h3] at g1
      cases g1
      show RelV (kV q.1) u
      rw [g2]
      exact keyIs_rel (show keyIs kk u = true from h4)
/-- sorted(x, key=y), y a def -/
def tSortDf (X : Cx) (sp : Sp) (te : TE) : TE := fun σ H Q => te σ H fun v H1 => ∃ (xs : List V) (c : KyS) (k : V → Int × List Int) (b : Fb), CollX X H1 v xs ∧ (∀ y ∈ xs, ∀ H', Fm b H1 H' → sp [y] H' (fun v H2 => Fm b H' H2 ∧ KyAt H2 c v (k y)) E0) ∧
  ∀ H2 p, Fm b H1 H2 → Nw b H1 p → H2 p = some (.lst (xs.mergeSort (kyLe c k))) → Q (.ref p) H2
theorem pe_sortedDf {y : Str} {k : Nat} {sp : Sp} {e : Expr} {te : TE} {p p2 kp pos : Pos} (F : Df X.prog X.w X.K X.mg X.base y k sp) (hr : Room (k + 2) X.A) (hc : X.calm = true) (hg : Gl X "sorted") (hm : X.mg "sorted" = none) (hgy : Gl X y) (he : PE X e te) (hdy : (y == ("__debug__" : Str)) = false := by decide)
    (he1 : backTo pos (starEach [e] X.env) = (false, eval e X.env) :: backTo pos (starEach [] X.env) := by rfl) (hst : starEach [e] X.env = (false, eval e X.env) :: starEach [] X.env := by rfl) (hpl : (backTo pos (starEach [e] X.env)).any (·.1) = false := by rfl) :
    PE X (.Call (.Name "sorted" p) [e] [⟨some "key", .Name y p2, kp⟩] pos) (tSortDf X sp te) := by
  obtain ⟨f, G, hmf, hk⟩ := F.ex
  refine ⟨fun pins s σ H Q I h => ?_⟩
  refine wpAny_Call_Name_kw (ld_blt I hg hm (by first | decide +kernel | rfl) ?_ (by decide) (by decide))
  have pk : PK X [⟨some "key", .Name y p2, kp⟩] (tCons (tC (.ref f)) tNil) := pk_cons (pe_glob (u := .ref f) (v := .ref f) hgy hmf rfl hdy) pk_nil
  refine PyProof.Rows.callWith_kw (thn ((pa_cons he pa_nil hst).run pos pins s σ H (fun vs H1 => match vs with
      | [v] => ∃ (xs : List V) (c : KyS) (k : V → Int × List Int) (b : Fb), CollX X H1 v xs ∧ (∀ y ∈ xs, ∀ H', Fm b H1 H' → sp [y] H' (fun v H2 => Fm b H' H2 ∧ KyAt H2 c v (k y)) E0) ∧ ∀ H2 p, Fm b H1 H2 → Nw b H1 p → H2 p = some (.lst (xs.mergeSort (kyLe c k))) → Q (.ref p) H2
      | _ => False) I h) fun us s1 q1 => ?_) he1 hpl (by rfl) (by rfl)
  obtain ⟨vs, H1, I1, r1, q1⟩ := q1
  refine thn (pk.run pos pins s1 σ H1 (fun zs H2 => zs = [V.ref f] ∧ H2 = H1) I1 ⟨rfl, rfl⟩) fun ws s2 q2 => ?_
  obtain ⟨zs, H2, I2, r2, rfl, rfl⟩ := q2
  obtain ⟨w, rfl, rw'⟩ := vals1 r2
  cases rw'
  match vs, q1 with
  | [v], q1 =>
    obtain ⟨u, rfl, ru⟩ := vals1 r1
    obtain ⟨xs, c, kk, b, hcx, hT, q⟩ := q1
    obtain ⟨hz, hcol⟩ := coll_ok I2 hc ru hcx
    show wpAny _ _ (call (.builtin "sorted") [u] [(Str.ofString "key", .ref f)]) _ _ _
    refine sorted_key_run (pf := []) (T := fun x H Q => sp [x] H Q E0) I2 hcol hz (fun p hp => nomatch hp) ?_ hr.units hT (fun H2 p h1 h2 h3 => q H2 p h1 (Nw.of h2) h3)
    intro pins s H x u Q _ I rx hsp
    refine wpAny_call (codeAny_mono (G X.A.in1.in1 X.stack s H [u] [x] Q E0 hr.in1.in1 I.env0.in1.in1 (.cons rx .nil) hsp) fun r s' hq => ?_)
    cases r with
    | error e => exact False.elim hq
    | ok fl =>
      cases fl with
      | ret u => exact I.after hq
      | next => exact False.elim hq
      | brk => exact False.elim hq
      | cont => exact False.elim hq
end
end Hy
namespace Hy
open PySem PySem.Spec PyProof.Rows L2 LamX
/-- a lambda with one parameter p and no name of its own besides -/
structure LamS1 (sc scope : Scope) (p : Str) : Prop where
  kind : scope.kind = .function
  co : scope.isCoroutine = false
  gen : scope.isGenerator = false
  par : scope.names.lookup p = some .local
  own : ∀ y ∈ scope.names, (y.2 = .local → y.1 = p) ∧ y.2 ≠ .cell
  free : ∀ y ∈ scope.names, y.2 = .free → sc.names.lookup y.1 = some .cell ∨ sc.names.lookup y.1 = some .free
def lamSB1 (sc scope : Scope) (p : Str) : Bool :=
  decide (scope.kind = .function) && !scope.isCoroutine && !scope.isGenerator && decide (scope.names.lookup p = some .local) && scope.names.all fun y => (!decide (y.2 = .local) || decide (y.1 = p)) && !decide (y.2 = .cell) && (!decide (y.2 = .free) || decide (sc.names.lookup y.1 = some .cell) || decide (sc.names.lookup y.1 = some .free))
theorem lamS1_by {sc scope : Scope} {p : Str} (h : lamSB1 sc scope p = true) : LamS1 sc scope p := by
  unfold lamSB1 at h
  simp only [Bool.and_eq_true, Bool.or_eq_true, Bool.not_eq_true', decide_eq_true_eq, decide_eq_false_iff_not, List.all_eq_true] at h
  obtain ⟨⟨⟨⟨h1, h2⟩, h3⟩, hp⟩, h4⟩ := h
  refine ⟨h1, h2, h3, hp, fun y hy => ⟨fun e => ?_, (h4 y hy).1.2⟩, fun y hy e => ?_⟩
  · rcases (h4 y hy).1.1 with z | z
    · exact absurd e z
    · exact z
  · rcases (h4 y hy).2 with (z | z) | z
    · exact absurd e z
    · exact .inl z
    · exact .inr z
theorem LamS1.has {X : Cx} {scope : Scope} {p : Str} (L : LamS1 X.env.scope scope p) (ok : X.Ok) : ∀ y ∈ scope.names, y.2 = .free → ∃ c, X.env.cells.lookup y.1 = some c := fun y hy e => (L.free y hy e).elim (fun k => ok.has _ (.inl k)) (fun k => ok.has _ (.inr k))
section
variable {X : Cx} {pins : List (Addr × Obj)} {σ : L2.St} {H : Hp} {s s1 : Shared}
/-- the lambda's body starts: its parameter holds x -/
theorem lam_start1 {A : Around} {E : XK} {scope : Scope} {f c' : Addr} {h₁ : Heap} {tk i : Nat} {p : Str} {x : V} {u : Value} (I : Inv X pins σ H s) (L : LamS1 X.env.scope scope p) (hp : X.N[i]? = some p) (hN : X.N.Nodup) (rx : RelV x u) (e0 : Env0 X.prog X.w X.K X.mg X.base A X.stack s H) (hd : A.handled = none)
    (hns : h₁.Ns s.heap.objs.size fun y => [(p, u)].reverse.lookup y) (kp : ∀ b o, s.heap.get? b = some o → h₁.get? b = some o) :
    Inv (lamCx X A X.stack s H E scope f c') [] (σ.set i (some x)) H { s with heap := h₁, toks := tk } := by
  have hfree := L.has I.ok
  have ilt : i < σ.length := by
    rw [I.len]
    exact (List.getElem?_eq_some_iff.mp hp).1
  have cm : ∀ {y c}, (cloFrom X.env.cells scope.names []).lookup y = some c → X.env.cells.lookup y = some c := fun {y c} e => by
    rcases cloFrom_mem (PySem.mem_of_lookup e) with hm | ⟨h1, h2⟩
    · cases hm
    · obtain ⟨c1, hc⟩ := hfree _ h1 rfl
      have hc : X.env.cells.lookup y = some c1 := hc
      have e2 : c = c1 := by
        rw [h2, hc] <;> rfl
      rw [e2]
      exact hc
  have look : ∀ {y}, scope.names.lookup y = some .free → ∃ c, (cloFrom X.env.cells scope.names []).lookup y = some c := fun {y} hl => by
    have hy : (y, NameKind.free) ∈ scope.names := PySem.mem_of_lookup hl
    exact mem_lookup (cloFrom_has (cells := X.env.cells) (acc := []) hy)
  have cellK : ∀ {c : Addr} {v : Option Value}, s.heap.IsCell c v → h₁.IsCell c v := fun {c v} ⟨o, ho, hd⟩ => ⟨_, kp _ _ ho, hd⟩
  have noA : ∀ b : Addr, b ∉ (lamCx X A X.stack s H E scope f c').ex := fun b z => absurd (show b ∈ ([] : List Addr) from z) (by simp)
  refine ⟨⟨e0.mod, L.kind, rfl, rfl, Nat.le_refl _, fun y z c e1 e2 => I.ok.inj y z c (cm e1) (cm e2), fun y hy => ?_, fun y c z _ => ?_, fun _ => hd, Around.frames_deeper e0.frames, .inr ⟨rfl, rfl⟩, fun b z => absurd z (noA b), e0.bs, e0.bsz, fun b _ _ => noA b,
      fun b z => absurd z (noA b), e0.funs, e0.frf⟩,
    rfl, e0.bare, Un.kept kp, ⟨_, hns, fun j y v e1 e2 e3 => ?_⟩, fun y c e => ?_, e0.hok.fresh (Nat.le_refl _), fun y c e => ?_, fun q hq => absurd (show q ∈ ([] : List (Addr × Obj)) ++ [] from hq) (by simp), e0.hok.kept kp, by rw [List.length_set]; exact I.len⟩
  · have hy : scope.names.lookup y = some .cell ∨ scope.names.lookup y = some .free := hy
    rcases hy with hy | hy
    · exact absurd rfl (L.own _ (PySem.mem_of_lookup hy)).2
    · exact look hy
  · have z : false = true := z
    cases z
  · have e1 : X.N[j]? = some y := e1
    have e3 : Vis scope y := e3
    rcases e3 with k | k | k
    · have ey : y = p := (L.own _ (PySem.mem_of_lookup k)).1 rfl
      subst ey
      have eij : j = i := nodup_ix hN e1 hp
      subst eij
      rw [List.getElem?_set_self ilt] at e2
      cases e2
      exact ⟨u, rx, .inl ⟨k, by
        show [(y, u)].lookup y = some u
        rw [List.lookup_cons_self]⟩⟩
    · exact absurd rfl (L.own _ (PySem.mem_of_lookup k)).2
    · have hne : i ≠ j := fun z => by
        subst z
        rw [hp] at e1
        cases e1
        rw [L.par] at k
        cases k
      rw [List.getElem?_set_ne hne] at e2
      obtain ⟨m, hn, hl⟩ := I.loc
      have hvis : Vis X.env.scope y := (L.free _ (PySem.mem_of_lookup k) rfl).elim (fun k => .inr (.inl k)) (fun k => .inr (.inr k))
      obtain ⟨w', r, q⟩ := hl j y v e1 e2 hvis
      obtain ⟨c2, h2⟩ := look k
      refine ⟨w', r, .inr ⟨.inr k, c2, h2, ?_⟩⟩
      have c1 := cm h2
      rcases q with ⟨k', _⟩ | ⟨_, c3, e', z⟩
      · have k' : X.env.scope.names.lookup y = some .local := k'
        rcases L.free _ (PySem.mem_of_lookup k) rfl with k2 | k2 <;> rw [show X.env.scope.names.lookup y = _ from k2] at k' <;> cases k'
      · rw [c1] at e'
        cases e'
        exact cellK z
  · obtain ⟨w', z⟩ := I.cell y c (cm e)
    exact ⟨w', cellK z⟩
  · exact I.freeC y c (cm e)
/-- the lambda's call, its promise told of the very slots it was made among -/
theorem ky_lam {params : Arguments} {body : Expr} {scope : Scope} {p : Str} {f c' : Addr} {pm ctv : Value} {i k : Nat} {tb : TE} (L : LamS1 X.env.scope scope p) (hp : X.N[i]? = some p) (hN : X.N.Nodup) (hr : Room (k + 3) X.A)
    (hbind : ∀ (q : Str) (cl : List (Str × Addr)) (pm cv ctv : Value) (u : Value), bindArgs (PySem.W.kla_fn "<lambda>" q params body scope cl pm cv ctv) ⟨[u], []⟩ = pure [(p, u)])
    (hbody : ∀ (A : Around) (outer : List Env) (s : Shared) (H : Hp) (E : XK) (f c' : Addr), Room k (A.deeper (lamEnv X scope s.heap.objs.size f c')) → PE (lamCx X A outer s H E scope f c') body tb) :
    KyCall X [(f, PySem.W.kla_obj "<lambda>" (X.env.qual ++ "<lambda>") params body scope (cloFrom X.env.cells scope.names []) pm c' ctv)] σ (.ref f) (fun x HZ Q => HZ c' = some (CodeO c' (X.env.qual ++ "<lambda>")) ∧ tb (σ.set i (some x)) HZ Q) := by
  intro pins s H x u Q hpf I rx h
  obtain ⟨hc, ht⟩ := h
  have of1 := (I.pin _ (List.mem_append_right _ (hpf _ (List.mem_singleton.mpr rfl)))).1
  obtain ⟨⟨oc, vs, t, hoc, hdc, hvc⟩, _, _⟩ := I.hok c' _ hc
  have e0 : Env0 X.prog X.w X.K X.mg X.base X.A.in1.in1 X.stack s H := I.env0.in1.in1
  have hr2 : Room (k + 1) X.A.in1.in1 := hr.in1.in1
  have rc : codeAny (model X.prog X.w) X.A.in1.in1 (.call (.ref f) ⟨[u], []⟩) (CR (L2.CX X.prog X.w) X.stack X.prog X.w H s Q E0) s := by
    refine PySem.W.kla_callFunE hr2.depth of1 rfl L.co L.gen rfl ⟨c', oc, vs, t, rfl, hoc, hdc, hvc⟩ ?_
    rw [hbind]
    refine wpAny_pure (wpAny_newFunctionEnv (fun y hy => (L.own y hy).2) (fun y hy => ?_) (fun h₁ hns hsb => ⟨I.nolimit.fresh _ hsb, ?_⟩) L.kind)
    · have ey : y = (p, u) := by simpa using hy
      subst ey
      exact L.par
    · show codeAny _ _ (.expr body (lamEnv X scope s.heap.objs.size f c')) _ _
      have kp : ∀ b o, s.heap.get? b = some o → h₁.get? b = some o := fun b o e => hsb.extBut b o (Nat.ne_of_lt (Heap.lt_size e)) (Heap.get?_push_of_some _ e)
      have J : Inv (lamCx X X.A.in1.in1 X.stack s H E0 scope f c') [] (σ.set i (some x)) H { s with heap := h₁, toks := s.toks + [(p, u)].length } := lam_start1 I L hp hN rx e0 hr2.hd hns kp
      refine PySem.W.kla_codeExpr (wpAny_mono ((hbody _ _ s H E0 f c' (hr2.deeper _)).run [] _ _ H Q J ht) (fun v s' hq => ?_) fun e s' hq => hq)
      obtain ⟨w', H', J', rv, q⟩ := hq
      exact ⟨w', H', J'.os, J'.bare, J'.base, J'.hok, rv, q⟩
  refine wpAny_call (codeAny_mono rc fun r s' hq => ?_)
  cases r with
  | error e =>
    obtain ⟨_, _, _, _, _, _, _, _, _, _, _, _, z⟩ := hq
    cases z
  | ok fl =>
    cases fl with
    | ret u => exact I.after hq
    | next => exact False.elim hq
    | brk => exact False.elim hq
    | cont => exact False.elim hq
/-- sorted(x, key=lambda p: body); i: the slot that the parameter's name has in the def -/
def tSortLam (X : Cx) (i : Nat) (T : List (Addr × Str)) (tb te : TE) : TE := fun σ H Q => te σ H fun v H1 => LamX.Tabs T H1 ∧ ∃ (xs : List V) (c : KyS) (k : V → Int × List Int) (pn : Bool), CollX X H1 v xs ∧
  (∀ y ∈ xs, ∀ H', Fm ⟨pn, T⟩ H1 H' → tb (σ.set i (some y)) H' fun v H2 => Fm ⟨pn, T⟩ H' H2 ∧ KyAt H2 c v (k y)) ∧ ∀ H2 p, Fm ⟨pn, T⟩ H1 H2 → Nw ⟨pn, T⟩ H1 p → H2 p = some (.lst (xs.mergeSort (kyLe c k))) → Q (.ref p) H2
theorem CollX.up {X : Cx} {H H' : Hp} {v : V} {xs : List V} (h : CollX X H v xs) (e : ExtN H H') : CollX X H' v xs := by
  rcases h with ⟨a, rfl, ha⟩ | ⟨a, kvs, rfl, ha, rfl⟩
  · refine .inl ⟨a, rfl, ?_⟩
    rcases ha with (ha | ⟨o, ha⟩) | ha
    · exact .inl (.inl (e _ _ ha fun ps z => nomatch z))
    · exact .inl (.inr ⟨o, e _ _ ha fun ps z => nomatch z⟩)
    · exact .inr ha
  · refine .inr ⟨a, kvs, rfl, ?_, rfl⟩
    rcases ha with ha | ⟨o, ha⟩
    · exact .inl (e _ _ ha fun ps z => nomatch z)
    · exact .inr ⟨o, e _ _ ha fun ps z => nomatch z⟩
theorem pe_sortedLam {T : List (Addr × Str)} {pr : Str} {i k : Nat} {c P : Addr} {e body : Expr} {params : Arguments} {scope : Scope} {te tb : TE} {p lp kp pos : Pos} (TB : TabB X.base X.mg c P) (hcode : X.env.code = .ref c) (hmT : (P, X.env.qual ++ "<lambda>") ∈ T) (hu : ∀ q ∈ T, q.1 = P → q.2 = X.env.qual ++ "<lambda>")
    (L : LamS1 X.env.scope scope pr) (hp : X.N[i]? = some pr) (hN : X.N.Nodup) (hr : Room (k + 3) X.A) (hc : X.calm = true) (hg : Gl X "sorted") (hm : X.mg "sorted" = none) (he : PE X e te) (hdef : defaultsOf params X.env = ([], []))
    (hbind : ∀ (q : Str) (cl : List (Str × Addr)) (pm cv ctv : Value) (u : Value), bindArgs (PySem.W.kla_fn "<lambda>" q params body scope cl pm cv ctv) ⟨[u], []⟩ = pure [(pr, u)])
    (hbody : ∀ (A : Around) (outer : List Env) (s : Shared) (H : Hp) (E : XK) (f c' : Addr), Room k (A.deeper (lamEnv X scope s.heap.objs.size f c')) → PE (lamCx X A outer s H E scope f c') body tb)
    (he1 : backTo pos (starEach [e] X.env) = (false, eval e X.env) :: backTo pos (starEach [] X.env) := by rfl) (hst : starEach [e] X.env = (false, eval e X.env) :: starEach [] X.env := by rfl) (hpl : (backTo pos (starEach [e] X.env)).any (·.1) = false := by rfl) (hs : X.stack = X.env :: X.outer := by rfl) (hfm : X.env.frame = some X.env.locals := by rfl) :
    PE X (.Call (.Name "sorted" p) [e] [⟨some "key", .Lambda params body scope lp, kp⟩] pos) (tSortLam X i T tb te) := by
  refine ⟨fun pins s σ H Q I h => ?_⟩
  refine wpAny_Call_Name_kw (ld_blt I hg hm (by first | decide +kernel | rfl) ?_ (by decide) (by decide))
  refine PyProof.Rows.callWith_kw (thn ((pa_cons he pa_nil hst).run pos pins s σ H (fun vs H1 => match vs with
      | [v] => LamX.Tabs T H1 ∧ ∃ (xs : List V) (c : KyS) (k : V → Int × List Int) (pn : Bool), CollX X H1 v xs ∧
        (∀ y ∈ xs, ∀ H', Fm ⟨pn, T⟩ H1 H' → tb (σ.set i (some y)) H' fun v H2 => Fm ⟨pn, T⟩ H' H2 ∧ KyAt H2 c v (k y)) ∧ ∀ H2 p, Fm ⟨pn, T⟩ H1 H2 → Nw ⟨pn, T⟩ H1 p → H2 p = some (.lst (xs.mergeSort (kyLe c k))) → Q (.ref p) H2
      | _ => False) I h) fun us s1 q1 => ?_) he1 hpl (by rfl) (by rfl)
  obtain ⟨vs, H1, I1, r1, q1⟩ := q1
  match vs, q1 with
  | [v], q1 =>
    obtain ⟨hT1, xs, cc, kk, pn, hcx, hT, q⟩ := q1
    obtain ⟨u, rfl, ru⟩ := vals1 r1
    show wpAny _ _ (evalAll ((do let v ← eval (.Lambda params body scope lp) X.env; standAt pos; pure v) :: (backToKw pos (keywordEach [] X.env)).map (·.2))) _ _ s1
    refine wpAny_evalAll_cons (wpAny_bind (lam_make2 I1 TB hcode hmT hu hT1 hdef (L.has I.ok) fun f c' pm ctv H2 s2 I2 eN T2 hf hfn hfr hco => wpAny_bind (wpAny_standAt (wpAny_pure ?_))))
    refine wpAny_evalAll_nil ?_
    show wpAny _ _ (call (.builtin "sorted") [u] [(Str.ofString "key", .ref f)]) _ _ _
    have fm : Fm ⟨pn, T⟩ H1 H2 := Fm.of_extN eN T2
    have efs : frs X.stack = X.env.locals :: X.fs := by
      rw [hs]
      show (X.env :: X.outer).filterMap (·.frame) = X.env.locals :: X.outer.filterMap (·.frame)
      rw [List.filterMap_cons, hfm]
    obtain ⟨hz, hcol⟩ := coll_ok I2 hc ru (hcx.up eN)
    have J : Inv X ((f, PySem.W.kla_obj "<lambda>" (X.env.qual ++ "<lambda>") params body scope (cloFrom X.env.cells scope.names []) pm c' ctv) :: pins) σ H2 s2 := I2.pins_of fun p hp => by
      rcases List.mem_cons.mp hp with z | z
      · subst z
        exact ⟨hf, hfn, fun z => hfr (by rw [efs]; exact List.mem_cons.mpr (.inl z)), fun z => hfr (by rw [efs]; exact List.mem_cons_of_mem _ z), fun v z => by cases z⟩
      · exact I2.pin p (List.mem_append_right _ z)
    refine wpAny_mono (sorted_key_run (b := ⟨pn, T⟩) (xs := xs) (c := cc) (k := kk) (Q := Q) J hcol hz (pf := [(f, PySem.W.kla_obj "<lambda>" (X.env.qual ++ "<lambda>") params body scope (cloFrom X.env.cells scope.names []) pm c' ctv)])
      (fun p hp => by rw [List.mem_singleton.mp hp]; exact List.mem_cons_self ..) (ky_lam L hp hN hr hbind hbody) hr.units (fun y hy H' e => ⟨e.kp _ _ hco rfl, hT y hy H' (fm.trans e)⟩)
      fun H3 p h1 h2 h3 => q H3 p (fm.trans h1) (fm.nw h2) h3) (fun v s' z => ?_) fun _ _ z => z
    obtain ⟨w, H', J', rw', qw⟩ := z
    exact ⟨w, H', J'.pins_of fun p hp => J'.pin p (List.mem_append_right _ (List.mem_cons_of_mem _ hp)), rw', qw⟩
end
end Hy
namespace Hy
open PySem PySem.Spec PyProof.Rows L2
/-- the body's context: one captured name, __class__ -/
def supCx (P : Program) (w : World) (K : PySem.W.Frag) (mg : Str → Option Value) (base : Heap) (N : List Str) (qual : Str) (scope : Scope) (f cc : Addr) (cd : Value) (A : Around) (outer : List Env) (s : Shared) (H : Hp) : Cx where
  prog := P
  w := w
  K := K
  mg := mg
  base := base
  A := A.deeper (PySem.W.ksEnv qual scope s.heap.objs.size f cd cc)
  N := N
  s_0 := s
  H_0 := H
  env := PySem.W.ksEnv qual scope s.heap.objs.size f cd cc
  outer := outer
  stack := PySem.W.ksEnv qual scope s.heap.objs.size f cd cc :: outer
  ex := []
  calm := true
  fn := fun _ => false
  pn := []
  xe := fun _ _ => False
structure SupS (N ps : List Str) (sc : Scope) : Prop where
  kind : sc.kind = .function
  co : sc.isCoroutine = false
  gen : sc.isGenerator = false
  nd : N.Nodup
  pre : N.take ps.length = ps
  par : ∀ x ∈ ps, sc.names.lookup x = some .local
  nocell : ∀ y ∈ sc.names, y.2 ≠ .cell
  cls : ∀ y ∈ sc.names, y.2 = .free → y.1 = "__class__"
section
variable {P : Program} {w : World} {K : PySem.W.Frag} {mg : Str → Option Value} {base : Heap} {N ps : List Str} {qual : Str} {scope : Scope} {f cc : Addr} {cd : Value} {A : Around} {outer : List Env} {s : Shared} {H : Hp}
theorem sup_start {vs : List V} {us : List Value} {h₁ : Heap} {tk : Nat} {cv : Option Value} (S : SupS N ps scope) (hd : A.handled = none) (e0 : Env0 P w K mg base A outer s H) (hl : vs.length = ps.length) (r : Vals vs us)
    (hns : h₁.Ns s.heap.objs.size fun y => (ps.zip us).reverse.lookup y) (kp : ∀ b o, s.heap.get? b = some o → h₁.get? b = some o) (hc : s.heap.IsCell cc cv) (hcn : H cc = none) (hcl : cc < s.heap.objs.size) :
    Inv (supCx P w K mg base N qual scope f cc cd A outer s H) [] (L2.start N vs) H { s with heap := h₁, toks := tk } := by
  have hpl : ps.length ≤ N.length := by
    have := congrArg List.length S.pre
    rw [List.length_take] at this
    omega
  have noA : ∀ b : Addr, b ∉ (supCx P w K mg base N qual scope f cc cd A outer s H).ex := fun b z => absurd (show b ∈ ([] : List Addr) from z) (by simp)
  have one : ∀ {y : Str} {c : Addr}, [(("__class__" : Str), cc)].lookup y = some c → y = "__class__" ∧ c = cc := fun {y c} e => by
    rw [List.lookup_cons] at e
    split at e
    · rename_i q
      cases e
      exact ⟨beq_iff_eq.mp q, rfl⟩
    · cases e
  have ndP : ps.Nodup := by
    rw [← S.pre]
    exact S.nd.sublist (List.take_sublist _ _)
  refine ⟨⟨e0.mod, S.kind, rfl, rfl, Nat.le_refl _, fun y z c e1 e2 => ?_, fun y hy => ?_, fun y c z _ => ?_, fun _ => hd, Around.frames_deeper e0.frames, .inr ⟨rfl, rfl⟩, fun b z => absurd z (noA b), e0.bs, e0.bsz, fun b _ _ => noA b,
      fun b z => absurd z (noA b), e0.funs, e0.frf⟩,
    rfl, e0.bare, Un.kept kp, ⟨_, hns, fun j y v e1 e2 e3 => ?_⟩, fun y c e => ?_, e0.hok.fresh (Nat.le_refl _), fun y c e => ?_, fun q hq => absurd (show q ∈ ([] : List (Addr × Obj)) ++ [] from hq) (by simp), e0.hok.kept kp, ?_⟩
  · exact (one e1).1.trans (one e2).1.symm
  · have hy : scope.names.lookup y = some .cell ∨ scope.names.lookup y = some .free := hy
    rcases hy with hy | hy
    · exact absurd rfl (S.nocell _ (PySem.mem_of_lookup hy))
    · have ey := S.cls _ (PySem.mem_of_lookup hy) rfl
      dsimp only at ey
      subst ey
      exact ⟨cc, by
        show [(("__class__" : Str), cc)].lookup ("__class__" : Str) = some cc
        rw [List.lookup_cons_self]⟩
  · have z : false = true := z
    cases z
  · have hi : j < vs.length := by
      unfold L2.start at e2
      by_cases hi : j < vs.length
      · exact hi
      · rw [List.getElem?_append_right (by simpa using hi), List.getElem?_replicate] at e2
        split at e2 <;> cases e2
    have ha : vs[j]? = some v := by
      unfold L2.start at e2
      rw [List.getElem?_append_left (by simpa using hi), List.getElem?_map] at e2
      cases e : vs[j]? with
      | none =>
        rw [e] at e2
        cases e2
      | some a =>
        rw [e] at e2
        cases e2
        rfl
    obtain ⟨u, hu, rv⟩ := r.get ha
    have hp : ps[j]? = some y := by
      rw [← S.pre, List.getElem?_take_of_lt (by omega)]
      exact e1
    exact ⟨u, rv, .inl ⟨S.par y (List.mem_of_getElem? hp), NdefX.zip_look ndP hp hu⟩⟩
  · obtain ⟨_, rfl⟩ := one e
    obtain ⟨o, ho, hd⟩ := hc
    exact ⟨_, o, kp _ _ ho, hd⟩
  · obtain ⟨_, rfl⟩ := one e
    exact hcn
  · show (vs.map some ++ List.replicate (N.length - vs.length) none).length = N.length
    rw [List.length_append, List.length_map, List.length_replicate]
    omega
/-- the facts of such an __init__ at f, in the class at D; C: the class of the instance, g: the __init__ above -/
structure SupK (P : Program) (K : PySem.W.Frag) (D C f g : Addr) (qual : Str) (params : Arguments) (body : List Stmt) (scope : Scope) (ps : List Str) (p : Str) : Prop where
  ex : ∃ (oc : Value) (od : Option Addr) (dV kV doc pm ct : Value) (an : Option Addr) (osl : Array (Option Value)) (cda cc : Addr) (ccl cl : Value) (cdd cld : Option Addr) (vs : Array Value) (ccs csl : Array (Option Value)) (file : Str) (tf : Tok) (cdD : ClassData),
    K.lookup f = some ⟨oc, od, .func (PySem.W.ksFn "__init__" qual params body scope dV kV doc pm an (.ref cda) ct cc), osl⟩ ∧ PySem.W.codeIn K (.ref cda) qual = true ∧ K.lookup cda = some ⟨ccl, cdd, .fields vs, ccs⟩ ∧ vs[2]? = some (.str file tf) ∧ ((P.main.file : Str) == file) = true ∧
    K.lookup cc = some ⟨cl, cld, .cell (some (.ref D)), csl⟩ ∧ PySem.W.clsIn K D = some cdD ∧
    (∀ (s : Shared) (us : List Value), K.In s.heap → us.length = ps.length → BindsTo s (PySem.W.ksFn "__init__" qual params body scope dV kV doc pm an (.ref cda) ct cc) ⟨us, []⟩ (ps.zip us))
  ar : ∃ ar, (params.posonlyargs ++ params.args).head? = some ar ∧ ar.arg = p
  sub : PySem.W.mroIn K C (.ref D) = some true
  cls : (PySem.W.clsIn K C).isSome = true
  up : PySem.W.ks_superIn K C D "__init__" = some (some (.ref g))
  ty : PySem.W.typeIn K (.ref g) = some (.type "function")
  fn : PySem.W.fnIn K g = true
  opq : PySem.W.nsIn K cStatics "thirdparty.any" = some none
  ks : scope.names.lookup ("super" : Str) = some .globalImplicit
  kc : scope.names.lookup ("__class__" : Str) = some .free
  top : (P.main.scope.names.lookup ("super" : Str)).isSome = false
theorem fn_sup {mgs : mg ("super" : Str) = none} {D C g : Addr} {params : Arguments} {body : List Stmt} {p : Str} {k : Nat} {sp spG : Sp} {t : TA} {e : Expr} {rest : List Expr} {p0 p1 apos cpos epos : Pos} {pl : Sem Bool} (F : SupK P K D C f g qual params body scope ps p) (S : SupS N ps scope) (hp0 : ps[0]? = some p)
    (hb : body = [.Expr (.Call (.Attribute (.Call (.Name "super" p0) [] [] p1) "__init__" apos) (e :: rest) [] cpos) epos]) (G : FnR P w K mg base CX0 k g spG)
    (hargs : ∀ (cc : Addr) (cd : Value) (A : Around) (outer : List Env) (s : Shared) (H : Hp), Room k (A.deeper (PySem.W.ksEnv qual scope s.heap.objs.size f cd cc)) → PA (supCx P w K mg base N qual scope f cc cd A outer s H) (e :: rest) t)
    (hst : ∀ env, starEach (e :: rest) env = (false, eval e env) :: starEach rest env := by intro _; rfl) (hpl : ∀ pos env, (backTo pos (starEach rest env)).any (·.1) = false := by intro _ _; rfl)
    (hsw : ∀ (env : Env), swapsWith (.Call (.Attribute (.Call (.Name "super" p0) [] [] p1) "__init__" apos) (e :: rest) [] cpos) none epos.line env = pure false := by intro _; rfl)
    (hcall : ∀ (env : Env), eval (.Call (.Attribute (.Call (.Name "super" p0) [] [] p1) "__init__" apos) (e :: rest) [] cpos) env = (do
      let ov ← attributeBase (.Call (.Name "super" p0) [] [] p1) "__init__" env (eval (.Call (.Name "super" p0) [] [] p1) env)
      standAt apos.atName
      let (f, first) ← holding [ov] (getMethod ov "__init__" pl)
      callWith cpos f first (backTo cpos (starEach (e :: rest) env)) []) := by intro _; rfl)
    (hsp : ∀ vs H Q E, sp vs H Q E → vs.length = ps.length ∧ ∃ x dx fs, vs[0]? = some (V.ref x) ∧ H x = some (.ins C dx fs) ∧ t (L2.start N vs) H fun ws H1 => spG (.ref x :: ws) H1 (fun v H2 => Q .non H2) E0) : FnR P w K mg base CX0 (k + 1) f sp := by
  obtain ⟨oc, od, dV, kV, doc, pm, ct, an, osl, cda, cc, ccl, cl, cdd, cld, vsf, ccs, csl, file, tf, cdD, lk, hcd, hcode, hvs, hfile, hcell, hD, hbind⟩ := F.ex
  obtain ⟨ar, har, ear⟩ := F.ar
  intro A outer s H us vs Q E hr e0 r hs
  obtain ⟨hl, x, dx, fs, hx0, hx, ht⟩ := hsp vs H Q E hs
  have KX : K.In s.heap := e0.mod.kin.keeps fun b o e => (e0.bs b o e).1
  have lim : s.heap.NoLimit := e0.mod.nolimit.keeps fun b o e => (e0.bs b o e).1
  have hlu : us.length = ps.length := r.length.symm.trans hl
  have hzip : ∀ y ∈ ps.zip us, scope.names.lookup y.1 = some .local := fun ⟨n, v⟩ hy => S.par n (List.of_mem_zip hy).1
  have kcc : base.get? cc = some ⟨cl, cld, .cell (some (.ref D)), csl⟩ := e0.mod.kin _ _ hcell
  refine PySem.ks_codeAny_call_defAt (fd := PySem.W.ksFn "__init__" qual params body scope dV kV doc pm an (.ref cda) ct cc) (body := body) (binds := ps.zip us) hr.depth (KX _ _ lk) rfl lim (PySem.W.codeRec_of KX hcd) rfl (hbind s us KX hlu) S.nocell hzip (fun h₁ hns hk₁ => ?_) S.co S.gen S.kind
  have I : Inv (supCx P w K mg base N qual scope f cc (.ref cda) A outer s H) [] (L2.start N vs) H { s with heap := h₁, toks := s.toks + (ps.zip us).length } :=
    sup_start S hr.hd e0 hl r hns hk₁ ⟨_, KX _ _ hcell, rfl⟩ (e0.bs _ _ kcc).2 (Heap.lt_size (KX _ _ hcell))
  have hr2 : Room k (A.deeper (PySem.W.ksEnv qual scope s.heap.objs.size f (.ref cda) cc)) := hr.deeper _
  subst hb
  refine PySem.ks_wpAt_execs_cons ?_
  refine PySem.ks_wpAt_mono (Q := fun (fl : Flow) (s' : Shared) => fl = Flow.next ∧ ∃ H', Inv (supCx P w K mg base N qual scope f cc (.ref cda) A outer s H) [] (L2.start N vs) H' s' ∧ Q .non H') (E := fun (_ : Value) (_ : Shared) => False) ?_ (fun fl s' z => ?_) fun _ _ z => False.elim z
  · refine PySem.ks_wpAt_Expr_any (PySem.ks_wpAt_MethodCall (pl := pl) ?_ (hcall _)) I.quiet (hsw _)
    have eat : (("__init__" : Str) == ("__class__" : Str)) = false := by decide
    have hpl2 : (backTo cpos (starEach (e :: rest) (supCx P w K mg base N qual scope f cc (.ref cda) A outer s H).env)).any (·.1) = false := by
      rw [hst]
      exact hpl _ _
    have KX1 : K.In h₁ := fun b o q => hk₁ b o (KX b o q)
    have hx1 := hx
    obtain ⟨mA, O, _⟩ := ins_get I.hok hx
    obtain ⟨odx, J, _⟩ := O.look
    obtain ⟨oD, hD1, hD2⟩ : ∃ oD, h₁.get? D = some oD ∧ oD.data = .cls cdD := by
      unfold PySem.W.clsIn at hD
      split at hD
      · rename_i c d cd' sl ho
        cases hD
        exact ⟨_, KX1 _ _ ho, rfl⟩
      · cases hD
    have hself : (ps.zip us).reverse.lookup p = some (.ref x) := by
      have ndP : ps.Nodup := by
        rw [← S.pre]
        exact S.nd.sublist (List.take_sublist _ _)
      obtain ⟨u, hu, ru⟩ := r.get hx0
      cases ru
      exact NdefX.zip_look ndP hp0 hu
    refine PySem.ks_wpAt_super_base (env := PySem.W.ksEnv qual scope s.heap.objs.size f (.ref cda) cc) F.ks F.kc eat rfl (KX1 _ _ lk) rfl har rfl (KX1 _ _ hcode) rfl hvs hfile F.top ?_
    obtain ⟨mb, b1, b2⟩ := I.mod.blt
    have hboot : bootBuiltins "super" = some (.type "super") := by first | decide +kernel | rfl
    refine PySem.W.ks_loadName_global S.kind F.ks (Calls.loadGlobal_builtin (env := PySem.W.ksEnv qual scope s.heap.objs.size f (.ref cda) cc) (I.mod.glob.keeps I.bk) mgs (b1.keeps I.bk) ((b2 _ (by decide)).trans hboot) ⟨rfl, ?_⟩)
    refine wpAny_loadName_free (env := PySem.W.ksEnv qual scope s.heap.objs.size f (.ref cda) cc) (c := cc) S.kind F.kc (by show [(("__class__" : Str), cc)].lookup ("__class__" : Str) = some cc; rw [List.lookup_cons_self]) ⟨_, KX1 _ _ hcell, rfl⟩ ?_
    rw [ear]
    refine wpAny_loadName_local (env := PySem.W.ksEnv qual scope s.heap.objs.size f (.ref cda) cc) S.kind (S.par p (List.mem_of_getElem? hp0)) hns hself ?_
    refine ks_wpAny_isType_cls hD1 hD2 ⟨rfl, ?_⟩
    refine ks_wpAny_call_super hD1 hD2 J.at_ J.cls (fun c q => ?_) (PySem.W.looks_mroIn KX1 F.sub) (fun h' hso k => ?_)
    · have := J.no
      unfold PySem.W.notCls at this
      rw [q] at this
      exact Bool.noConfusion this
    · have I2 : Inv (supCx P w K mg base N qual scope f cc (.ref cda) A outer s H) [] (L2.start N vs) H { s with heap := h', toks := s.toks + (ps.zip us).length } := I.kept (t' := s.toks + (ps.zip us).length) k
      have KX2 : K.In h' := fun b o q => k b o (KX1 b o q)
      obtain ⟨mA2, O2, _⟩ := ins_get I2.hok hx
      obtain ⟨odx2, J2, _⟩ := O2.look
      have hup := F.up
      unfold PySem.W.ks_superIn at hup
      cases hc : PySem.W.clsIn K C with
      | none =>
        have := F.cls
        rw [hc] at this
        cases this
      | some cdC =>
        rw [hc] at hup
        obtain ⟨of, hof, hofc⟩ : ∃ of, h'.get? g = some of ∧ of.cls = .type "function" := by
          have ht' : (K.lookup g).map (·.cls) = some (.type "function") := F.ty
          cases z : K.lookup g with
          | none =>
            rw [z] at ht'
            cases ht'
          | some of =>
            rw [z] at ht'
            exact ⟨of, KX2 _ _ z, Option.some.inj ht'⟩
        refine ks_wpAny_getMethod_super hso (PySem.W.looks_opaque KX2 F.opq) (l₀ := cdC.mro) (fun A Q E s k q => wpAny_bind ((PySem.W.looks_clsIn KX2 hc) A _ E s k (wpAny_pure q))) rfl KX2 hup hof hofc (PySem.W.ks_ne KX2 J2 hc) eat ?_
        have I3 : Inv (supCx P w K mg base N qual scope f cc (.ref cda) A outer s H) [(h'.objs.size, PySem.W.methodObj (.ref g) (.ref x))] (L2.start N vs) H { s with heap := h'.push (PySem.W.methodObj (.ref g) (.ref x)), toks := s.toks + (ps.zip us).length + 1 } := by
          have I3' : Inv (supCx P w K mg base N qual scope f cc (.ref cda) A outer s H) [] (L2.start N vs) H { s with heap := h'.push (PySem.W.methodObj (.ref g) (.ref x)), toks := s.toks + (ps.zip us).length + 1 } := I2.kept fun b o q => Heap.get?_push_of_some _ q
          have fp := I2.fpOk (b := h'.objs.size) (H' := H) (Nat.le_refl _) (I2.hok.fresh (Nat.le_refl _))
          refine I3'.pins_of fun q hq => ?_
          have eq : q = (h'.objs.size, PySem.W.methodObj (.ref g) (.ref x)) := by simpa using hq
          subst eq
          exact ⟨Heap.get?_push_size _ rfl, fp.1, fp.2.1, fp.2.2.1, fun v z => by cases z⟩
        show wpAny _ _ (callWith cpos (.ref h'.objs.size) [] (backTo cpos (starEach (e :: rest) (supCx P w K mg base N qual scope f cc (.ref cda) A outer s H).env)) []) _ _ _
        have ha := (hargs cc (.ref cda) A outer s H hr2).run cpos _ _ _ _ _ I3 ht
        rw [hst] at ha ⊢
        refine PySem.W.callWith_of (P := PySem.W.MethP K h'.objs.size g (.ref x)) (by show ((false || (backTo cpos (starEach rest (supCx P w K mg base N qual scope f cc (.ref cda) A outer s H).env)).any (·.1)) || false) = false; rw [hpl]; rfl) (PySem.W.keeps_M F.fn) (PySem.Calls.evalArgs_plain (wpAny_mono ha (fun ws s2 z => ?_) fun _ _ z => z))
        obtain ⟨xs, H1, I4, rws, hG⟩ := z
        have hm := (I4.pin _ (List.mem_append_right _ (List.mem_singleton.mpr rfl))).1
        refine ⟨⟨hm, I4.kIn⟩, wpAny_call (ks_codeAny_call_bound hm ?_)⟩
        refine codeAny_mono (run_fnR (X := supCx P w K mg base N qual scope f cc (.ref cda) A outer s H) (E := E0) G hr2 pass0 I4 (us := .ref x :: ws) (vs := .ref x :: xs) (.cons rfl rws) hG) fun rr s' hq => ?_
        cases rr with
        | error e => exact hq
        | ok fl =>
          cases fl with
          | ret u =>
            obtain ⟨v, H', I5, rv, q5⟩ := hq
            exact ⟨rfl, H', I5.pins_of (fun p hp => nomatch hp), q5⟩
          | next => exact False.elim hq
          | brk => exact False.elim hq
          | cont => exact False.elim hq
  · obtain ⟨rfl, H', I', q⟩ := z
    exact wpAt_of_wpAny (wpAny_execs_nil ⟨.non, H', I'.os, I'.bare, I'.base, I'.hok, rfl, q⟩)
end
end Hy
namespace Hy
open PySem PySem.Spec PyProof.Rows L2
def sp1 (p : V → Hp → VK → Prop) : Sp := fun vs H Q _ => ∃ a, vs = [a] ∧ p a H Q
def sp2 (p : V → V → Hp → VK → Prop) : Sp := fun vs H Q _ => ∃ a b, vs = [a, b] ∧ p a b H Q
def sp3 (p : V → V → V → Hp → VK → Prop) : Sp := fun vs H Q _ => ∃ a b c, vs = [a, b, c] ∧ p a b c H Q
def sp4 (p : V → V → V → V → Hp → VK → Prop) : Sp := fun vs H Q _ => ∃ a b c d, vs = [a, b, c, d] ∧ p a b c d H Q
theorem len1 {p : V → Hp → VK → Prop} : ∀ vs H Q E, sp1 p vs H Q E → vs.length = 1 := fun _ _ _ _ ⟨_, e, _⟩ => by
  rw [e]
  rfl
theorem len2 {p : V → V → Hp → VK → Prop} : ∀ vs H Q E, sp2 p vs H Q E → vs.length = 2 := fun _ _ _ _ ⟨_, _, e, _⟩ => by
  rw [e]
  rfl
theorem len3 {p : V → V → V → Hp → VK → Prop} : ∀ vs H Q E, sp3 p vs H Q E → vs.length = 3 := fun _ _ _ _ ⟨_, _, _, e, _⟩ => by
  rw [e]
  rfl
theorem len4 {p : V → V → V → V → Hp → VK → Prop} : ∀ vs H Q E, sp4 p vs H Q E → vs.length = 4 := fun _ _ _ _ ⟨_, _, _, _, e, _⟩ => by
  rw [e]
  rfl
theorem r_sp1 {p : V → Hp → VK → Prop} {a : V} {H : Hp} {Q : VK} {E : XK} (h : p a H Q) : sp1 p [a] H Q E := ⟨a, rfl, h⟩
theorem r_sp2 {p : V → V → Hp → VK → Prop} {a b : V} {H : Hp} {Q : VK} {E : XK} (h : p a b H Q) : sp2 p [a, b] H Q E := ⟨a, b, rfl, h⟩
theorem r_sp3 {p : V → V → V → Hp → VK → Prop} {a b c : V} {H : Hp} {Q : VK} {E : XK} (h : p a b c H Q) : sp3 p [a, b, c] H Q E := ⟨a, b, c, rfl, h⟩
theorem r_sp4 {p : V → V → V → V → Hp → VK → Prop} {a b c d : V} {H : Hp} {Q : VK} {E : XK} (h : p a b c d H Q) : sp4 p [a, b, c, d] H Q E := ⟨a, b, c, d, rfl, h⟩
section
variable {P : Program} {w : World} {K : PySem.W.Frag} {mg : Str → Option Value} {base : Heap}
theorem Fun.fnr {x qual : Str} {st : Stmt} {f : Addr} {fd : FuncData} {N ps : List Str} {k : Nat} {sp : Sp} (G : Fun K x qual st f fd) (S : FnScope N ps (defScope st)) (len : ∀ vs H Q E, sp vs H Q E → vs.length = ps.length)
    (hb : ∀ (kV doc pm : Value) (an : Option Addr) (cdv ct : Value) (us : List Value), us.length = ps.length → bindArgs (PySem.W.fnOf x qual (defArgs st) (defBody st) (defScope st) .none kV doc pm an cdv ct) ⟨us, []⟩ = pure (ps.zip us))
    (hbody : ∀ (cdv : Value) (A : Around) (outer : List Env) (s : Shared) (H : Hp) (vs : List V) (Q : VK) (E : XK), Room k (A.deeper (envOfC qual (defScope st) s.heap.objs.size f cdv)) → sp vs H Q E →
      ∃ t, PSs (cxOf CX0 P w K mg base N qual (defScope st) f cdv A outer s H E).nox (defBody st) t ∧ t { nx := fun _ H' => Q .non H', rt := Q } (L2.start N vs) H) : FnR P w K mg base CX0 (k + 1) f sp := by
  have R := FnOk.raw (dvs := []) (ds := []) (G.ok (P := P) (w := w) (mg := mg) (base := base) (sp := sp) S len fun cdv A outer s H vs Q E hr h => hbody cdv A outer s H vs Q E hr h) (G.binds hb) .nil
  exact R.imp fun vs H Q E h => by
    rw [List.append_nil]
    exact h
/-- a method of the class at C -/
structure MtT (K : PySem.W.Frag) (C : Addr) (m qual : Str) (st : Stmt) : Prop where
  ex : ∃ f fd, Fun K m qual st f fd ∧ Meth K C m f
/-- a property of the class at C -/
structure PtT (K : PySem.W.Frag) (C : Addr) (m qual : Str) (st : Stmt) : Prop where
  ex : ∃ p f fd, Fun K m qual st f fd ∧ PropOf K C m p f
/-- the class x of the module and its __init__ -/
structure CtT (K : PySem.W.Frag) (mg : Str → Option Value) (x : Str) (C : Addr) (qual : Str) (st : Stmt) : Prop where
  ex : ∃ f fd, Fun K "__init__" qual st f fd ∧ Mk K C f
  at_ : mg x = some (.ref C)
theorem pe_gc {X : Cx} {x : Str} {v : V} {pos : Pos} (h : ∃ u, X.mg x = some u ∧ RelV v u) (hg : Gl X x) (hd : (x == ("__debug__" : Str)) = false := by decide) : PE X (.Name x pos) (tC v) := by
  obtain ⟨u, h1, h2⟩ := h
  exact pe_glob hg h1 h2 hd
end
/-- a special method of the class at C -/
structure SlT (K : PySem.W.Frag) (C : Addr) (m qual : Str) (st : Stmt) : Prop where
  ex : ∃ f fd, Fun K m qual st f fd ∧ PySem.W.findIn K (.ref C) m = some (some (.ref f)) ∧ PySem.W.isFn K (.ref f) = true ∧ PySem.W.fnIn K f = true
structure Sl (P : Program) (w : World) (K : PySem.W.Frag) (mg : Str → Option Value) (base : Heap) (C : Addr) (m : Str) (k : Nat) (sp : Sp) : Prop where
  ex : ∃ f, PySem.W.findIn K (.ref C) m = some (some (.ref f)) ∧ PySem.W.isFn K (.ref f) = true ∧ PySem.W.fnIn K f = true ∧ FnR P w K mg base CX0 k f sp
section
variable {X : Cx} {C : Addr} {k : Nat} {sp : Sp}
theorem call_lenSl (M : Sl X.prog X.w X.K X.mg X.base C "__len__" k sp) (hr : Room (k + 1) X.A) : CallR X (.builtin "len") (rLenOwn C sp) := by
  obtain ⟨f, h1, h2, h3, F⟩ := M.ex
  exact call_lenOwn h1 h2 F hr
theorem op_neSl (hn : PySem.W.findIn X.K (.ref C) "__ne__" = some (some (.builtin "object.__ne__"))) (hm : PySem.W.mroIn X.K C (.type "object") = some true) (M : Sl X.prog X.w X.K X.mg X.base C "__eq__" k sp) (hr : Room (k + 1) X.A) : OpR X (compareOp .NotEq) (rNeOwn C sp) := by
  obtain ⟨f, h1, h2, h3, F⟩ := M.ex
  exact op_neOwn hn hm h1 h2 F hr
theorem ix_ownSl (hq : PySem.W.noSeq X.K C = true) (M : Sl X.prog X.w X.K X.mg X.base C "__getitem__" k sp) (hr : Room (k + 1) X.A) {a b : Expr} {ta tb : TE} {pos : Pos} (ha : PE X a ta) (hb : PE X b tb)
    (hsl : ∀ (o i : Value), subscripted b true o i = runValue (.builtin "lifetime.subscript" ⟨[o, i], []⟩) := by intro _ _; with_unfolding_all rfl) : PE X (.Subscript a b pos) (tOp (rIxOwn C sp) ta tb) := by
  obtain ⟨f, h1, h2, h3, F⟩ := M.ex
  exact ix_own hq h1 h2 h3 F hr ha hb hsl
end
/-- the classes' places -/
structure Ad where
  CF : Addr
  CC : Addr
  CW : Addr
/-- what the program's top has left (filled by the head) -/
structure Txt (K : PySem.W.Frag) (mg : Str → Option Value) (C : Ad) : Prop where
  fn : ∀ p ∈ fnL, FnT K mg p.1 (top p.2)
  g_BLANK : ∃ u, mg "BLANK" = some u ∧ RelV (.str "-") u
  g_MAX : ∃ u, mg "MAX_COUNT_cases" = some u ∧ RelV (.int 1000000000000000000000000000000) u
  g_MOST : ∃ u, mg "MOST_BEARING" = some u ∧ RelV (.int 1000000000000000000000000000000000000000000000000000000000000) u
  g_SIGNS : ∃ u, mg "SIGNS" = some u ∧ RelV (.str "0123456789abcdefghijklmnopqrstuvwxyz") u
  g_LEAST : ∃ u, mg "LEAST_SIGNS" = some u ∧ RelV (.int 2) u
  f_len : mg "len" = none
  f_all : mg "all" = none
  f_any : mg "any" = none
  f_min : mg "min" = none
  f_max : mg "max" = none
  f_sum : mg "sum" = none
  f_list : mg "list" = none
  f_tuple : mg "tuple" = none
  f_dict : mg "dict" = none
  f_int : mg "int" = none
  f_str : mg "str" = none
  f_bool : mg "bool" = none
  f_repr : mg "repr" = none
  f_abs : mg "abs" = none
  f_sorted : mg "sorted" = none
  f_range : mg "range" = none
  f_enumerate : mg "enumerate" = none
  f_zip : mg "zip" = none
  f_isinstance : mg "isinstance" = none
  f_super : mg "super" = none
  ss : ∃ f fd, FunD K "subset_sums" "subset_sums" (defArgs (top 40)) (defBody (top 40)) (defScope (top 40)) [] [("sign", .int 1)] f fd ∧ mg "subset_sums" = some (.ref f)
  -- classes
  cF : Cls K C.CF
  cC : Cls K C.CC
  cW : Cls K C.CW
  mF : mg "Font" = some (.ref C.CF)
  nWord : NoAttr K C.CF "word"
  nRanks : NoAttr K C.CF "ranks"
  nHeads : NoAttr K C.CF "heads"
  nFontC : NoAttr K C.CC "own_font"
  nStock : NoAttr K C.CC "stock"
  nFontW : NoAttr K C.CW "own_font"
  nNumbers : NoAttr K C.CW "numbers"
  m_asc : MtT K C.CF "ascending" "Font.ascending" (inClass (top 57) 9)
  m_norm : MtT K C.CF "normal" "Font.normal" (inClass (top 57) 10)
  m_seen : MtT K C.CF "seen" "Font.seen" (inClass (top 57) 11)
  p_signs : PtT K C.CF "signs" "Font.signs" (inClass (top 57) 7)
  s_len : SlT K C.CF "__len__" "Font.__len__" (inClass (top 57) 5)
  s_eq : SlT K C.CF "__eq__" "Font.__eq__" (inClass (top 57) 4)
  neF : PySem.W.findIn K (.ref C.CF) "__ne__" = some (some (.builtin "object.__ne__"))
  objF : PySem.W.mroIn K C.CF (.type "object") = some true
  isF : PySem.W.kitOne K (.ref C.CF) (.ref C.CF) = some true
  p_fontC : PtT K C.CC "font" "Pile.font" (inClass (top 70) 1)
  p_plates : PtT K C.CC "plates" "Pile.plates" (inClass (top 70) 2)
  m_bearing : MtT K C.CC "bearing" "Pile.bearing" (inClass (top 70) 5)
  p_fontW : PtT K C.CW "font" "Wants.font" (inClass (top 83) 9)
  s_item : SlT K C.CW "__getitem__" "Wants.__getitem__" (inClass (top 83) 6)
  seqW : PySem.W.noSeq K C.CW = true
  i_wants : CtT K mg "Wants" C.CW "Wants.__init__" (inClass (top 83) 0)
section
variable {σ : L2.St} {H : Hp} {Q : VK} {K : PySem.W.Frag}
theorem r_isi_int {i : Int} (q : Q (.bl true) H) : rIsi K [.int i, .ty "int"] H Q := ⟨_, _, _, _, true, rfl, ClsV.ty _, TyX.base (TyOf.int i), kit_ty (by decide +kernel), q⟩
theorem r_isi_bool {i : Int} (q : Q (.bl false) H) : rIsi K [.int i, .ty "bool"] H Q := ⟨_, _, _, _, false, rfl, ClsV.ty _, TyX.base (TyOf.int i), kit_ty (by decide +kernel), q⟩
theorem r_isi_str {z : Str} (q : Q (.bl true) H) : rIsi K [.str z, .ty "str"] H Q := ⟨_, _, _, _, true, rfl, ClsV.ty _, TyX.base (TyOf.str z), kit_ty (by decide +kernel), q⟩
theorem r_isi_dict {a : Addr} {kvs : List (Key × V)} (h : H a = some (.dK kvs)) (q : Q (.bl true) H) : rIsi K [.ref a, .ty "dict"] H Q := ⟨_, _, _, _, true, rfl, ClsV.ty _, TyX.base (TyOf.dK h), kit_ty (by decide +kernel), q⟩
theorem r_isi_tup {a : Addr} {xs : List V} (h : H a = some (.tup xs)) (q : Q (.bl true) H) : rIsi K [.ref a, .ty "tuple"] H Q := ⟨_, _, _, _, true, rfl, ClsV.ty _, TyX.base (TyOf.tup h), kit_ty (by decide +kernel), q⟩
theorem r_eqN {i j : Int} (q : Q (.bl (decide (i = j))) H) : rEq (.int i) (.int j) H Q := ⟨rfl, by
  have e : decide (V.int i = V.int j) = decide (i = j) := by simp
  rw [e]
  exact q⟩
theorem r_neN {i j : Int} (q : Q (.bl (!decide (i = j))) H) : rNe (.int i) (.int j) H Q := ⟨rfl, by
  have e : decide (V.int i = V.int j) = decide (i = j) := by simp
  rw [e]
  exact q⟩
theorem r_eqS {x y : Str} (q : Q (.bl (decide (x = y))) H) : rEq (.str x) (.str y) H Q := ⟨rfl, by
  have e : decide (V.str x = V.str y) = decide (x = y) := by simp
  rw [e]
  exact q⟩
theorem r_neS {x y : Str} (q : Q (.bl (!decide (x = y))) H) : rNe (.str x) (.str y) H Q := ⟨rfl, by
  have e : decide (V.str x = V.str y) = decide (x = y) := by simp
  rw [e]
  exact q⟩
theorem r_lenS {z : Str} (hz : z.length ≤ 1000) (q : Q (.int (z.length : Nat)) H) : (fun (xs : List V) (H : Hp) (Q : VK) => ∃ z : Str, xs = [.str z] ∧ z.length ≤ sizeLine ∧ Q (.int z.length) H) [.str z] H Q := ⟨z, rfl, Nat.le_trans hz (by decide), q⟩
end
end Hy
namespace Hy
open PySem PySem.Spec PyProof.Rows L2
def S1 (c : Nat) : Str := ⟨#[c]⟩
def vS (c : Nat) : V := .str (S1 c)
def kS (c : Nat) : Key := .inr (S1 c)
theorem S1_inj {a b : Nat} : S1 a = S1 b ↔ a = b := ⟨fun h => by
  have := congrArg (fun z : Str => z.cps.toList) h
  simpa [S1] using this, fun h => by rw [h]⟩
theorem kS_inj {a b : Nat} : kS a = kS b ↔ a = b := ⟨fun h => S1_inj.mp (Sum.inr.inj h), fun h => by rw [h]⟩
def K2 (k : Nat × Nat) : Str := ⟨#[k.1, k.2]⟩
def kK (k : Nat × Nat) : Key := .inr (K2 k)
theorem K2_inj {a b : Nat × Nat} : K2 a = K2 b ↔ a = b := ⟨fun h => by
  have := congrArg (fun z : Str => z.cps.toList) h
  obtain ⟨a1, a2⟩ := a
  obtain ⟨b1, b2⟩ := b
  simpa [K2] using this, fun h => by rw [h]⟩
theorem kK_inj {a b : Nat × Nat} : kK a = kK b ↔ a = b := ⟨fun h => K2_inj.mp (Sum.inr.inj h), fun h => by rw [h]⟩
/-- the 36 signs' code points -/
def signsL : List Nat := [48, 49, 50, 51, 52, 53, 54, 55, 56, 57] ++ [97, 98, 99, 100, 101, 102, 103, 104, 105, 106, 107, 108, 109] ++ [110, 111, 112, 113, 114, 115, 116, 117, 118, 119, 120, 121, 122]
structure Ft where
  ws : List Nat
  hd : Nat → Option Nat
namespace Ft
def W (F : Ft) : Str := ⟨F.ws.toArray⟩
structure Ok (F : Ft) : Prop where
  nd : F.ws.Nodup
  lo : 2 ≤ F.ws.length
  hi : F.ws.length ≤ 5
  sg : ∀ c ∈ F.ws, c ∈ signsL
  hd1 : ∀ c d, F.hd c = some d → c ∈ F.ws ∧ d ∈ F.ws ∧ F.hd d = some c
def rk (F : Ft) (c : Nat) : Nat := F.ws.idxOf c
/-- the signs that a kind's sides show: themselves and their heads -/
def sides (F : Ft) (k : Nat × Nat) : List Nat := [k.1, k.2].filter (fun c => decide (c ≠ 45))
def shl (F : Ft) (k : Nat × Nat) : List Nat := F.sides k ++ (F.sides k).filterMap F.hd
/-- .. in the font's order -/
def sh (F : Ft) (k : Nat × Nat) : List Nat := F.ws.filter fun c => decide (c ∈ F.shl k)
/-- a kind as it is kept -/
def kOk (F : Ft) (k : Nat × Nat) : Prop := k.1 ∈ F.ws ∧ (k.2 = 45 ∨ (k.2 ∈ F.ws ∧ F.rk k.1 ≤ F.rk k.2))
end Ft
def ranksK (F : Ft) : List (Key × V) := F.ws.zipIdx.map fun p => (kS p.1, V.int (p.2 : Nat))
def stK (st : List ((Nat × Nat) × Int)) : List (Key × V) := st.map fun p => (kK p.1, V.int p.2)
def nmK (F : Ft) (n : Nat → Int) : List (Key × V) := F.ws.map fun c => (kS c, V.int (n c))
/-- the heads' dict -/
def hdK (F : Ft) (kvs : List (Key × V)) : Prop := (∀ c, valV kvs (kS c) = (F.hd c).map vS) ∧ (∀ p ∈ kvs, (∃ c, p.1 = kS c) ∧ ∃ c, p.2 = vS c) ∧ (kvs.map (·.1)).Nodup
theorem dOk_of {kvs : List (Key × V)} (h : ∀ p ∈ kvs, ∃ z : Str, p.1 = .inr z ∧ z.cps.size ≤ 2) : dOk kvs := fun v e => by
  cases kvs with
  | nil => cases e
  | cons q r =>
    have e2 : q = ((Sum.inr ("cells" : Str) : Key), v) := Option.some.inj e
    obtain ⟨z, h1, h2⟩ := h q (List.mem_cons_self ..)
    rw [e2] at h1
    have h3 : ("cells" : Str) = z := Sum.inr.inj h1
    rw [← h3] at h2
    exact absurd h2 (by decide)
theorem dOk_ranks (F : Ft) : dOk (ranksK F) := dOk_of fun p hp => by
  obtain ⟨q, _, rfl⟩ := List.mem_map.mp hp
  exact ⟨S1 q.1, rfl, by show 1 ≤ 2; decide⟩
theorem dOk_st (st : List ((Nat × Nat) × Int)) : dOk (stK st) := dOk_of fun p hp => by
  obtain ⟨q, _, rfl⟩ := List.mem_map.mp hp
  exact ⟨K2 q.1, rfl, by show 2 ≤ 2; decide⟩
theorem dOk_nm (F : Ft) (n : Nat → Int) : dOk (nmK F n) := dOk_of fun p hp => by
  obtain ⟨q, _, rfl⟩ := List.mem_map.mp hp
  exact ⟨S1 q, rfl, by show 1 ≤ 2; decide⟩
theorem dOk_hd {F : Ft} {kvs : List (Key × V)} (h : hdK F kvs) : dOk kvs := dOk_of fun p hp => by
  obtain ⟨⟨c, e⟩, _⟩ := h.2.1 p hp
  exact ⟨S1 c, e, by show 1 ≤ 2; decide⟩
/-- a font as an object -/
structure FontV (C : Ad) (H : Hp) (f : Addr) (F : Ft) (dx : Addr) (fs : List (Str × V)) (r h : Addr) (hk : List (Key × V)) : Prop where
  at_ : H f = some (.ins C.CF dx fs)
  word : fs.lookup ("word" : Str) = some (.str F.W)
  ranks : fs.lookup ("ranks" : Str) = some (.ref r)
  heads : fs.lookup ("heads" : Str) = some (.ref h)
  no : ∀ m, m ∉ ([("word" : Str), "ranks", "heads"] : List Str) → fs.lookup m = none
  hr : Rd H r (.dK (ranksK F))
  hh : Rd H h (.dK hk)
  hk : hdK F hk
def FontAt (C : Ad) (H : Hp) (f : Addr) (F : Ft) : Prop := F.Ok ∧ ∃ dx fs r h hk, FontV C H f F dx fs r h hk
/-- its dicts are not locked -/
def FontU (C : Ad) (H : Hp) (f : Addr) (F : Ft) : Prop := F.Ok ∧ ∃ dx fs r h hk, FontV C H f F dx fs r h hk ∧ H h = some (.dK hk)
theorem FontU.at {C : Ad} {H : Hp} {f : Addr} {F : Ft} (h : FontU C H f F) : FontAt C H f F := by
  obtain ⟨o, dx, fs, r, hh, hk, v, _⟩ := h
  exact ⟨o, dx, fs, r, hh, hk, v⟩
theorem Fm.rdK {b : Fb} {H H1 : Hp} {a : Addr} {kvs : List (Key × V)} (e : Fm b H H1) (h : Rd H a (.dK kvs)) (k : dOk kvs) : Rd H1 a (.dK kvs) := by
  rcases h with h | ⟨o, h⟩
  · exact .inl (e.dct h k)
  · exact .inr ⟨o, e.kp _ _ h rfl⟩
theorem FontV.mono {b : Fb} {C : Ad} {H H1 : Hp} {f : Addr} {F : Ft} {dx : Addr} {fs : List (Str × V)} {r h : Addr} {hk : List (Key × V)} (e : Fm b H H1) (v : FontV C H f F dx fs r h hk) : FontV C H1 f F dx fs r h hk :=
  ⟨e.ins v.at_, v.word, v.ranks, v.heads, v.no, e.rdK v.hr (dOk_ranks F), e.rdK v.hh (dOk_hd v.hk), v.hk⟩
theorem FontAt.mono {b : Fb} {C : Ad} {H H1 : Hp} {f : Addr} {F : Ft} (e : Fm b H H1) (h : FontAt C H f F) : FontAt C H1 f F := by
  obtain ⟨o, dx, fs, r, hh, hk, v⟩ := h
  exact ⟨o, dx, fs, r, hh, hk, v.mono e⟩
theorem FontU.mono {b : Fb} {C : Ad} {H H1 : Hp} {f : Addr} {F : Ft} (e : Fm b H H1) (h : FontU C H f F) : FontU C H1 f F := by
  obtain ⟨o, dx, fs, r, hh, hk, v, u⟩ := h
  exact ⟨o, dx, fs, r, hh, hk, v.mono e, e.dct u (dOk_hd v.hk)⟩
/-- locking a dict leaves what is read -/
theorem rd_lock {H : Hp} {d a : Addr} {u o : HO} {od : Obj} (hd : H d = some u) (hm : ∀ o' u', u ≠ .frz o' u') (h : Rd H a o) : Rd (upd H d (.frz od u)) a o := by
  by_cases e : a = d
  · subst e
    rcases h with h | ⟨ob, h⟩
    · rw [hd] at h
      cases h
      exact .inr ⟨od, upd_same⟩
    · rw [hd] at h
      exact absurd (Option.some.inj h) (hm _ _)
  · rcases h with h | ⟨ob, h⟩
    · exact .inl ((upd_ne e).trans h)
    · exact .inr ⟨ob, (upd_ne e).trans h⟩

theorem FontAt.lock {C : Ad} {H : Hp} {f d : Addr} {F : Ft} {kvs : List (Key × V)} {od : Obj} (hd : H d = some (.dK kvs)) (h : FontAt C H f F) : FontAt C (upd H d (.frz od (.dK kvs))) f F := by
  obtain ⟨o, dx, fs, r, hh, hk, v⟩ := h
  exact ⟨o, dx, fs, r, hh, hk, (upd_ne (ne_of v.at_ hd (by intro z; cases z))).trans v.at_, v.word, v.ranks, v.heads, v.no, rd_lock hd (fun _ _ z => nomatch z) v.hr, rd_lock hd (fun _ _ z => nomatch z) v.hh, v.hk⟩
/-- a case as an object: its font at f, its stock st in the dict at d -/
structure CaseV (C : Ad) (H : Hp) (x f d dx : Addr) (fs : List (Str × V)) (st : List ((Nat × Nat) × Int)) : Prop where
  at_ : H x = some (.ins C.CC dx fs)
  font : fs.lookup ("own_font" : Str) = some (.ref f)
  stock : fs.lookup ("stock" : Str) = some (.ref d)
  no : ∀ m, m ∉ ([("own_font" : Str), "stock"] : List Str) → fs.lookup m = none
  st : H d = some (.dK (stK st))
/-- its kinds are kept kinds, once each, its numbers positive -/
structure StOk (F : Ft) (st : List ((Nat × Nat) × Int)) : Prop where
  nd : (st.map (·.1)).Nodup
  ok : ∀ p ∈ st, F.kOk p.1
  pos : ∀ p ∈ st, 0 < p.2
  le : ∀ p ∈ st, p.2 ≤ 1000000000000000000000000000000
  len : st.length ≤ 20
def CaseAt (C : Ad) (H : Hp) (x f : Addr) (F : Ft) (st : List ((Nat × Nat) × Int)) : Prop := FontU C H f F ∧ StOk F st ∧ ∃ d dx fs, CaseV C H x f d dx fs st
theorem CaseV.mono {b : Fb} {C : Ad} {H H1 : Hp} {x f d dx : Addr} {fs : List (Str × V)} {st : List ((Nat × Nat) × Int)} (e : Fm b H H1) (v : CaseV C H x f d dx fs st) : CaseV C H1 x f d dx fs st :=
  ⟨e.ins v.at_, v.font, v.stock, v.no, e.dct v.st (dOk_st st)⟩
theorem CaseAt.mono {b : Fb} {C : Ad} {H H1 : Hp} {x f : Addr} {F : Ft} {st : List ((Nat × Nat) × Int)} (e : Fm b H H1) (h : CaseAt C H x f F st) : CaseAt C H1 x f F st := by
  obtain ⟨a, b, d, dx, fs, v⟩ := h
  exact ⟨a.mono e, b, d, dx, fs, v.mono e⟩
/-- wants: a number for each of the font's signs -/
structure WantsV (C : Ad) (H : Hp) (x f d dx : Addr) (fs : List (Str × V)) (F : Ft) (n : Nat → Int) : Prop where
  at_ : H x = some (.ins C.CW dx fs)
  font : fs.lookup ("own_font" : Str) = some (.ref f)
  numbers : fs.lookup ("numbers" : Str) = some (.ref d)
  no : ∀ m, m ∉ ([("own_font" : Str), "numbers"] : List Str) → fs.lookup m = none
  nm : H d = some (.dK (nmK F n))
def WantsAt (C : Ad) (H : Hp) (x f : Addr) (F : Ft) (n : Nat → Int) : Prop := FontU C H f F ∧ ∃ d dx fs, WantsV C H x f d dx fs F n
theorem WantsV.mono {b : Fb} {C : Ad} {H H1 : Hp} {x f d dx : Addr} {fs : List (Str × V)} {F : Ft} {n : Nat → Int} (e : Fm b H H1) (v : WantsV C H x f d dx fs F n) : WantsV C H1 x f d dx fs F n :=
  ⟨e.ins v.at_, v.font, v.numbers, v.no, e.dct v.nm (dOk_nm F n)⟩
theorem WantsAt.mono {b : Fb} {C : Ad} {H H1 : Hp} {x f : Addr} {F : Ft} {n : Nat → Int} (e : Fm b H H1) (h : WantsAt C H x f F n) : WantsAt C H1 x f F n := by
  obtain ⟨a, d, dx, fs, v⟩ := h
  exact ⟨a.mono e, d, dx, fs, v.mono e⟩
theorem val_map {α : Type} [DecidableEq α] (key : α → Key) (hk : ∀ a b, key a = key b ↔ a = b) (val : α → V) : ∀ (l : List α) (c : α), valV (l.map fun a => (key a, val a)) (key c) = if c ∈ l then some (val c) else none
  | [], c => rfl
  | a :: l, c => by
    show valV ((key a, val a) :: l.map fun a => (key a, val a)) (key c) = _
    by_cases e : a = c
    · subst e
      rw [valV_pos rfl, if_pos (List.mem_cons_self ..)]
    · rw [valV_neg (fun z => e ((hk _ _).mp z)), val_map key hk val l c]
      have h : (c ∈ a :: l) ↔ c ∈ l := by
        rw [List.mem_cons]
        exact ⟨fun z => z.elim (fun z => absurd z.symm e) id, Or.inr⟩
      by_cases h2 : c ∈ l
      · rw [if_pos h2, if_pos (h.mpr h2)]
      · rw [if_neg h2, if_neg (fun z => h2 (h.mp z))]
theorem nm_get (F : Ft) (n : Nat → Int) (c : Nat) : valV (nmK F n) (kS c) = if c ∈ F.ws then some (.int (n c)) else none := val_map kS (fun a b => kS_inj) (fun c => V.int (n c)) F.ws c
theorem ranks_from : ∀ (l : List Nat) (i c : Nat), valV ((l.zipIdx i).map fun p => (kS p.1, V.int (p.2 : Nat))) (kS c) = if c ∈ l then some (.int ((i + l.idxOf c : Nat) : Int)) else none
  | [], i, c => rfl
  | a :: l, i, c => by
    rw [List.zipIdx_cons, List.map_cons]
    by_cases e : a = c
    · subst e
      rw [valV_pos rfl, if_pos (List.mem_cons_self ..), List.idxOf_cons_self]
      rfl
    · rw [valV_neg (fun z => e (kS_inj.mp z)), ranks_from l (i + 1) c]
      have h : (c ∈ a :: l) ↔ c ∈ l := by
        rw [List.mem_cons]
        exact ⟨fun z => z.elim (fun z => absurd z.symm e) id, Or.inr⟩
      by_cases h2 : c ∈ l
      · have e3 : (a :: l).idxOf c = l.idxOf c + 1 := by rw [List.idxOf_cons, beq_eq_false_iff_ne.mpr e]; rfl
        rw [if_pos h2, if_pos (h.mpr h2), e3]
        have e4 : i + 1 + l.idxOf c = i + (l.idxOf c + 1) := by omega
        rw [e4]
      · rw [if_neg h2, if_neg (fun z => h2 (h.mp z))]
theorem ranks_get (F : Ft) (c : Nat) : valV (ranksK F) (kS c) = if c ∈ F.ws then some (.int (F.rk c : Nat)) else none := by
  have := ranks_from F.ws 0 c
  rw [Nat.zero_add] at this
  exact this
end Hy
namespace Hy
/-- the in-place sums: bit after bit, f(m) gets s times f(m without the bit) -/
def zt (s : Int) : Nat → (Nat → Int) → Nat → Int
  | 0, f, m => f m
  | k + 1, f, m => if m.testBit k = true then zt s k f m + s * zt s k f (m ^^^ 2 ^ k) else zt s k f m
/-- the numbers of a list of (place, number), by places -/
def exL (l : List (Nat × Int)) (m : Nat) : Int := (l.map fun p => if p.1 = m then p.2 else 0).sum
theorem exL_cons (p : Nat × Int) (l : List (Nat × Int)) (m : Nat) : exL (p :: l) m = p.2 * (if p.1 = m then 1 else 0) + exL l m := by
  unfold exL
  rw [List.map_cons, List.sum_cons]
  split <;> simp
theorem zt_lin (s : Int) (c : Int) (f g : Nat → Int) : ∀ (k m : Nat), zt s k (fun m => c * f m + g m) m = c * zt s k f m + zt s k g m
  | 0, m => rfl
  | k + 1, m => by
    unfold zt
    rw [zt_lin s c f g k m, zt_lin s c f g k (m ^^^ 2 ^ k)]
    split
    · rw [Int.mul_add, Int.mul_add]
      have e : s * (c * zt s k f (m ^^^ 2 ^ k)) = c * (s * zt s k f (m ^^^ 2 ^ k)) := by rw [← Int.mul_assoc, ← Int.mul_assoc, Int.mul_comm s c]
      omega
    · rfl
theorem zt_zero (s : Int) : ∀ (k m : Nat), zt s k (fun _ => 0) m = 0
  | 0, m => rfl
  | k + 1, m => by
    unfold zt
    rw [zt_zero s k m, zt_zero s k (m ^^^ 2 ^ k)]
    simp
theorem xor_lt {n k m : Nat} (hk : k < n) (hm : m < 2 ^ n) : m ^^^ 2 ^ k < 2 ^ n := Nat.xor_lt_two_pow hm (Nat.pow_lt_pow_right (by decide) hk)
theorem zt_congr (s : Int) {n : Nat} {f g : Nat → Int} (h : ∀ m, m < 2 ^ n → f m = g m) : ∀ (k m : Nat), k ≤ n → m < 2 ^ n → zt s k f m = zt s k g m
  | 0, m, _, hm => h m hm
  | k + 1, m, hk, hm => by
    unfold zt
    rw [zt_congr s h k m (by omega) hm, zt_congr s h k _ (by omega) (xor_lt (by omega) hm)]
def dl (a m : Nat) : Int := if a = m then 1 else 0
def nOk (n : Nat) : Bool := n == 2 || n == 3 || n == 4 || n == 5
theorem nOk_cases {n : Nat} (h : 2 ≤ n ∧ n ≤ 5) : n = 2 ∨ n = 3 ∨ n = 4 ∨ n = 5 := by omega
theorem zt_dl : ∀ n ∈ [2, 3, 4, 5], ∀ a, a < 2 ^ n → ∀ m, m < 2 ^ n → zt 1 n (dl a) m = if a &&& m = a then 1 else 0 := by
  intro n hn
  simp only [List.mem_cons, List.not_mem_nil, or_false] at hn
  rcases hn with rfl | rfl | rfl | rfl <;> decide +kernel
theorem zt_back_dl : ∀ n ∈ [2, 3, 4, 5], ∀ a, a < 2 ^ n → ∀ m, m < 2 ^ n → zt (-1) n (zt 1 n (dl a)) m = dl a m := by
  intro n hn
  simp only [List.mem_cons, List.not_mem_nil, or_false] at hn
  rcases hn with rfl | rfl | rfl | rfl <;> decide +kernel
theorem mem_n {n : Nat} (h : 2 ≤ n ∧ n ≤ 5) : n ∈ [2, 3, 4, 5] := by
  rcases nOk_cases h with rfl | rfl | rfl | rfl <;> decide
/-- the sums over subsets of a list's numbers -/
theorem zt_exL {n : Nat} (hn : 2 ≤ n ∧ n ≤ 5) {m : Nat} (hm : m < 2 ^ n) : ∀ (l : List (Nat × Int)), (∀ p ∈ l, p.1 < 2 ^ n) → zt 1 n (exL l) m = (l.map fun p => if p.1 &&& m = p.1 then p.2 else 0).sum
  | [], _ => zt_zero 1 n m
  | p :: l, h => by
    have e : exL (p :: l) = fun m => p.2 * dl p.1 m + exL l m := funext fun m => exL_cons p l m
    rw [e, zt_lin, zt_dl n (mem_n hn) p.1 (h p (List.mem_cons_self ..)) m hm, zt_exL hn hm l fun q hq => h q (List.mem_cons_of_mem _ hq), List.map_cons, List.sum_cons]
    split <;> simp
theorem zt_back_exL {n : Nat} (hn : 2 ≤ n ∧ n ≤ 5) {m : Nat} (hm : m < 2 ^ n) : ∀ (l : List (Nat × Int)), (∀ p ∈ l, p.1 < 2 ^ n) → zt (-1) n (zt 1 n (exL l)) m = exL l m
  | [], _ => by
    have e : zt 1 n (exL []) = fun _ => 0 := funext fun m => zt_zero 1 n m
    rw [e, zt_zero]
    rfl
  | p :: l, h => by
    have e : exL (p :: l) = fun m => p.2 * dl p.1 m + exL l m := funext fun m => exL_cons p l m
    have e2 : zt 1 n (exL (p :: l)) = fun m => p.2 * zt 1 n (dl p.1) m + zt 1 n (exL l) m := funext fun m => by rw [e, zt_lin]
    rw [e2, zt_lin, zt_back_dl n (mem_n hn) p.1 (h p (List.mem_cons_self ..)) m hm, zt_back_exL hn hm l fun q hq => h q (List.mem_cons_of_mem _ hq), exL_cons]
    rfl
theorem exL_range {f : Nat → Int} : ∀ (N m : Nat), exL ((List.range N).map fun a => (a, f a)) m = if m < N then f m else 0
  | 0, m => rfl
  | N + 1, m => by
    have h := exL_range (f := f) N m
    unfold exL at h ⊢
    rw [List.range_succ, List.map_append, List.map_append, List.sum_append, h]
    simp only [List.map_cons, List.map_nil, List.sum_cons, List.sum_nil]
    by_cases h1 : m < N
    · rw [if_pos h1, if_neg (by omega), if_pos (by omega)]
      omega
    · by_cases h2 : N = m
      · rw [if_neg h1, if_pos h2, if_pos (by omega), h2]
        omega
      · rw [if_neg h1, if_neg h2, if_neg (by omega)]
        omega
/-- and back -/
theorem zt_back {n : Nat} (hn : 2 ≤ n ∧ n ≤ 5) (f : Nat → Int) {m : Nat} (hm : m < 2 ^ n) : zt (-1) n (zt 1 n f) m = f m := by
  have h1 : ∀ m, m < 2 ^ n → f m = exL ((List.range (2 ^ n)).map fun a => (a, f a)) m := fun m hm => by rw [exL_range, if_pos hm]
  rw [zt_congr (-1) (f := zt 1 n f) (g := zt 1 n (exL ((List.range (2 ^ n)).map fun a => (a, f a)))) (fun m hm => zt_congr 1 h1 n m (Nat.le_refl _) hm) n m (Nat.le_refl _) hm, zt_back_exL hn hm _ fun p hp => ?_, ← h1 m hm]
  obtain ⟨a, ha, rfl⟩ := List.mem_map.mp hp
  exact List.mem_range.mp ha
end Hy
namespace Hy
def bm : List Bool → Nat
  | [] => 0
  | b :: bs => (if b then 1 else 0) + 2 * bm bs
def bits (n m : Nat) : List Bool := (List.range n).map m.testBit
def allB : Nat → List (List Bool)
  | 0 => [[]]
  | n + 1 => (allB n).flatMap fun x => [false :: x, true :: x]
theorem mem_allB : ∀ (x : List Bool), x ∈ allB x.length
  | [] => List.mem_cons_self ..
  | b :: x => List.mem_flatMap.mpr ⟨x, mem_allB x, by cases b <;> simp⟩
theorem mem_allB' {x : List Bool} {n : Nat} (h : x.length = n) : x ∈ allB n := h ▸ mem_allB x
def le2 : List Bool → List Bool → Bool
  | a :: x, b :: y => (!a || b) && le2 x y
  | _, _ => true
theorem bm_lt : ∀ x : List Bool, bm x < 2 ^ x.length
  | [] => by decide
  | b :: x => by
    have := bm_lt x
    unfold bm
    rw [List.length_cons, Nat.pow_succ]
    split <;> omega
theorem d_bits : ∀ n ∈ [2, 3, 4, 5], ∀ m, m < 2 ^ n → bm (bits n m) = m := by
  intro n hn
  simp only [List.mem_cons, List.not_mem_nil, or_false] at hn
  rcases hn with rfl | rfl | rfl | rfl <;> decide +kernel
theorem d_and : ∀ n ∈ [2, 3, 4, 5], ∀ x ∈ allB n, ∀ y ∈ allB n, decide (bm x &&& bm y = bm x) = le2 x y := by
  intro n hn
  simp only [List.mem_cons, List.not_mem_nil, or_false] at hn
  rcases hn with rfl | rfl | rfl | rfl <;> decide +kernel
theorem d_not : ∀ n ∈ [2, 3, 4, 5], ∀ y ∈ allB n, 2 ^ n - 1 - bm y = bm (y.map (!·)) := by
  intro n hn
  simp only [List.mem_cons, List.not_mem_nil, or_false] at hn
  rcases hn with rfl | rfl | rfl | rfl <;> decide +kernel
theorem d_one : ∀ n ∈ [2, 3, 4, 5], ∀ i, i < n → ∀ m, m < 2 ^ n → decide (2 ^ i &&& m = 2 ^ i) = m.testBit i := by
  intro n hn
  simp only [List.mem_cons, List.not_mem_nil, or_false] at hn
  rcases hn with rfl | rfl | rfl | rfl <;> decide +kernel
theorem d_full : ∀ n ∈ [2, 3, 4, 5], ∀ m, m < 2 ^ n → m &&& (2 ^ n - 1) = m := by
  intro n hn
  simp only [List.mem_cons, List.not_mem_nil, or_false] at hn
  rcases hn with rfl | rfl | rfl | rfl <;> decide +kernel
theorem le2_map {α : Type} (p q : α → Bool) : ∀ l : List α, le2 (l.map p) (l.map q) = true ↔ ∀ c ∈ l, p c = true → q c = true
  | [] => by simp [le2]
  | a :: l => by
    simp only [List.map_cons, le2, Bool.and_eq_true, le2_map p q l, List.mem_cons, forall_eq_or_imp]
    constructor
    · intro h
      exact ⟨fun z => by have := h.1; rw [z] at this; simpa using this, h.2⟩
    · intro h
      refine ⟨?_, h.2⟩
      cases e : p a with
      | true => rw [h.1 e]; rfl
      | false => rfl
theorem range_idx (q : Nat → Bool) : ∀ (l : List Nat), l.Nodup → (List.range l.length).map q = l.map fun c => q (l.idxOf c) := by
  intro l hl
  apply List.ext_getElem
  · simp
  · intro i h1 h2
    simp only [List.getElem_map, List.getElem_range]
    rw [List.length_map] at h2
    rw [hl.idxOf_getElem]
namespace Ft
/-- sign c is in the set that the mask m tells -/
def qm (F : Ft) (m c : Nat) : Bool := m.testBit (F.rk c)
def mkp (F : Ft) (p : Nat → Bool) : Nat := bm (F.ws.map p)
def n (F : Ft) : Nat := F.ws.length
theorem Ok.n {F : Ft} (h : F.Ok) : 2 ≤ F.n ∧ F.n ≤ 5 := ⟨h.lo, h.hi⟩
theorem bits_ws {F : Ft} (h : F.Ok) (m : Nat) : bits F.n m = F.ws.map (F.qm m) := range_idx m.testBit F.ws h.nd
theorem mkp_qm {F : Ft} (h : F.Ok) {m : Nat} (hm : m < 2 ^ F.n) : F.mkp (F.qm m) = m := by
  unfold mkp
  rw [← bits_ws h, d_bits F.n (mem_n h.n) m hm]
theorem mkp_lt (F : Ft) (p : Nat → Bool) : F.mkp p < 2 ^ F.n := by
  have := bm_lt (F.ws.map p)
  rw [List.length_map] at this
  exact this
theorem mkp_and {F : Ft} (h : F.Ok) (p q : Nat → Bool) : (F.mkp p &&& F.mkp q = F.mkp p) ↔ ∀ c ∈ F.ws, p c = true → q c = true := by
  have := d_and F.n (mem_n h.n) (F.ws.map p) (mem_allB' (by simp [Ft.n])) (F.ws.map q) (mem_allB' (by simp [Ft.n]))
  rw [← le2_map p q F.ws, ← this, decide_eq_true_iff]
  rfl
theorem mkp_not {F : Ft} (h : F.Ok) (q : Nat → Bool) : 2 ^ F.n - 1 - F.mkp q = F.mkp fun c => !q c := by
  have := d_not F.n (mem_n h.n) (F.ws.map q) (mem_allB' (by simp [Ft.n]))
  rw [List.map_map] at this
  exact this
/-- two masks agree just if they tell the same signs -/
theorem mkp_congr {F : Ft} {p q : Nat → Bool} (h : ∀ c ∈ F.ws, p c = q c) : F.mkp p = F.mkp q := by
  unfold mkp
  rw [List.map_congr_left h]
/-- the mask of what a kind shows -/
def mks (F : Ft) (k : Nat × Nat) : Nat := F.mkp fun c => decide (c ∈ F.shl k)
def exP (F : Ft) (st : List ((Nat × Nat) × Int)) : List (Nat × Int) := st.map fun p => (F.mks p.1, p.2)
/-- the exact numbers -/
def exF (F : Ft) (st : List ((Nat × Nat) × Int)) (m : Nat) : Int := exL (F.exP st) m
theorem exP_lt (F : Ft) (st : List ((Nat × Nat) × Int)) : ∀ p ∈ F.exP st, p.1 < 2 ^ F.n := fun p hp => by
  obtain ⟨q, _, rfl⟩ := List.mem_map.mp hp
  exact F.mkp_lt _
/-- how many plates show a sign of q -/
def bear (F : Ft) (st : List ((Nat × Nat) × Int)) (q : Nat → Bool) : Int := (st.map fun p => if (F.sh p.1).any q = true then p.2 else 0).sum
theorem any_sh (F : Ft) (k : Nat × Nat) (q : Nat → Bool) : (F.sh k).any q = true ↔ ∃ c ∈ F.ws, c ∈ F.shl k ∧ q c = true := by
  unfold sh
  simp only [List.any_eq_true, List.mem_filter, decide_eq_true_eq]
  exact ⟨fun ⟨c, ⟨a, b⟩, d⟩ => ⟨c, a, b, d⟩, fun ⟨c, a, b, d⟩ => ⟨c, ⟨a, b⟩, d⟩⟩
theorem sum_sub {α : Type} (f g : α → Int) : ∀ l : List α, (l.map f).sum - (l.map g).sum = (l.map fun a => f a - g a).sum
  | [] => rfl
  | a :: l => by
    have := sum_sub f g l
    simp only [List.map_cons, List.sum_cons]
    omega
/-- bearings by masks: the whole less what lies within the rest -/
theorem bear_zt {F : Ft} (h : F.Ok) (st : List ((Nat × Nat) × Int)) {m : Nat} (hm : m < 2 ^ F.n) :
    zt 1 F.n (F.exF st) (2 ^ F.n - 1) - zt 1 F.n (F.exF st) (2 ^ F.n - 1 - m) = F.bear st (F.qm m) := by
  have hp : 0 < 2 ^ F.n := Nat.two_pow_pos _
  unfold exF
  rw [zt_exL h.n (show 2 ^ F.n - 1 < 2 ^ F.n by omega) _ (F.exP_lt st), zt_exL h.n (show 2 ^ F.n - 1 - m < 2 ^ F.n by omega) _ (F.exP_lt st)]
  unfold exP bear
  rw [List.map_map, List.map_map, sum_sub]
  congr 1
  refine List.map_congr_left fun p _ => ?_
  simp only [Function.comp]
  have e1 : F.mks p.1 &&& (2 ^ F.n - 1) = F.mks p.1 := d_full F.n (mem_n h.n) _ (F.mkp_lt _)
  rw [if_pos e1]
  have e2 : (F.mks p.1 &&& (2 ^ F.n - 1 - m) = F.mks p.1) ↔ ¬ (F.sh p.1).any (F.qm m) = true := by
    have e3 : 2 ^ F.n - 1 - m = F.mkp fun c => !F.qm m c := by
      rw [← mkp_not h, mkp_qm h hm]
    rw [e3, any_sh]
    unfold mks
    rw [mkp_and h]
    constructor
    · rintro z ⟨c, h1, h2, h3⟩
      have := z c h1 (decide_eq_true h2)
      rw [h3] at this
      cases this
    · intro z c h1 h2
      cases e : F.qm m c with
      | false => rfl
      | true => exact absurd ⟨c, h1, of_decide_eq_true h2, e⟩ z
  by_cases hq : (F.sh p.1).any (F.qm m) = true
  · rw [if_pos hq, if_neg (fun z => e2.mp z hq)]
    omega
  · rw [if_neg hq, if_pos (e2.mpr hq)]
    omega
/-- wanted of the signs of q -/
def want (F : Ft) (nm : Nat → Int) (q : Nat → Bool) : Int := (F.ws.map fun c => if q c = true then nm c else 0).sum
def wtP (F : Ft) (nm : Nat → Int) : List (Nat × Int) := F.ws.map fun c => (2 ^ F.rk c, nm c)
theorem wtP_lt {F : Ft} (nm : Nat → Int) : ∀ p ∈ F.wtP nm, p.1 < 2 ^ F.n := fun p hp => by
  obtain ⟨c, hc, rfl⟩ := List.mem_map.mp hp
  exact Nat.pow_lt_pow_right (by decide) (List.idxOf_lt_length_of_mem hc)
theorem want_zt {F : Ft} (h : F.Ok) (nm : Nat → Int) {m : Nat} (hm : m < 2 ^ F.n) : zt 1 F.n (exL (F.wtP nm)) m = F.want nm (F.qm m) := by
  rw [zt_exL h.n hm _ (wtP_lt nm)]
  unfold wtP want
  rw [List.map_map]
  congr 1
  refine List.map_congr_left fun c hc => ?_
  have := d_one F.n (mem_n h.n) (F.rk c) (List.idxOf_lt_length_of_mem hc) m hm
  simp only [Function.comp]
  unfold qm
  rw [← this]
  simp only [decide_eq_true_eq]
/-- the set's signs as a text -/
def setL (F : Ft) (m : Nat) : List Nat := F.ws.filter (F.qm m)
def setT (F : Ft) (m : Nat) : PySem.Str := ⟨(F.setL m).toArray⟩
theorem ne45 {F : Ft} (h : F.Ok) {c : Nat} (hc : c ∈ F.ws) : c ≠ 45 := fun e => by
  have := h.sg c hc
  rw [e] at this
  exact absurd this (by decide)
theorem mem_shl {F : Ft} (h : F.Ok) {k : Nat × Nat} (hk : F.kOk k) : k.1 ∈ F.shl k := by
  unfold shl sides
  refine List.mem_append_left _ (List.mem_filter.mpr ⟨List.mem_cons_self .., decide_eq_true (ne45 h hk.1)⟩)
theorem mks_ne {F : Ft} (h : F.Ok) {k : Nat × Nat} (hk : F.kOk k) : F.mks k ≠ 0 := fun e => by
  have h1 := (mkp_and h (fun c => decide (c ∈ F.shl k)) fun _ => false).mp (by
    show F.mks k &&& _ = F.mks k
    rw [e, Nat.zero_and]) k.1 hk.1 (decide_eq_true (mem_shl h hk))
  cases h1
theorem exF_zero {F : Ft} (hF : F.Ok) {st : List ((Nat × Nat) × Int)} (h : StOk F st) : F.exF st 0 = 0 := by
  have key : ∀ k, F.kOk k → F.mks k ≠ 0 := fun k hk => mks_ne hF hk
  unfold exF exL exP
  rw [List.map_map]
  have : ∀ l : List ((Nat × Nat) × Int), (∀ p ∈ l, F.kOk p.1) → (l.map ((fun p => if p.1 = 0 then p.2 else 0) ∘ fun p => (F.mks p.1, p.2))).sum = 0 := by
    intro l
    induction l with
    | nil => intro _; rfl
    | cons p l ih =>
      intro hl
      rw [List.map_cons, List.sum_cons, ih fun q hq => hl q (List.mem_cons_of_mem _ hq)]
      simp only [Function.comp]
      rw [if_neg (key p.1 (hl p (List.mem_cons_self ..)))]
      rfl
  exact this st h.ok
end Ft
end Hy
namespace Hy
open PySem PySem.Spec PyProof.Rows L2
section
variable {σ : L2.St} {H : Hp} {Q : VK} {K : PySem.W.Frag} {ta te tk tv to : TE} {tl : TA} {C : Ad} {f : Addr} {F : Ft} {wi : TI} {g : TG} {tt : TT} {vs : List Nat}
theorem r_pt {C : Addr} {sp : Sp} (h : ta σ H fun x H1 => ∃ a dx fs, x = .ref a ∧ H1 a = some (.ins C dx fs) ∧ sp [.ref a] H1 Q E0) : tPt C sp ta σ H Q := h
theorem r_mt {C : Addr} {m : Str} {sp : Sp} (h : ta σ H fun x H1 => ∃ a dx fs, x = .ref a ∧ H1 a = some (.ins C dx fs) ∧ fs.lookup m = none ∧ tl σ H1 fun vs H2 => sp (x :: vs) H2 Q E0) : tMt C m sp ta tl σ H Q := h
theorem r_bm {T : String} {r : V → List V → Hp → VK → Prop} (h : to σ H fun x H1 => tyV K T x H1 ∧ tl σ H1 fun xs H2 => r x xs H2 Q) : tBM K T r to tl σ H Q := h
theorem r_iEnumS {R : It → Hp → Prop} (h : tl σ H fun vs H1 => ∃ z : Str, vs = [.str z] ∧ R (Ites z) H1) : iEnumS tl σ H R := h
theorem r_iStr {R : It → Hp → Prop} (h : te σ H fun v H1 => ∃ x, v = .str x ∧ R (Its x) H1) : iStr te σ H R := h
theorem r_iList {R : It → Hp → Prop} (h : te σ H fun x H1 => ∃ a, x = .ref a ∧ (∃ xs, SqL K H1 a xs) ∧ R (Itl K a) H1) : iList K te σ H R := h
theorem r_iTup {R : It → Hp → Prop} (h : te σ H fun x H1 => ∃ a, x = .ref a ∧ (∃ xs, SqT K H1 a xs) ∧ R (Itt K a) H1) : iTup K te σ H R := h
theorem r_iRng1 {R : It → Hp → Prop} (h : tl σ H fun vs H1 => ∃ j : Int, vs = [.int j] ∧ -(2 ^ 62) ≤ j ∧ j < 2 ^ 62 ∧ R (Itr 0 j.toNat) H1) : iRng1 tl σ H R := h
theorem r_iRng2 {R : It → Hp → Prop} (h : tl σ H fun vs H1 => ∃ i j : Int, vs = [.int i, .int j] ∧ (-(2 ^ 62) ≤ i ∧ i < 2 ^ 62 ∧ -(2 ^ 62) ≤ j ∧ j < 2 ^ 62) ∧ R (Itr i (j - i).toNat) H1) : iRng2 tl σ H R := h
theorem r_iEnum {R : It → Hp → Prop} (h : tl σ H fun vs H1 => ∃ a xs, vs = [.ref a] ∧ SqL K H1 a xs ∧ R (Ite K a) H1) : iEnum K tl σ H R := h
theorem r_iZip {R : It → Hp → Prop} (h : tl σ H fun vs H1 => ∃ a b xs ys, vs = [.ref a, .ref b] ∧ SqL K H1 a xs ∧ SqL K H1 b ys ∧ R (Itz K a b) H1) : iZip K tl σ H R := h
theorem r_iKeys {R : It → Hp → Prop} (h : te σ H fun x H1 => ∃ d o, x = .ref d ∧ ((∃ kvs, H1 d = some (.frz o (.dK kvs)) ∧ R (Itk d o kvs) H1) ∨ ∃ kvs, H1 d = some (.frz o (.dT kvs)) ∧ R (Itkt d o kvs) H1)) : iKeys te σ H R := h
theorem r_iItems {R : It → Hp → Prop} (h : te σ H fun x H1 => ∃ d o kvs, x = .ref d ∧ H1 d = some (.frz o (.dK kvs)) ∧ R (Iti d o kvs) H1) : iItems te σ H R := h
theorem r_iVals {R : It → Hp → Prop} (h : te σ H fun x H1 => ∃ d o kvs, x = .ref d ∧ H1 d = some (.frz o (.dK kvs)) ∧ R (Itd d o kvs) H1) : iVals te σ H R := h
theorem r_yes {Q : Bool → Hp → Prop} (q : Q true H) : tYes σ H Q := q
theorem r_lcT (h : wi σ H fun J H1 => ∀ D, H1 D = none → ∃ W : Nat → Nat → Hp → Prop, (∃ m, W 0 m (upd H1 D (.lst []))) ∧ ∀ i m H, W i m H →
  (J.stop i H ∧ Q (.ref D) H) ∨ (J.go i H ∧ ∃ Nx : Hp → Prop, (∀ H', Nx H' → ∃ m', m' < m ∧ W (i + 1) m' H') ∧ ∀ x H', J.yld i H x H' → g x (wipe σ vs) H' fun σ2 H2 => wipe σ2 vs = wipe σ vs ∧ tt σ2 H2 fun b H3 =>
    if b = true then te σ2 H3 fun y H4 => ∃ acc, H4 D = some (.lst acc) ∧ acc.length < sizeLine ∧ Nx (upd H4 D (.lst (acc ++ [y]))) else Nx H3)) : tLc wi g tt te vs σ H Q := h
theorem r_dcT (h : wi σ H fun J H1 => ∀ D, H1 D = none → ∃ W : Nat → Nat → Hp → Prop, (∃ m, W 0 m (upd H1 D (.dK []))) ∧ ∀ i m H, W i m H →
  (J.stop i H ∧ Q (.ref D) H) ∨ (J.go i H ∧ ∃ Nx : Hp → Prop, (∀ H', Nx H' → ∃ m', m' < m ∧ W (i + 1) m' H') ∧ ∀ x H', J.yld i H x H' → g x (wipe σ vs) H' fun σ2 H2 => wipe σ2 vs = wipe σ vs ∧ tt σ2 H2 fun b H3 =>
    if b = true then tk σ2 H3 fun y H4 => tv σ2 H4 fun z H5 => ∃ kvs k, y = kV k ∧ H5 D = some (.dK kvs) ∧ kvs.length < sizeLine ∧ Nx (upd H5 D (.dK (putK kvs k z))) else Nx H3)) : tDc wi g tt tk tv vs σ H Q := h
/-- a comprehension over a walk, whatever its turns do: B x H' Nx is what a turn asks, Nx what holds behind it -/
theorem cp_it {J : It} {n : Nat} {G : Hp → Prop} {Y : Nat → Hp → V → Hp → Prop} {H0 : Hp} {B : V → Hp → (Hp → Prop) → Prop} {Qd : Hp → Prop} (wk : Walk J n G Y) (Pv : Nat → Hp → Prop) (h0 : Pv 0 H0) (hG : ∀ i H, i ≤ n → Pv i H → G H)
    (hs : ∀ i x H H', i < n → Pv i H → Y i H x H' → B x H' (Pv (i + 1))) (hd : ∀ H, Pv n H → Qd H) :
    ∃ W : Nat → Nat → Hp → Prop, (∃ m, W 0 m H0) ∧ ∀ i m H, W i m H → (J.stop i H ∧ Qd H) ∨ (J.go i H ∧ ∃ Nx : Hp → Prop, (∀ H', Nx H' → ∃ m', m' < m ∧ W (i + 1) m' H') ∧ ∀ x H', J.yld i H x H' → B x H' Nx) := by
  refine ⟨fun i m H => m + i = n ∧ Pv i H, ⟨n, rfl, h0⟩, fun i m H h => ?_⟩
  obtain ⟨e, p⟩ := h
  have q := hG i H (by omega) p
  rcases Nat.lt_or_ge i n with hlt | hge
  · exact .inr ⟨wk.goes i H hlt q, Pv (i + 1), fun H' p' => ⟨n - (i + 1), by omega, by omega, p'⟩, fun x H' y => hs i x H H' hlt p (wk.yields i H x H' hlt q y)⟩
  · have : i = n := by omega
    subst this
    exact .inl ⟨wk.stops H q, hd H p⟩
theorem r_scT {P : Program} {w : World} (h : wi σ H fun J H1 => ∀ D, H1 D = none → ∃ W : Nat → Nat → Hp → Prop, (∃ m, W 0 m (upd H1 D (noKeys P w D))) ∧ ∀ i m H, W i m H →
  (J.stop i H ∧ Q (.ref D) H) ∨ (J.go i H ∧ ∃ Nx : Hp → Prop, (∀ H', Nx H' → ∃ m', m' < m ∧ W (i + 1) m' H') ∧ ∀ x H', J.yld i H x H' → g x (wipe σ vs) H' fun σ2 H2 => wipe σ2 vs = wipe σ vs ∧ tt σ2 H2 fun b H3 =>
    if b = true then te σ2 H3 fun y H4 => ∃ (k : Key) (S : Key → Bool) (n : Nat), y = kV k ∧ H4 D = some (SetK P w D S n) ∧ n + 1 < scanBound ∧ Nx (upd H4 D (SetK P w D (fun j => S j || decide (j = k)) (if S k = true then n else n + 1))) else Nx H3)) : tScK P w wi g tt te vs σ H Q := h
/-- behind i turns of a set comprehension of l's signs -/
def Kp (P : Program) (w : World) (H1 : Hp) (D : Addr) (l : List Nat) (i : Nat) (H : Hp) : Prop := (∀ a o, H1 a = some o → H a = some o) ∧ ∃ S : Key → Bool, (∀ c, S (kS c) = true ↔ c ∈ l.take i) ∧ H D = some (SetK P w D S i)
theorem Kp.start {P : Program} {w : World} {H1 : Hp} {D : Addr} {l : List Nat} (hD : H1 D = none) : Kp P w H1 D l 0 (upd H1 D (noKeys P w D)) :=
  ⟨fun a o h => (upd_ne (ne_of_none h hD)).trans h, fun _ => false, fun c => by simp, upd_same⟩
theorem Kp.add {P : Program} {w : World} {H1 H : Hp} {D : Addr} {l : List Nat} {i c : Nat} (p : Kp P w H1 D l i H) (hD : H1 D = none) (hc : l[i]? = some c) (nd : l.Nodup) (hl : l.length ≤ 1000) :
    ∃ (k : Key) (S : Key → Bool) (n : Nat), vS c = kV k ∧ H D = some (SetK P w D S n) ∧ n + 1 < scanBound ∧ Kp P w H1 D l (i + 1) (upd H D (SetK P w D (fun j => S j || decide (j = k)) (if S k = true then n else n + 1))) := by
  obtain ⟨p1, S, p2, p3⟩ := p
  have hi := (List.getElem?_eq_some_iff.mp hc).1
  have hn : ¬ S (kS c) = true := fun z => by
    have hm := (p2 c).mp z
    have e : l = l.take i ++ c :: l.drop (i + 1) := by
      rw [← (List.getElem?_eq_some_iff.mp hc).2, ← List.drop_eq_getElem_cons hi, List.take_append_drop]
    rw [e, List.nodup_append] at nd
    exact nd.2.2 c hm c (List.mem_cons_self ..) rfl
  refine ⟨kS c, S, i, rfl, p3, Nat.lt_of_le_of_lt (show i + 1 ≤ 1001 by omega) (by decide), fun a o h => (upd_ne (ne_of_none h hD)).trans (p1 a o h), fun j => S j || decide (j = kS c), fun c' => ?_, ?_⟩
  · rw [Bool.or_eq_true, p2, List.take_add_one, hc, List.mem_append, decide_eq_true_iff, kS_inj]
    simp
  · rw [upd_same, if_neg hn]
theorem Kp.fm {P : Program} {w : World} {b : Fb} {H1 H : Hp} {D : Addr} {l : List Nat} {i : Nat} (p : Kp P w H1 D l i H) : Fm b H1 H := Fm.of_ext p.1
/-- behind i turns of a list comprehension: the frame, and what has been given -/
def Lp (b : Fb) (H1 : Hp) (D : Addr) (sel : Nat → List V) (i : Nat) (H : Hp) : Prop := Fm b H1 H ∧ H D = some (.lst (sel i))
theorem Lp.start {b : Fb} {H1 : Hp} {D : Addr} {sel : Nat → List V} (hD : H1 D = none) (s0 : sel 0 = []) : Lp b H1 D sel 0 (upd H1 D (.lst [])) := ⟨Fm.new hD, by rw [upd_same, s0]⟩
theorem Lp.add {b : Fb} {H1 H H4 : Hp} {D : Addr} {sel : Nat → List V} {i : Nat} {y : V} (p : Lp b H1 D sel i H) (hD : H1 D = none) (e : Fm b H H4) (hl : (sel i).length ≤ 1000) (hs : sel (i + 1) = sel i ++ [y]) :
    ∃ acc, H4 D = some (.lst acc) ∧ acc.length < sizeLine ∧ Lp b H1 D sel (i + 1) (upd H4 D (.lst (acc ++ [y]))) := by
  have h4 := e.lst p.2
  exact ⟨sel i, h4, Nat.lt_of_le_of_lt hl (by decide), (p.1.trans e).edit (Nw.of hD) h4 rfl, by rw [upd_same, hs]⟩
theorem Lp.skip {b : Fb} {H1 H H4 : Hp} {D : Addr} {sel : Nat → List V} {i : Nat} (p : Lp b H1 D sel i H) (e : Fm b H H4) (hs : sel (i + 1) = sel i) : Lp b H1 D sel (i + 1) H4 := ⟨p.1.trans e, by rw [hs]; exact e.lst p.2⟩
/-- the same of a dict comprehension -/
def Dq (b : Fb) (H1 : Hp) (D : Addr) (sel : Nat → List (Key × V)) (i : Nat) (H : Hp) : Prop := Fm b H1 H ∧ H D = some (.dK (sel i))
theorem Dq.start {b : Fb} {H1 : Hp} {D : Addr} {sel : Nat → List (Key × V)} (hD : H1 D = none) (s0 : sel 0 = []) : Dq b H1 D sel 0 (upd H1 D (.dK [])) := ⟨Fm.new hD, by rw [upd_same, s0]⟩
theorem Dq.add {b : Fb} {H1 H H4 : Hp} {D : Addr} {sel : Nat → List (Key × V)} {i : Nat} {y z : V} {k : Key} (p : Dq b H1 D sel i H) (hD : H1 D = none) (e : Fm b H H4) (hk : dOk (sel i)) (hy : y = kV k) (hl : (sel i).length ≤ 1000) (hs : sel (i + 1) = putK (sel i) k z) :
    ∃ kvs k, y = kV k ∧ H4 D = some (.dK kvs) ∧ kvs.length < sizeLine ∧ Dq b H1 D sel (i + 1) (upd H4 D (.dK (putK kvs k z))) := by
  have h4 := e.dct p.2 hk
  exact ⟨sel i, k, hy, h4, Nat.lt_of_le_of_lt hl (by decide), (p.1.trans e).edit (Nw.of hD) h4 rfl, by rw [upd_same, hs]⟩
theorem Dq.skip {b : Fb} {H1 H H4 : Hp} {D : Addr} {sel : Nat → List (Key × V)} {i : Nat} (p : Dq b H1 D sel i H) (e : Fm b H H4) (hk : dOk (sel i)) (hs : sel (i + 1) = sel i) : Dq b H1 D sel (i + 1) H4 := ⟨p.1.trans e, by rw [hs]; exact e.dct p.2 hk⟩
/-- what the first i of l give -/
def giv {α β : Type} (p : α → Bool) (f : α → β) (l : List α) (i : Nat) : List β := ((l.take i).filter p).map f
theorem giv_zero {α β : Type} (p : α → Bool) (f : α → β) (l : List α) : giv p f l 0 = [] := by
  unfold giv
  rw [List.take_zero]
  rfl
theorem giv_yes {α β : Type} {p : α → Bool} {f : α → β} {l : List α} {i : Nat} {a : α} (h : l[i]? = some a) (hp : p a = true) : giv p f l (i + 1) = giv p f l i ++ [f a] := by
  unfold giv
  rw [List.take_add_one, h, List.filter_append, List.map_append]
  simp [hp]
theorem giv_no {α β : Type} {p : α → Bool} {f : α → β} {l : List α} {i : Nat} {a : α} (h : l[i]? = some a) (hp : p a = false) : giv p f l (i + 1) = giv p f l i := by
  unfold giv
  rw [List.take_add_one, h, List.filter_append, List.map_append]
  simp [hp]
theorem giv_all {α β : Type} {p : α → Bool} {f : α → β} {l : List α} : giv p f l l.length = (l.filter p).map f := by
  unfold giv
  rw [List.take_length]
theorem giv_len {α β : Type} (p : α → Bool) (f : α → β) (l : List α) (i : Nat) : (giv p f l i).length ≤ l.length := by
  unfold giv
  rw [List.length_map]
  exact Nat.le_trans (List.length_filter_le _ _) (by rw [List.length_take]; exact Nat.min_le_right _ _)
end
/-- texts of single signs, joined -/
theorem join_signs (l : List Nat) : Txt.join "" (l.map S1) = ⟨l.toArray⟩ := by
  have e0 : Txt.join "" (l.map S1) = Str.join "" (l.map S1) := by
    have := join_plain_closes "" (l.map S1)
    exact beq_iff_eq.mp this
  rw [e0]
  have key : ∀ l : List Nat, (Str.join "" (l.map S1)).cps.toList = l := by
    intro l
    induction l with
    | nil => rfl
    | cons a l ih =>
      cases l with
      | nil => rfl
      | cons b l =>
        show (S1 a ++ "" ++ Str.join "" ((b :: l).map S1)).cps.toList = _
        have e1 : TL.tl (S1 a ++ "" ++ Str.join "" ((b :: l).map S1)) = TL.tl (S1 a) ++ TL.tl "" ++ TL.tl (Str.join "" ((b :: l).map S1)) := by rw [TL.tl_append, TL.tl_append]
        show TL.tl _ = _
        rw [e1]
        show [a] ++ [] ++ (Str.join "" ((b :: l).map S1)).cps.toList = _
        rw [ih]
        rfl
  exact TL.ext_tl (key l)
theorem join_small {l : List Nat} (h : l.length ≤ 1000) : ((l.map S1).map (·.length)).sum + (l.map S1).length * ("" : Str).length ≤ 16777216 := by
  have e : ∀ l : List Nat, ((l.map S1).map (·.length)).sum = l.length := by
    intro l
    induction l with
    | nil => rfl
    | cons a l ih =>
      rw [List.map_cons, List.map_cons, List.sum_cons, ih, List.length_cons]
      show 1 + l.length = l.length + 1
      omega
  rw [e]
  have e2 : ("" : Str).length = 0 := rfl
  rw [e2]
  omega
abbrev Fs (G : List (Addr × Str)) : Hp → Hp → Prop := Fm ⟨false, G⟩
abbrev Fr (G : List (Addr × Str)) : Hp → Hp → Prop := Fm ⟨true, G⟩
/-- a text of signs, or a list of them: which signs are in -/
def InArg (H : Hp) (y : V) (p : Nat → Bool) : Prop := (∃ z : Str, y = .str z ∧ p = fun c => decide (c ∈ z.cps.toList)) ∨ ∃ (l : Addr) (xs : List Nat), y = .ref l ∧ H l = some (.lst (xs.map vS)) ∧ p = fun c => decide (c ∈ xs)
theorem InArg.mono {b : Fb} {H H1 : Hp} {y : V} {p : Nat → Bool} (e : Fm b H H1) (h : InArg H y p) : InArg H1 y p := by
  rcases h with h | ⟨l, xs, h1, h2, h3⟩
  · exact .inl h
  · exact .inr ⟨l, xs, h1, e.lst h2, h3⟩
theorem in_vs (c : Nat) : ∀ xs : List Nat, inV (vS c) (xs.map vS) = decide (c ∈ xs)
  | [] => rfl
  | x :: xs => by
    have h := in_vs c xs
    unfold inV at h ⊢
    rw [List.map_cons, List.any_cons, h]
    by_cases e : c = x
    · subst e
      have : eqV (vS c) (vS c) = true := by
        show (S1 c == S1 c) = true
        rw [beq_self_eq_true]
      rw [this, decide_eq_true (List.mem_cons_self ..)]
      rfl
    · have : eqV (vS x) (vS c) = false := by
        show (S1 x == S1 c) = false
        exact beq_eq_false_iff_ne.mpr fun z => e (S1_inj.mp z).symm
      rw [this, Bool.false_or]
      by_cases h2 : c ∈ xs
      · rw [decide_eq_true h2, decide_eq_true (List.mem_cons_of_mem _ h2)]
      · rw [decide_eq_false h2, decide_eq_false (fun z => (List.mem_cons.mp z).elim e h2)]
theorem flat_vs (xs : List Nat) : (xs.map vS).all flatV = true := by
  rw [List.all_map]
  exact List.all_eq_true.mpr fun _ _ => rfl
def rInArg (K : PySem.W.Frag) : R2 := fun x y H Q => (∃ (c : Nat) (z : Str), x = V.str ⟨#[c]⟩ ∧ y = .str z ∧ Q (.bl (decide (c ∈ z.cps.toList))) H) ∨ rIn K false x y H Q
theorem op_inArg {X : Cx} : OpR X (compareOp .In) (rInArg X.K) := fun pins s σ H x y v u Q I rx ry h => h.elim (fun h => op_in_sign pins s σ H x y v u Q I rx ry h) (fun h => op_in_seq pins s σ H x y v u Q I rx ry h)
theorem r_inArg {K : PySem.W.Frag} {H : Hp} {Q : VK} {c : Nat} {y : V} {p : Nat → Bool} (h : InArg H y p) (q : Q (.bl (p c)) H) : rInArg K (vS c) y H Q := by
  rcases h with ⟨z, rfl, rfl⟩ | ⟨l, xs, rfl, h, rfl⟩
  · exact .inl ⟨c, z, rfl, rfl, q⟩
  · refine .inr ⟨l, xs.map vS, rfl, .inl (SqL.of h), rfl, flat_vs xs, ?_⟩
    show Q (.bl (inV (vS c) (xs.map vS))) H
    rw [in_vs]
    exact q
section
variable (C : Ad)
def spSigns : Sp := sp1 fun x H Q => ∃ f F, x = .ref f ∧ FontAt C H f F ∧ Q (.str F.W) H
def spFontLen : Sp := sp1 fun x H Q => ∃ f F, x = .ref f ∧ FontAt C H f F ∧ Q (.int (F.n : Nat)) H
def spNSets : Sp := sp1 fun x H Q => ∃ f F, x = .ref f ∧ FontAt C H f F ∧ Q (.int ((2 ^ F.n : Nat) : Int)) H
end
section
variable (C : Ad) (G : List (Addr × Str))
def spAsc : Sp := sp2 fun x y H Q => ∃ f F p, x = .ref f ∧ FontAt C H f F ∧ InArg H y p ∧ ∀ H', Fs G H H' → Q (.str ⟨(F.ws.filter p).toArray⟩) H'
def spSetOf : Sp := sp2 fun x y H Q => ∃ (f : Addr) (F : Ft) (m : Nat), x = .ref f ∧ y = .int (m : Int) ∧ FontAt C H f F ∧ m < 2 ^ F.n ∧ ∀ H', Fs G H H' → Q (.str (F.setT m)) H'
def spIsSign : Sp := sp2 fun x y H Q => ∃ f F c, x = .ref f ∧ FontAt C H f F ∧ y = vS c ∧ c ∈ F.ws ∧ Q (.bl true) H
def spIsRow : Sp := sp2 fun x y H Q => ∃ (f : Addr) (F : Ft) (l : List Nat), x = .ref f ∧ FontAt C H f F ∧ y = .str ⟨l.toArray⟩ ∧ l.length ≤ 5 ∧ (∀ c ∈ l, c ∈ F.ws) ∧ ∀ H', Fs G H H' → Q (.bl true) H'
def spIsKind : Sp := sp2 fun x y H Q => ∃ (f : Addr) (F : Ft) (a b : Nat), x = .ref f ∧ FontAt C H f F ∧ y = .str (K2 (a, b)) ∧ (a = 45 ∨ a ∈ F.ws) ∧ (b = 45 ∨ b ∈ F.ws) ∧ ¬ (a = 45 ∧ b = 45) ∧ ∀ H', Fs G H H' → Q (.bl true) H'
def spNeedSign : Sp := sp2 fun x y H Q => ∃ f F c, x = .ref f ∧ FontAt C H f F ∧ y = vS c ∧ c ∈ F.ws ∧ Q .non H
def spNeedSigns : Sp := sp2 fun x y H Q => ∃ f F p, x = .ref f ∧ FontAt C H f F ∧ y = .str ⟨(F.ws.filter p).toArray⟩ ∧ ∀ H', Fs G H H' → Q (.str ⟨(F.ws.filter p).toArray⟩) H'
/-- a kind, read either way round -/
def spNormal : Sp := sp2 fun x y H Q => ∃ (f : Addr) (F : Ft) (k : Nat × Nat), x = .ref f ∧ FontAt C H f F ∧ F.kOk k ∧ (y = .str (K2 k) ∨ y = .str (K2 (k.2, k.1))) ∧ Q (.str (K2 k)) H
def spSeen : Sp := sp2 fun x y H Q => ∃ (f : Addr) (F : Ft) (k : Nat × Nat), x = .ref f ∧ FontAt C H f F ∧ F.kOk k ∧ y = .str (K2 k) ∧ ∀ H', Fs G H H' → Q (.str ⟨(F.sh k).toArray⟩) H'
def spMaskOf : Sp := sp2 fun x y H Q => ∃ f F p, x = .ref f ∧ FontAt C H f F ∧ y = .str ⟨(F.ws.filter p).toArray⟩ ∧ ∀ H', Fs G H H' → Q (.int (F.mkp p : Nat)) H'
end
theorem zip_rk {F : Ft} (h : F.Ok) : F.ws.zipIdx = F.ws.map fun c => (c, F.rk c) := by
  apply List.ext_getElem
  · simp
  · intro i h1 h2
    simp only [List.getElem_zipIdx, List.getElem_map, Nat.zero_add]
    unfold Ft.rk
    rw [h.nd.idxOf_getElem]
theorem setL_zip {F : Ft} (h : F.Ok) (m : Nat) : (F.ws.zipIdx.filter fun p => m.testBit p.2).map (fun p => vS p.1) = (F.setL m).map vS := by
  rw [zip_rk h, List.filter_map, List.map_map]
  rfl
theorem sum_two : ∀ (l : List Int), (l.map fun x => 2 * x).sum = 2 * l.sum
  | [] => rfl
  | a :: l => by
    rw [List.map_cons, List.sum_cons, List.sum_cons, sum_two l]
    omega
theorem sum_bm (p : Nat → Bool) : ∀ l : List Nat, l.Nodup → ((l.filter p).map fun c => ((2 ^ l.idxOf c : Nat) : Int)).sum = (bm (l.map p) : Nat)
  | [], _ => rfl
  | a :: l, h => by
    have h1 := List.nodup_cons.mp h
    have ih := sum_bm p l h1.2
    have e : (l.filter p).map (fun c => ((2 ^ (a :: l).idxOf c : Nat) : Int)) = ((l.filter p).map fun c => ((2 ^ l.idxOf c : Nat) : Int)).map fun x => 2 * x := by
      rw [List.map_map]
      refine List.map_congr_left fun c hc => ?_
      have hne : ¬ a = c := fun z => h1.1 (by rw [z]; exact (List.mem_filter.mp hc).1)
      have e3 : (a :: l).idxOf c = l.idxOf c + 1 := by
        rw [List.idxOf_cons, beq_eq_false_iff_ne.mpr hne]
        rfl
      rw [e3, Nat.pow_succ, Nat.mul_comm]
      simp
    rw [List.filter_cons, List.map_cons]
    unfold bm
    cases hp : p a with
    | true =>
      rw [if_pos rfl, List.map_cons, List.sum_cons, e, sum_two, ih, List.idxOf_cons_self]
      simp
    | false =>
      rw [if_neg (by decide), e, sum_two, ih]
      simp
theorem sum_mkp {F : Ft} (h : F.Ok) (p : Nat → Bool) : ((F.ws.filter p).map fun c => ((2 ^ F.rk c : Nat) : Int)).sum = (F.mkp p : Nat) := sum_bm p F.ws h.nd
theorem sg_small : ∀ c ∈ signsL, c < 128 := by decide
theorem ws_small {F : Ft} (h : F.Ok) {c : Nat} (hc : c ∈ F.ws) : c < 128 := sg_small c (h.sg c hc)
theorem S1_dash (c : Nat) : (S1 c = ("-" : Str)) ↔ c = 45 := ⟨fun h => S1_inj.mp (h.trans (show ("-" : Str) = S1 45 from rfl)), fun h => by
  subst h
  rfl⟩
theorem rk_inj {F : Ft} {a b : Nat} (ha : a ∈ F.ws) (hb : b ∈ F.ws) (e : F.rk a = F.rk b) : a = b := by
  unfold Ft.rk at e
  have h1 := List.getElem_idxOf (List.idxOf_lt_length_of_mem ha)
  have h2 := List.getElem_idxOf (List.idxOf_lt_length_of_mem hb)
  rw [← h1, ← h2]
  simp only [e]
/-- bits of small numbers, as the program reads them -/
theorem bit_and : ∀ m : Nat, m < 32 → ∀ i, i < 5 → Builtin.bitAnd ((m : Int) / 2 ^ i) 1 = if m.testBit i then 1 else 0 := by decide +kernel
theorem bit_xor : ∀ m : Nat, m < 32 → ∀ i, i < 5 → Builtin.bitXor (m : Int) (2 ^ i) = ((m ^^^ 2 ^ i : Nat) : Int) := by decide +kernel
theorem m32 {F : Ft} (h : F.Ok) {m : Nat} (hm : m < 2 ^ F.n) : m < 32 := Nat.lt_of_lt_of_le hm (Nat.le_trans (Nat.pow_le_pow_right (by decide) h.n.2) (by decide))
theorem test_bit {m i : Nat} (hm : m < 32) (hi : i < 5) : decide (Builtin.bitAnd ((m : Int) / 2 ^ ((i : Nat) : Int).toNat) 1 = 1) = m.testBit i := by
  rw [Int.toNat_natCast, bit_and m hm i hi]
  cases m.testBit i <;> rfl
section
variable {C : Ad} {H : Hp} {Q : VK} {f : Addr} {F : Ft}
theorem r_signs (h : FontAt C H f F) (q : Q (.str F.W) H) : ∃ a dx fs, V.ref f = .ref a ∧ H a = some (.ins C.CF dx fs) ∧ spSigns C [.ref a] H Q E0 := by
  obtain ⟨o, dx, fs, r, hh, hk, v⟩ := id h
  exact ⟨f, dx, fs, rfl, v.at_, r_sp1 ⟨f, F, rfl, h, q⟩⟩
theorem r_flen (h : FontAt C H f F) (q : Q (.int (F.n : Nat)) H) : rLenOwn C.CF (spFontLen C) [.ref f] H Q := by
  obtain ⟨o, dx, fs, r, hh, hk, v⟩ := id h
  exact ⟨f, dx, fs, rfl, v.at_, r_sp1 ⟨f, F, rfl, h, _, rfl, by omega, by have := o.hi; have e : F.n = F.ws.length := rfl; omega, q⟩⟩
theorem W_len (F : Ft) : F.W.length = F.n := by simp [Ft.W, PySem.Str.length, Ft.n]
end
end Hy
namespace Hy
open PySem PySem.Spec PyProof.Rows L2
section
variable {X : Cx} (K : PySem.W.Frag)
theorem pe_fldK {ta : TE} {e : Expr} {f : Str} {pos : Pos} (he : PE X e ta) (hb : attributeBase e f X.env (eval e X.env) = eval e X.env) (hK : X.K = K := by rfl) : PE X (.Attribute e f pos) (tFld K ta f) := by
  subst hK
  exact pe_fld he hb
theorem cK_bm {ex : Expr} {to : TE} {t : TA} {T : String} {r : V → List V → Hp → VK → Prop} (h : PE X ex (tBM X.K T r to t)) (hK : X.K = K := by rfl) : PE X ex (tBM K T r to t) := by
  subst hK
  exact h
theorem cK_bm0 {ex : Expr} {to : TE} {T : String} {r : V → List V → Hp → VK → Prop} (h : PE X ex (tBM0 X.K T r to)) (hK : X.K = K := by rfl) : PE X ex (tBM0 K T r to) := by
  subst hK
  exact h
theorem ix_listK (hK : X.K = K := by rfl) : IxR X (rIxL K) := by
  subst hK
  exact ix_list
theorem ix_tupK (hK : X.K = K := by rfl) : IxR X (rIxT K) := by
  subst hK
  exact ix_tup
theorem get_listK (hK : X.K = K := by rfl) : PGet X (rIxL K) := by
  subst hK
  exact get_list
theorem sl_listK (hK : X.K = K := by rfl) : SlR X (rSlL K) := by
  subst hK
  exact sl_list
def rLenSeq (K : PySem.W.Frag) : List V → Hp → VK → Prop := fun xs H Q => ∃ p ys, xs = [.ref p] ∧ (SqL K H p ys ∨ SqT K H p ys) ∧ Q (.int ys.length) H
theorem call_len_seqK (hK : X.K = K := by rfl) : CallR X (.builtin "len") (rLenSeq K) := by
  subst hK
  exact call_len_seq
theorem cr_sumK (hc : X.calm = true := by rfl) (hK : X.K = K := by rfl) : CallR X (.builtin "sum") (rSum K) := by
  subst hK
  exact cr_sum hc
theorem cr_allK (hc : X.calm = true := by rfl) (hK : X.K = K := by rfl) : CallR X (.builtin "all") (rAll K) := by
  subst hK
  exact cr_all hc
theorem cr_anyK (hc : X.calm = true := by rfl) (hK : X.K = K := by rfl) : CallR X (.builtin "any") (rAny K) := by
  subst hK
  exact cr_any hc
theorem cr_minK (hc : X.calm = true := by rfl) (hK : X.K = K := by rfl) : CallR X (.builtin "min") (rMin K) := by
  subst hK
  exact cr_min hc
def rListOf (K : PySem.W.Frag) : List V → Hp → VK → Prop := fun xs H Q => ∃ p ys, xs = [.ref p] ∧ (SqL K H p ys ∨ SqT K H p ys) ∧ ∀ l, H l = none → Q (.ref l) (upd H l (.lst ys))
theorem call_list_ofK (hK : X.K = K := by rfl) : CallR X (.type "list") (rListOf K) := by
  subst hK
  exact call_list_of
def rTupleOf (K : PySem.W.Frag) : List V → Hp → VK → Prop := fun xs H Q => ∃ p ys, xs = [.ref p] ∧ ((SqL K H p ys ∧ ∀ l, H l = none → Q (.ref l) (upd H l (.tup ys))) ∨ (SqT K H p ys ∧ Q (.ref p) H))
theorem call_tuple_ofK (hK : X.K = K := by rfl) : CallR X (.type "tuple") (rTupleOf K) := by
  subst hK
  exact call_tuple_of
def rDictP (K : PySem.W.Frag) : List V → Hp → VK → Prop := fun xs H Q => ∃ (a : Addr) (ps : List Addr) (kvs : List (Key × V)), xs = [.ref a] ∧ SqL K H a (ps.map V.ref) ∧ Paired (fun p kv => SqT K H p [kV kv.1, kv.2]) ps kvs ∧ ∀ p, H p = none → Q (.ref p) (upd H p (.dK (mergeK [] kvs)))
theorem call_dictPK (hc : X.calm = true) (hK : X.K = K := by rfl) : CallR X (.type "dict") (rDictP K) := by
  subst hK
  exact call_dictP hc
def rJoin (K : PySem.W.Frag) : V → List V → Hp → VK → Prop := fun x xs H Q => ∃ a p, ∃ ys : List Str, x = .str a ∧ xs = [.ref p] ∧ (SqL K H p (ys.map V.str) ∨ SqT K H p (ys.map V.str)) ∧ (ys.map (·.length)).sum + ys.length * a.length ≤ 16777216 ∧ Q (.str (Txt.join a ys)) H
theorem mt_joinK (hK : X.K = K := by rfl) : MtR X "str.join" (rJoin K) := by
  subst hK
  exact mt_join
theorem call_isi_ (hK : X.K = K := by rfl) : CallR X (.builtin "isinstance") (rIsi K) := by
  subst hK
  exact call_isi
theorem call_isiT_ (hK : X.K = K := by rfl) : CallR X (.builtin "isinstance") (rIsiT K) := by
  subst hK
  exact call_isiT
theorem op_neDK (hu : X.A.units + 64 < cLine) (hK : X.K = K := by rfl) : OpR X (compareOp .NotEq) (rNeD K) := by
  subst hK
  exact op_neD hu
theorem op_in_seqK (hK : X.K = K := by rfl) : OpR X (compareOp .In) (rIn K false) := by
  subst hK
  exact op_in_seq
theorem op_inArgK (hK : X.K = K := by rfl) : OpR X (compareOp .In) (rInArg K) := by
  subst hK
  exact op_inArg
theorem pg_tupK {es : List Expr} {k : Nat} {t : TGs} {n : Nat} {pos : Pos} (hc : X.calm = true) (h : PGs X es t) (hK : X.K = K := by rfl) (hn : (assignEach es X.env).length = n := by rfl) (hst : (assignEach es X.env).findIdx? (·.1) = none := by rfl) : PG X (.Tuple es k pos) (gTup K n t) := by
  subst hK
  exact pg_tup hc h hn hst
theorem pi_listK {tg l : Expr} {tl : TE} (hl : PE X l tl) (hK : X.K = K := by rfl) : PI X tg l (iList K tl) := by
  subst hK
  exact pi_list hl
theorem pi_tupK {tg l : Expr} {tl : TE} (hl : PE X l tl) (hK : X.K = K := by rfl) : PI X tg l (iTup K tl) := by
  subst hK
  exact pi_tup hl
theorem pi_enumK {e : Expr} {ta : TA} {p pos tpos : Pos} {elts : List Expr} {kk : Nat} (hg : Gl X "enumerate") (hm : X.mg "enumerate" = none) (ha : PA X [e] ta) (hK : X.K = K := by rfl) (hs : starEach [e] X.env = [(false, eval e X.env)] := by rfl) :
    PI X (.Tuple elts kk tpos) (.Call (.Name "enumerate" p) [e] [] pos) (iEnum K ta) := by
  subst hK
  exact pi_enum hg hm ha hs
theorem pi_zipK {e e2 : Expr} {ta : TA} {p pos tpos : Pos} {elts : List Expr} {kk : Nat} (hg : Gl X "zip") (hm : X.mg "zip" = none) (ha : PA X [e, e2] ta) (hK : X.K = K := by rfl) (hs : starEach [e, e2] X.env = (false, eval e X.env) :: starEach [e2] X.env := by rfl) (hpl : (backTo pos (starEach [e2] X.env)).any (·.1) = false := by rfl) :
    PI X (.Tuple elts kk tpos) (.Call (.Name "zip" p) [e, e2] [] pos) (iZip K ta) := by
  subst hK
  exact pi_zip hg hm ha hs hpl
end
end Hy
namespace Hy
open PySem PySem.Spec PyProof.Rows L2
section
variable {σ : L2.St} {H : Hp} {Q : VK} {X : Cx} {ta te to ti : TE} {g : TG} {tb : TS} {D : Ends} {wi : TI} {tget : V → V → Hp → VK → Prop} {tip : TIp} {tset : TSet}
theorem r_lstRg {te : L2.St → Hp → (Int → Int → Hp → Prop) → Prop} (h : te σ H fun a b H1 => RgOk a b ∧ ∀ q, H1 q = none → Q (.ref q) (upd H1 q (.lst (rgV a b)))) : tLstRg te σ H Q := h
theorem r_rg1 {R : Int → Int → Hp → Prop} (h : ta σ H fun x H1 => ∃ n, x = .int n ∧ R 0 n H1) : tRg1 ta σ H R := h
theorem r_sortDf {sp : Sp} (h : te σ H fun v H1 => ∃ (xs : List V) (c : KyS) (k : V → Int × List Int) (b : Fb), CollX X H1 v xs ∧ (∀ y ∈ xs, ∀ H', Fm b H1 H' → sp [y] H' (fun v H2 => Fm b H' H2 ∧ KyAt H2 c v (k y)) E0) ∧
  ∀ H2 p, Fm b H1 H2 → Nw b H1 p → H2 p = some (.lst (xs.mergeSort (kyLe c k))) → Q (.ref p) H2) : tSortDf X sp te σ H Q := h
theorem r_bits (h : to σ H fun x H1 => ∃ i, x = .int i ∧ Q (.int (Builtin.Int.intBits i : Nat)) H1) : tBits to σ H Q := h
theorem r_forT (h : wi σ H fun J H1 => ∃ W : Nat → Nat → L2.St → Hp → Prop, (∃ m, W 0 m σ H1) ∧ ∀ i m σ H, W i m σ H →
  (J.stop i H ∧ D.nx σ H) ∨ (J.go i H ∧ ∃ N : L2.St → Hp → Prop, (∀ σ' H', N σ' H' → ∃ m', m' < m ∧ W (i + 1) m' σ' H') ∧ ∀ x H', J.yld i H x H' → g x σ H' fun σ2 H2 => tb { D with nx := N, ct := N, bk := D.nx } σ2 H2)) : tFor wi g tb D σ H := h
theorem r_augS (h : to σ H fun o H1 => ti σ H1 fun i H2 => tget o i H2 fun x H3 => te σ H3 fun y H4 => tip x y H4 fun z H5 => tset o i z H5 fun H6 => D.nx σ H6) : tAugS to ti te tget tip tset D σ H := h
end
theorem r_gsub {σ : L2.St} {H : Hp} {to ti : TE} {t : TSet} {v : V} {Q : L2.St → Hp → Prop} (h : to σ H fun o H1 => ti σ H1 fun i H2 => t o i v H2 fun H3 => Q σ H3) : gSub to ti t v σ H Q := h
theorem r_par {σ : L2.St} {H : Hp} {i j : Nat} {ta : TA} {D : Ends} (h : ta σ H fun vs H1 => ∃ v w, vs = [v, w] ∧ D.nx ((σ.set i (some v)).set j (some w)) H1) : tPar i j ta D σ H := h
theorem r_par2 {v w : V} {R : V → V → Prop} (h : R v w) : ∃ v' w', [v, w] = [v', w'] ∧ R v' w' := ⟨v, w, rfl, h⟩
theorem r_sl {σ : L2.St} {H : Hp} {Q : VK} {r : V → Option Int → Option Int → Hp → VK → Prop} {te : TE} {tl th : TO} (h : te σ H fun x H1 => tl σ H1 fun l H2 => th σ H2 fun u H3 => r x l u H3 Q) : L2.tSl r te tl th σ H Q := h
theorem r_part {σ : L2.St} {H : Hp} {te : TE} {Q : Option Int → Hp → Prop} (h : te σ H fun x H1 => ∃ i, x = .int i ∧ Q (some i) H1) : tPart te σ H Q := h
theorem r_part1 {i : Int} {R : Int → Prop} (h : R i) : ∃ i', V.int i = .int i' ∧ R i' := ⟨i, rfl, h⟩
theorem r_nopart {σ : L2.St} {H : Hp} {Q : Option Int → Hp → Prop} (h : Q none H) : tNoPart σ H Q := h
theorem r_dget2 {σ : L2.St} {H : Hp} {Q : VK} {td ty tx : TE} (h : td σ H fun x H1 => ∃ a, x = .ref a ∧ IsD H1 a ∧ ty σ H1 fun y H2 => tx σ H2 fun z H3 => ∃ o, DGet H3 a y o ∧ Q (o.getD z) H3) : tDGet2 td ty tx σ H Q := h
theorem r_isN {x : V} {H : Hp} {Q : VK} (q : Q (.bl (decide (x = .non))) H) : rIsN x .non H Q := ⟨rfl, q⟩
theorem r_notN {x : V} {H : Hp} {Q : VK} (q : Q (.bl (!decide (x = .non))) H) : rNotN x .non H Q := ⟨rfl, q⟩
theorem r_inS {K : PySem.W.Frag} {c : Nat} {z : Str} {H : Hp} {Q : VK} (q : Q (.bl (decide (c ∈ z.cps.toList))) H) : (∃ (c' : Nat) (z' : Str), V.str ⟨#[c]⟩ = .str ⟨#[c']⟩ ∧ V.str z = .str z' ∧ Q (.bl (decide (c' ∈ z'.cps.toList))) H) := ⟨c, z, rfl, rfl, q⟩
/-- the places of a mask's bits -/
def plc (m : Nat) : List Int := ((List.range (Builtin.Int.intBits (m : Int))).filter m.testBit).map fun (i : Nat) => (i : Int)
def kyM : V → Int × List Int
  | .int m => (((plc m.toNat).length : Nat), plc m.toNat)
  | _ => (0, [])
/-- the masks in their order -/
def ordV (n : Nat) : List V := ((List.range (2 ^ n)).map fun m => V.int ((m : Nat) : Int)).mergeSort (kyLe .pt kyM)
/-- a list of ints by masks -/
def byM (n : Nat) (f : Nat → Int) : List V := (List.range (2 ^ n)).map fun m => V.int (f m)
theorem byM_get {n : Nat} {f : Nat → Int} {m : Nat} (h : m < 2 ^ n) : (byM n f)[m]? = some (.int (f m)) := by
  unfold byM
  rw [List.getElem?_map, List.getElem?_range h]
  rfl
theorem byM_len (n : Nat) (f : Nat → Int) : (byM n f).length = 2 ^ n := by simp [byM]
theorem byM_at {n : Nat} {f : Nat → Int} {m : Nat} : (byM n f)[m]? = if m < 2 ^ n then some (.int (f m)) else none := by
  by_cases h : m < 2 ^ n
  · rw [if_pos h, byM_get h]
  · rw [if_neg h, List.getElem?_eq_none (by rw [byM_len]; omega)]
theorem byM_set {n : Nat} {f : Nat → Int} {m : Nat} {v : Int} : (byM n f).set m (.int v) = byM n fun k => if k = m then v else f k := by
  apply List.ext_getElem?
  intro i
  rw [List.getElem?_set, byM_at, byM_at, byM_len]
  by_cases e : m = i
  · subst e
    simp
  · have e2 : ¬ i = m := fun z => e z.symm
    simp [e, e2]
theorem byM_congr {n : Nat} {f g : Nat → Int} (h : ∀ m, m < 2 ^ n → f m = g m) : byM n f = byM n g := by
  unfold byM
  refine List.map_congr_left fun m hm => ?_
  rw [h m (List.mem_range.mp hm)]
theorem atI_nat' {xs : List V} {i : Nat} {v : V} (h : xs[i]? = some v) : atI xs (i : Int) = some v := by
  have hi := (List.getElem?_eq_some_iff.mp h).1
  unfold atI ixN
  rw [if_pos (by omega), if_pos (by omega)]
  simpa using h
theorem atI_neg1 {xs : List V} {v : V} (h : xs.getLast? = some v) : atI xs (-1) = some v := by
  have hne : xs ≠ [] := fun e => by
    rw [e] at h
    cases h
  have hl : 0 < xs.length := List.length_pos_iff.mpr hne
  unfold atI ixN
  rw [if_neg (by omega), if_pos (by omega)]
  have e : ((-1 : Int) + (xs.length : Int)).toNat = xs.length - 1 := by omega
  show xs[((-1 : Int) + (xs.length : Int)).toNat]? = some v
  rw [e, ← List.getLast?_eq_getElem?]
  exact h
section
variable (C : Ad) (G : List (Addr × Str))
def spPlaces : Sp := sp1 fun x H Q => ∃ m : Nat, x = .int (m : Int) ∧ m < 32 ∧ ∀ H' p, Fs G H H' → H' p = some (.tup ((plc m).map V.int)) → Q (.ref p) H'
def spOrder : Sp := sp1 fun x H Q => ∃ m : Nat, x = .int (m : Int) ∧ m < 32 ∧ ∀ H' v, Fs G H H' → KyAt H' .pt v (((plc m).length : Nat), plc m) → Q v H'
def spMasks : Sp := sp1 fun x H Q => ∃ f F, x = .ref f ∧ FontAt C H f F ∧ ∀ H' p, Fs G H H' → Nw ⟨false, G⟩ H p → H' p = some (.lst (ordV F.n)) → Q (.ref p) H'
def spSums : Sp := sp2 fun x s H Q => ∃ (a : Addr) (n : Nat) (f : Nat → Int) (g : Int), x = .ref a ∧ s = .int g ∧ (g = 1 ∨ g = -1) ∧ (2 ≤ n ∧ n ≤ 5) ∧ H a = some (.lst (byM n f)) ∧ ∀ H' p, Fs G H H' → Nw ⟨false, G⟩ H p → H' p = some (.lst (byM n (zt g n f))) → Q (.ref p) H'
def spSums1 : Sp := sp1 fun x H Q => ∃ (a : Addr) (n : Nat) (f : Nat → Int), x = .ref a ∧ (2 ≤ n ∧ n ≤ 5) ∧ H a = some (.lst (byM n f)) ∧ ∀ H' p, Fs G H H' → Nw ⟨false, G⟩ H p → H' p = some (.lst (byM n (zt 1 n f))) → Q (.ref p) H'
end
end Hy
namespace Hy
open PySem PySem.Spec PyProof.Rows L2
local macro_rules | `(tactic| decreasing_trivial) => `(tactic| ((try (with_reducible conv => whnf)); repeat (first
    | with_reducible refine iteT ?_
    | with_reducible refine iteF ?_
    | with_reducible refine iteNT ?_
    | with_reducible refine iteNF ?_
    | with_reducible refine r_isi_int ?_
    | with_reducible refine r_isi_bool ?_
    | with_reducible refine r_isi_str ?_
    | with_reducible refine r_eqN ?_
    | with_reducible refine r_neN ?_
    | with_reducible refine r_eqS ?_
    | with_reducible refine r_neS ?_
    | with_reducible refine r_seq ?_
    | with_reducible refine r_asg ?_
    | with_reducible refine r_gname ?_
    | with_reducible refine r_ret ?_
    | with_reducible refine r_drop ?_
    | with_reducible refine r_next ?_
    | with_reducible refine r_op ?_
    | with_reducible refine r_var (by with_unfolding_all exact rfl) ?_
    | with_reducible refine r_c ?_
    | with_reducible refine r_cons ?_
    | with_reducible refine r_nil ?_
    | with_reducible refine r_un ?_
    | with_reducible refine r_I0 ?_
    | with_reducible refine r_U ?_
    | with_reducible refine r_df ?_
    | with_reducible refine r_cb ?_
    | with_reducible refine r_ifS ?_
    | with_reducible refine r_ifE ?_
    | with_reducible refine r_test ?_
    | with_reducible refine r_B ?_
    | with_reducible refine r_tand ?_
    | with_reducible refine r_tor ?_
    | with_reducible refine r_tnot ?_
    | with_reducible refine r_andV ?_
    | with_reducible refine r_orV ?_
    | with_reducible refine r_notV ?_
    | with_reducible refine r_blif ?_
    | with_reducible refine r_bl ?_
    | with_reducible refine r_chain ?_
    | with_reducible refine r_tup ?_
    | with_reducible refine r_lst ?_
    | with_reducible refine r_fld ?_
    | with_reducible refine r_dget ?_
    | with_reducible refine r_din ?_
    | with_reducible refine r_pt ?_
    | with_reducible refine r_mt ?_
    | with_reducible refine r_iEnumS ?_
    | with_reducible refine r_bm ?_
    | with_reducible refine r_iStr ?_
    | with_reducible refine r_lcT ?_
    | with_reducible refine r_dcT ?_
    | with_reducible refine r_iList ?_
    | with_reducible refine r_iTup ?_
    | with_reducible refine r_iRng1 ?_
    | with_reducible refine r_iRng2 ?_
    | with_reducible refine r_iEnum ?_
    | with_reducible refine r_iZip ?_
    | with_reducible refine r_iKeys ?_
    | with_reducible refine r_iItems ?_
    | with_reducible refine r_iVals ?_
    | with_reducible refine r_lstRg ?_
    | with_reducible refine r_rg1 ?_
    | with_reducible refine r_sortDf ?_
    | with_reducible refine r_bits ?_
    | with_reducible refine r_forT ?_
    | with_reducible refine r_augS ?_
    | with_reducible refine r_gsub ?_
    | with_reducible refine r_bm0 ?_
    | with_reducible refine r_sortLam ?_
    | with_reducible refine r_sfld ?_
    | with_reducible refine r_dput ?_
    | with_reducible refine r_dnewK ?_
    | with_reducible refine r_mk ?_
    | with_reducible refine r_con ?_
    | with_reducible refine r_lockS ?_
    | with_reducible refine r_sl ?_
    | with_reducible refine r_part ?_
    | with_reducible refine r_nopart ?_
    | with_reducible refine r_dget2 ?_
    | with_reducible refine r_isN ?_
    | with_reducible refine r_notN ?_
    | with_reducible refine r_par ?_
    | with_reducible refine r_par2 ?_
    | with_reducible refine r_yes ?_
    | with_reducible refine r_scT ?_)))
section
variable {P : Program} {w : World} {K : PySem.W.Frag} {mg : Str → Option Value} {base : Heap} {C : Ad}
def spIsInt : Sp := sp1 fun x H Q => ∃ i, x = .int i ∧ Q (.bl true) H
theorem sc_is_integer : FnScope ["value"] ["value"] (defScope (top 21)) := ⟨rfl, rfl, rfl, by decide +kernel, rfl, by decide +kernel, by decide +kernel⟩
theorem d_is_integer (T : Txt K mg C)  : Df P w K mg base "is_integer" 1 spIsInt := by
  have sc := sc_is_integer
  refine FnT.df (T.fn ("is_integer", 21) (by decide)) sc len1 (fun _ _ _ _ _ _ us hl => match us, hl with | [_], _ => rfl) (fun f cdv A outer s H vs Q E hr h => ?_)
  have hu := hu_of hr
  have hu64 := hr.units
  have hu0 := Nat.lt_of_succ_lt hu
  obtain ⟨x1, rfl, h⟩ := h
  refine ⟨_, (pss_one (ps_ret (pe_and (pe_callB (call_isi_ K) (by rfl) T.f_isinstance (by decide +kernel) (pa_cons (pv 0) (pa_cons (pe_bltn (v := .ty "int") (u := .type "int") rfl T.f_int (by decide +kernel) rfl) pa_nil))) (pe_one (pe_not (pe_callB (call_isi_ K) (by rfl) T.f_isinstance (by decide +kernel) (pa_cons (pv 0) (pa_cons (pe_bltn (v := .ty "bool") (u := .type "bool") rfl T.f_bool (by decide +kernel) rfl) pa_nil)))))))), ?_⟩
  obtain ⟨i, rfl, q⟩ := h
  decreasing_trivial
  exact q
def spIsBetween : Sp := sp3 fun x a b H Q => ∃ i l m : Int, x = .int i ∧ a = .int l ∧ b = .int m ∧ l ≤ i ∧ i ≤ m ∧ Q (.bl true) H
theorem sc_is_between : FnScope ["value", "least", "most"] ["value", "least", "most"] (defScope (top 22)) := ⟨rfl, rfl, rfl, by decide +kernel, rfl, by decide +kernel, by decide +kernel⟩
theorem d_is_between (T : Txt K mg C) (D_is_integer : Df P w K mg base "is_integer" 1 spIsInt) : Df P w K mg base "is_between" 2 spIsBetween := by
  have sc := sc_is_between
  refine FnT.df (T.fn ("is_between", 22) (by decide)) sc len3 (fun _ _ _ _ _ _ us hl => match us, hl with | [_, _, _], _ => rfl) (fun f cdv A outer s H vs Q E hr h => ?_)
  have hu := hu_of hr
  have hu64 := hr.units
  have hu0 := Nat.lt_of_succ_lt hu
  obtain ⟨x1, x2, x3, rfl, h⟩ := h
  refine ⟨_, (pss_one (ps_ret (pe_and (pe_df D_is_integer (hr.mono (by decide)) rfl (pa_cons (pv 0) pa_nil)) (pe_one (pe_chain op_le op_le (pv 1) (pv 0) (pv 2)))))), ?_⟩
  obtain ⟨i, l, m, rfl, rfl, rfl, h1, h2, q⟩ := h
  decreasing_trivial
  refine r_sp1 ⟨i, rfl, ?_⟩
  decreasing_trivial
  refine iteE (by simpa using h1) ?_
  decreasing_trivial
  rw [decide_eq_true h2]
  exact q
def spIsList : Sp := sp1 fun x H Q => ∃ a xs, x = .ref a ∧ (H a = some (.lst xs) ∨ H a = some (.tup xs)) ∧ ∀ p, H p = none → Q (.bl true) (upd H p (.tup [.ty "list", .ty "tuple"]))
theorem sc_is_list : FnScope ["value"] ["value"] (defScope (top 23)) := ⟨rfl, rfl, rfl, by decide +kernel, rfl, by decide +kernel, by decide +kernel⟩
theorem d_is_list (T : Txt K mg C)  : Df P w K mg base "is_list" 1 spIsList := by
  have sc := sc_is_list
  refine FnT.df (T.fn ("is_list", 23) (by decide)) sc len1 (fun _ _ _ _ _ _ us hl => match us, hl with | [_], _ => rfl) (fun f cdv A outer s H vs Q E hr h => ?_)
  have hu := hu_of hr
  have hu64 := hr.units
  have hu0 := Nat.lt_of_succ_lt hu
  obtain ⟨x1, rfl, h⟩ := h
  refine ⟨_, (pss_one (ps_ret (pe_callB (call_isiT_ K) (by rfl) T.f_isinstance (by decide +kernel) (pa_cons (pv 0) (pa_cons (pe_tup (pa_cons (pe_bltn (v := .ty "list") (u := .type "list") rfl T.f_list (by decide +kernel) rfl) (pa_cons (pe_bltn (v := .ty "tuple") (u := .type "tuple") rfl T.f_tuple (by decide +kernel) rfl) pa_nil))) pa_nil))))), ?_⟩
  obtain ⟨a, xs, rfl, ha, q⟩ := h
  decreasing_trivial
  refine ⟨by decide, fun p hp => ?_⟩
  decreasing_trivial
  rcases ha with ha | ha
  · exact ⟨_, p, _, _, [.type "list", .type "tuple"], true, rfl, upd_same, .cons (ClsV.ty _) (.cons (ClsV.ty _) .nil), TyX.base (TyOf.lst ((upd_ne (ne_of_none ha hp)).trans ha)), kitAny_cons (b := true) (kit_ty (by decide +kernel)) (fun z => by cases z) (fun _ => rfl), q p hp⟩
  · exact ⟨_, p, _, _, [.type "list", .type "tuple"], true, rfl, upd_same, .cons (ClsV.ty _) (.cons (ClsV.ty _) .nil), TyX.base (TyOf.tup ((upd_ne (ne_of_none ha hp)).trans ha)), kitAny_cons (b := false) (kit_ty (by decide +kernel)) (fun _ => kitAny_cons (b := true) (kit_ty (by decide +kernel)) (fun z => by cases z) (fun _ => rfl)) (fun z => by cases z), q p hp⟩
def spIsTupleOf : Sp := sp2 fun x n H Q => ∃ a xs, x = .ref a ∧ H a = some (.tup xs) ∧ n = .int (xs.length : Nat) ∧ Q (.bl true) H
theorem sc_is_tuple_of : FnScope ["value", "size"] ["value", "size"] (defScope (top 24)) := ⟨rfl, rfl, rfl, by decide +kernel, rfl, by decide +kernel, by decide +kernel⟩
theorem d_is_tuple_of (T : Txt K mg C)  : Df P w K mg base "is_tuple_of" 1 spIsTupleOf := by
  have sc := sc_is_tuple_of
  refine FnT.df (T.fn ("is_tuple_of", 24) (by decide)) sc len2 (fun _ _ _ _ _ _ us hl => match us, hl with | [_, _], _ => rfl) (fun f cdv A outer s H vs Q E hr h => ?_)
  have hu := hu_of hr
  have hu64 := hr.units
  have hu0 := Nat.lt_of_succ_lt hu
  obtain ⟨x1, x2, rfl, h⟩ := h
  refine ⟨_, (pss_one (ps_ret (pe_and (pe_callB (call_isi_ K) (by rfl) T.f_isinstance (by decide +kernel) (pa_cons (pv 0) (pa_cons (pe_bltn (v := .ty "tuple") (u := .type "tuple") rfl T.f_tuple (by decide +kernel) rfl) pa_nil))) (pe_one (pe_cmpR op_eq (pe_callB (call_len_seqK K) (by rfl) T.f_len PySem.boot_len (pa_cons (pv 0) pa_nil)) (pv 1) (nomark _)))))), ?_⟩
  obtain ⟨a, xs, rfl, ha, rfl, q⟩ := h
  decreasing_trivial
  refine r_isi_tup ha ?_
  decreasing_trivial
  refine ⟨a, xs, rfl, .inr (SqT.of ha), ?_⟩
  decreasing_trivial
  rw [decide_eq_true rfl]
  exact q
end
end Hy
namespace Hy
open PySem PySem.Spec PyProof.Rows L2
local macro_rules | `(tactic| decreasing_trivial) => `(tactic| ((try (with_reducible conv => whnf)); repeat (first
    | with_reducible refine iteT ?_
    | with_reducible refine iteF ?_
    | with_reducible refine iteNT ?_
    | with_reducible refine iteNF ?_
    | with_reducible refine r_isi_int ?_
    | with_reducible refine r_isi_bool ?_
    | with_reducible refine r_isi_str ?_
    | with_reducible refine r_eqN ?_
    | with_reducible refine r_neN ?_
    | with_reducible refine r_eqS ?_
    | with_reducible refine r_neS ?_
    | with_reducible refine r_seq ?_
    | with_reducible refine r_asg ?_
    | with_reducible refine r_gname ?_
    | with_reducible refine r_ret ?_
    | with_reducible refine r_drop ?_
    | with_reducible refine r_next ?_
    | with_reducible refine r_op ?_
    | with_reducible refine r_var (by with_unfolding_all exact rfl) ?_
    | with_reducible refine r_c ?_
    | with_reducible refine r_cons ?_
    | with_reducible refine r_nil ?_
    | with_reducible refine r_un ?_
    | with_reducible refine r_I0 ?_
    | with_reducible refine r_U ?_
    | with_reducible refine r_df ?_
    | with_reducible refine r_cb ?_
    | with_reducible refine r_ifS ?_
    | with_reducible refine r_ifE ?_
    | with_reducible refine r_test ?_
    | with_reducible refine r_B ?_
    | with_reducible refine r_tand ?_
    | with_reducible refine r_tor ?_
    | with_reducible refine r_tnot ?_
    | with_reducible refine r_andV ?_
    | with_reducible refine r_orV ?_
    | with_reducible refine r_notV ?_
    | with_reducible refine r_blif ?_
    | with_reducible refine r_bl ?_
    | with_reducible refine r_chain ?_
    | with_reducible refine r_tup ?_
    | with_reducible refine r_lst ?_
    | with_reducible refine r_fld ?_
    | with_reducible refine r_dget ?_
    | with_reducible refine r_din ?_
    | with_reducible refine r_pt ?_
    | with_reducible refine r_mt ?_
    | with_reducible refine r_iEnumS ?_
    | with_reducible refine r_bm ?_
    | with_reducible refine r_iStr ?_
    | with_reducible refine r_lcT ?_
    | with_reducible refine r_dcT ?_
    | with_reducible refine r_iList ?_
    | with_reducible refine r_iTup ?_
    | with_reducible refine r_iRng1 ?_
    | with_reducible refine r_iRng2 ?_
    | with_reducible refine r_iEnum ?_
    | with_reducible refine r_iZip ?_
    | with_reducible refine r_iKeys ?_
    | with_reducible refine r_iItems ?_
    | with_reducible refine r_iVals ?_
    | with_reducible refine r_lstRg ?_
    | with_reducible refine r_rg1 ?_
    | with_reducible refine r_sortDf ?_
    | with_reducible refine r_bits ?_
    | with_reducible refine r_forT ?_
    | with_reducible refine r_augS ?_
    | with_reducible refine r_gsub ?_
    | with_reducible refine r_bm0 ?_
    | with_reducible refine r_sortLam ?_
    | with_reducible refine r_sfld ?_
    | with_reducible refine r_dput ?_
    | with_reducible refine r_dnewK ?_
    | with_reducible refine r_mk ?_
    | with_reducible refine r_con ?_
    | with_reducible refine r_lockS ?_
    | with_reducible refine r_sl ?_
    | with_reducible refine r_part ?_
    | with_reducible refine r_nopart ?_
    | with_reducible refine r_dget2 ?_
    | with_reducible refine r_isN ?_
    | with_reducible refine r_notN ?_
    | with_reducible refine r_par ?_
    | with_reducible refine r_par2 ?_
    | with_reducible refine r_yes ?_
    | with_reducible refine r_scT ?_)))
section
variable {P : Program} {w : World} {K : PySem.W.Frag} {mg : Str → Option Value} {base : Heap} {C : Ad}
theorem sc_Font_signs : FnScope ["self"] ["self"] (defScope (inClass (top 57) 7)) := ⟨rfl, rfl, rfl, by decide +kernel, rfl, by decide +kernel, by decide +kernel⟩
theorem d_Font_signs (T : Txt K mg C)  : Pt P w K mg base C.CF "signs" 1 (spSigns C) := by
  have sc := sc_Font_signs
  obtain ⟨pp, f, fd, Gf, hm⟩ := T.p_signs.ex
  refine ⟨⟨pp, f, hm, Fun.fnr Gf sc len1 (fun _ _ _ _ _ _ us hl => match us, hl with | [_], _ => rfl) (fun cdv A outer s H vs Q E hr h => ?_)⟩, T.cF⟩
  have hu := hu_of hr
  have hu64 := hr.units
  have hu0 := Nat.lt_of_succ_lt hu
  obtain ⟨x1, rfl, h⟩ := h
  refine ⟨_, (pss_one (ps_ret (pe_fldK K (pv 0) rfl))), ?_⟩
  obtain ⟨f', F, rfl, hF, q⟩ := h
  obtain ⟨o, dx, fs, r, hh, hk, v⟩ := id hF
  decreasing_trivial
  exact r_fld1 v.at_ T.cF T.nWord v.word q
theorem sc_Font_len : FnScope ["self"] ["self"] (defScope (inClass (top 57) 5)) := ⟨rfl, rfl, rfl, by decide +kernel, rfl, by decide +kernel, by decide +kernel⟩
theorem d_Font_len (T : Txt K mg C)  : Sl P w K mg base C.CF "__len__" 1 (spFontLen C) := by
  have sc := sc_Font_len
  obtain ⟨f, fd, Gf, h1, h2, h3⟩ := T.s_len.ex
  refine ⟨⟨f, h1, h2, h3, Fun.fnr Gf sc len1 (fun _ _ _ _ _ _ us hl => match us, hl with | [_], _ => rfl) (fun cdv A outer s H vs Q E hr h => ?_)⟩⟩
  have hu := hu_of hr
  have hu64 := hr.units
  have hu0 := Nat.lt_of_succ_lt hu
  obtain ⟨x1, rfl, h⟩ := h
  refine ⟨_, (pss_one (ps_ret (pe_callB call_len_str (by rfl) T.f_len PySem.boot_len (pa_cons (pe_fldK K (pv 0) rfl) pa_nil)))), ?_⟩
  obtain ⟨f', F, rfl, hF, q⟩ := h
  obtain ⟨o, dx, fs, r, hh, hk, v⟩ := id hF
  decreasing_trivial
  refine r_fld1 v.at_ T.cF T.nWord v.word ?_
  refine r_lenS (by rw [W_len]; have := o.hi; have e : F.n = F.ws.length := rfl; omega) ?_
  rw [W_len]
  exact q
theorem sc_number_of_sets : FnScope ["font"] ["font"] (defScope (top 34)) := ⟨rfl, rfl, rfl, by decide +kernel, rfl, by decide +kernel, by decide +kernel⟩
theorem d_number_of_sets (T : Txt K mg C) (D_Font_len : Sl P w K mg base C.CF "__len__" 1 (spFontLen C)) : Df P w K mg base "number_of_sets" 3 (spNSets C) := by
  have sc := sc_number_of_sets
  refine FnT.df (T.fn ("number_of_sets", 34) (by decide)) sc len1 (fun _ _ _ _ _ _ us hl => match us, hl with | [_], _ => rfl) (fun f cdv A outer s H vs Q E hr h => ?_)
  have hu := hu_of hr
  have hu64 := hr.units
  have hu0 := Nat.lt_of_succ_lt hu
  obtain ⟨x1, rfl, h⟩ := h
  refine ⟨_, (pss_one (ps_ret (pe_op op_shl pe_int (pe_callB (call_lenSl D_Font_len (hr.mono (by decide))) (by rfl) T.f_len PySem.boot_len (pa_cons (pv 0) pa_nil))))), ?_⟩
  obtain ⟨f', F, rfl, hF, q⟩ := h
  decreasing_trivial
  refine r_flen hF ?_
  have hn := hF.1.n
  refine r_I ⟨by omega, by omega, by decide⟩ ?_
  have e : (1 : Int) * 2 ^ ((F.n : Nat) : Int).toNat = ((2 ^ F.n : Nat) : Int) := by
    rw [Int.one_mul, Int.toNat_natCast]
    simp
  rw [e]
  exact q
end
end Hy
namespace Hy
open PySem PySem.Spec PyProof.Rows L2
local macro_rules | `(tactic| decreasing_trivial) => `(tactic| ((try (with_reducible conv => whnf)); repeat (first
    | with_reducible refine iteT ?_
    | with_reducible refine iteF ?_
    | with_reducible refine iteNT ?_
    | with_reducible refine iteNF ?_
    | with_reducible refine r_isi_int ?_
    | with_reducible refine r_isi_bool ?_
    | with_reducible refine r_isi_str ?_
    | with_reducible refine r_eqN ?_
    | with_reducible refine r_neN ?_
    | with_reducible refine r_eqS ?_
    | with_reducible refine r_neS ?_
    | with_reducible refine r_seq ?_
    | with_reducible refine r_asg ?_
    | with_reducible refine r_gname ?_
    | with_reducible refine r_ret ?_
    | with_reducible refine r_drop ?_
    | with_reducible refine r_next ?_
    | with_reducible refine r_op ?_
    | with_reducible refine r_var (by with_unfolding_all exact rfl) ?_
    | with_reducible refine r_c ?_
    | with_reducible refine r_cons ?_
    | with_reducible refine r_nil ?_
    | with_reducible refine r_un ?_
    | with_reducible refine r_I0 ?_
    | with_reducible refine r_U ?_
    | with_reducible refine r_df ?_
    | with_reducible refine r_cb ?_
    | with_reducible refine r_ifS ?_
    | with_reducible refine r_ifE ?_
    | with_reducible refine r_test ?_
    | with_reducible refine r_B ?_
    | with_reducible refine r_tand ?_
    | with_reducible refine r_tor ?_
    | with_reducible refine r_tnot ?_
    | with_reducible refine r_andV ?_
    | with_reducible refine r_orV ?_
    | with_reducible refine r_notV ?_
    | with_reducible refine r_blif ?_
    | with_reducible refine r_bl ?_
    | with_reducible refine r_chain ?_
    | with_reducible refine r_tup ?_
    | with_reducible refine r_lst ?_
    | with_reducible refine r_fld ?_
    | with_reducible refine r_dget ?_
    | with_reducible refine r_din ?_
    | with_reducible refine r_pt ?_
    | with_reducible refine r_mt ?_
    | with_reducible refine r_iEnumS ?_
    | with_reducible refine r_bm ?_
    | with_reducible refine r_iStr ?_
    | with_reducible refine r_lcT ?_
    | with_reducible refine r_dcT ?_
    | with_reducible refine r_iList ?_
    | with_reducible refine r_iTup ?_
    | with_reducible refine r_iRng1 ?_
    | with_reducible refine r_iRng2 ?_
    | with_reducible refine r_iEnum ?_
    | with_reducible refine r_iZip ?_
    | with_reducible refine r_iKeys ?_
    | with_reducible refine r_iItems ?_
    | with_reducible refine r_iVals ?_
    | with_reducible refine r_lstRg ?_
    | with_reducible refine r_rg1 ?_
    | with_reducible refine r_sortDf ?_
    | with_reducible refine r_bits ?_
    | with_reducible refine r_forT ?_
    | with_reducible refine r_augS ?_
    | with_reducible refine r_gsub ?_
    | with_reducible refine r_bm0 ?_
    | with_reducible refine r_sortLam ?_
    | with_reducible refine r_sfld ?_
    | with_reducible refine r_dput ?_
    | with_reducible refine r_dnewK ?_
    | with_reducible refine r_mk ?_
    | with_reducible refine r_con ?_
    | with_reducible refine r_lockS ?_
    | with_reducible refine r_sl ?_
    | with_reducible refine r_part ?_
    | with_reducible refine r_nopart ?_
    | with_reducible refine r_dget2 ?_
    | with_reducible refine r_isN ?_
    | with_reducible refine r_notN ?_
    | with_reducible refine r_par ?_
    | with_reducible refine r_par2 ?_
    | with_reducible refine r_yes ?_
    | with_reducible refine r_scT ?_)))
section
variable {P : Program} {w : World} {K : PySem.W.Frag} {mg : Str → Option Value} {base : Heap} {C : Ad} {G : List (Addr × Str)}
theorem sc_Font_ascending : FnScope ["self", "signs", "sign"] ["self", "signs"] (defScope (inClass (top 57) 9)) := ⟨rfl, rfl, rfl, by decide +kernel, rfl, by decide +kernel, by decide +kernel⟩
theorem d_Font_ascending (T : Txt K mg C)  : Mt P w K mg base C.CF "ascending" 1 (spAsc C G) := by
  have sc := sc_Font_ascending
  obtain ⟨f, fd, Gf, hm⟩ := T.m_asc.ex
  refine ⟨⟨f, hm, Fun.fnr Gf sc len2 (fun _ _ _ _ _ _ us hl => match us, hl with | [_, _], _ => rfl) (fun cdv A outer s H vs Q E hr h => ?_)⟩, T.cF⟩
  have hu := hu_of hr
  have hu64 := hr.units
  have hu0 := Nat.lt_of_succ_lt hu
  obtain ⟨x1, x2, rfl, h⟩ := h
  refine ⟨_, (pss_one (ps_ret (cK_bm K (pe_bm PySem.F.plainAttrs_str PySem.F.slot_str_join PySem.F.type_str_join (mt_joinK K) pe_str (pa_cons (pe_lc (own := [("sign", 2)]) rfl sc.nd (pi_str (pe_fldK K (pv 0) rfl)) (blkOk_by (N := ["self", "signs", "sign"]) (sc := defScope (inClass (top 57) 9)) (by decide +kernel)) (fun _ _ _ _ _ => (pg_name (i := 2) sc.nd rfl (by first | exact Or.inl rfl | exact Or.inr rfl))) (fun _ _ _ _ _ => pts_one (pt_cmpR (op_inArgK K) (pv 2) (pv 1) (by rfl))) (fun _ _ _ _ _ => (pv 2))) pa_nil))))), ?_⟩
  obtain ⟨f', F, p, rfl, hF, hy, q⟩ := h
  obtain ⟨o, dx, fs, r, hh, hk, v⟩ := id hF
  decreasing_trivial
  refine ⟨rfl, ?_⟩
  decreasing_trivial
  refine r_fld1 v.at_ T.cF T.nWord v.word ⟨_, rfl, fun D hD => ?_⟩
  refine lc_it walk_str (Lp ⟨false, G⟩ H D (giv p vS F.ws)) (Lp.start hD (giv_zero _ _ _)) (fun _ _ _ _ => trivial) (fun i x H1 H2 hi hp hx => ?_) (fun H1 hp => ?_)
  · obtain ⟨rfl, c, hc, rfl⟩ := hx
    have hc' : F.ws[i]? = some c := by simpa [Ft.W] using hc
    decreasing_trivial
    refine ⟨rfl, ?_⟩
    decreasing_trivial
    refine r_inArg (hy.mono hp.1) ?_
    decreasing_trivial
    refine iteD (fun e => ?_) (fun e => ?_)
    · decreasing_trivial
      exact hp.add hD (Fm.refl _) (Nat.le_trans (giv_len _ _ _ _) (by have := o.hi; omega)) (giv_yes hc' e)
    · exact hp.skip (Fm.refl _) (giv_no hc' e)
  · decreasing_trivial
    have e1 : F.W.cps.size = F.ws.length := by simp [Ft.W]
    have h2 := hp.2
    rw [e1, giv_all] at h2
    refine ⟨"", D, (F.ws.filter p).map S1, rfl, rfl, .inl (SqL.of (by rw [h2, List.map_map]; rfl)), ?_, ?_⟩
    · exact join_small (Nat.le_trans (List.length_filter_le _ _) (by have := o.hi; omega))
    · rw [join_signs]
      exact q _ hp.1
end
end Hy
namespace Hy
open PySem PySem.Spec PyProof.Rows L2
local macro_rules | `(tactic| decreasing_trivial) => `(tactic| ((try (with_reducible conv => whnf)); repeat (first
    | with_reducible refine iteT ?_
    | with_reducible refine iteF ?_
    | with_reducible refine iteNT ?_
    | with_reducible refine iteNF ?_
    | with_reducible refine r_isi_int ?_
    | with_reducible refine r_isi_bool ?_
    | with_reducible refine r_isi_str ?_
    | with_reducible refine r_eqN ?_
    | with_reducible refine r_neN ?_
    | with_reducible refine r_eqS ?_
    | with_reducible refine r_neS ?_
    | with_reducible refine r_seq ?_
    | with_reducible refine r_asg ?_
    | with_reducible refine r_gname ?_
    | with_reducible refine r_ret ?_
    | with_reducible refine r_drop ?_
    | with_reducible refine r_next ?_
    | with_reducible refine r_op ?_
    | with_reducible refine r_var (by with_unfolding_all exact rfl) ?_
    | with_reducible refine r_c ?_
    | with_reducible refine r_cons ?_
    | with_reducible refine r_nil ?_
    | with_reducible refine r_un ?_
    | with_reducible refine r_I0 ?_
    | with_reducible refine r_U ?_
    | with_reducible refine r_df ?_
    | with_reducible refine r_cb ?_
    | with_reducible refine r_ifS ?_
    | with_reducible refine r_ifE ?_
    | with_reducible refine r_test ?_
    | with_reducible refine r_B ?_
    | with_reducible refine r_tand ?_
    | with_reducible refine r_tor ?_
    | with_reducible refine r_tnot ?_
    | with_reducible refine r_andV ?_
    | with_reducible refine r_orV ?_
    | with_reducible refine r_notV ?_
    | with_reducible refine r_blif ?_
    | with_reducible refine r_bl ?_
    | with_reducible refine r_chain ?_
    | with_reducible refine r_tup ?_
    | with_reducible refine r_lst ?_
    | with_reducible refine r_fld ?_
    | with_reducible refine r_dget ?_
    | with_reducible refine r_din ?_
    | with_reducible refine r_pt ?_
    | with_reducible refine r_mt ?_
    | with_reducible refine r_iEnumS ?_
    | with_reducible refine r_bm ?_
    | with_reducible refine r_iStr ?_
    | with_reducible refine r_lcT ?_
    | with_reducible refine r_dcT ?_
    | with_reducible refine r_iList ?_
    | with_reducible refine r_iTup ?_
    | with_reducible refine r_iRng1 ?_
    | with_reducible refine r_iRng2 ?_
    | with_reducible refine r_iEnum ?_
    | with_reducible refine r_iZip ?_
    | with_reducible refine r_iKeys ?_
    | with_reducible refine r_iItems ?_
    | with_reducible refine r_iVals ?_
    | with_reducible refine r_lstRg ?_
    | with_reducible refine r_rg1 ?_
    | with_reducible refine r_sortDf ?_
    | with_reducible refine r_bits ?_
    | with_reducible refine r_forT ?_
    | with_reducible refine r_augS ?_
    | with_reducible refine r_gsub ?_
    | with_reducible refine r_bm0 ?_
    | with_reducible refine r_sortLam ?_
    | with_reducible refine r_sfld ?_
    | with_reducible refine r_dput ?_
    | with_reducible refine r_dnewK ?_
    | with_reducible refine r_mk ?_
    | with_reducible refine r_con ?_
    | with_reducible refine r_lockS ?_
    | with_reducible refine r_sl ?_
    | with_reducible refine r_part ?_
    | with_reducible refine r_nopart ?_
    | with_reducible refine r_dget2 ?_
    | with_reducible refine r_isN ?_
    | with_reducible refine r_notN ?_
    | with_reducible refine r_par ?_
    | with_reducible refine r_par2 ?_
    | with_reducible refine r_yes ?_
    | with_reducible refine r_scT ?_)))
section
variable {P : Program} {w : World} {K : PySem.W.Frag} {mg : Str → Option Value} {base : Heap} {C : Ad} {G : List (Addr × Str)}
theorem sc_set_of : FnScope ["font", "mask", "at", "sign"] ["font", "mask"] (defScope (top 35)) := ⟨rfl, rfl, rfl, by decide +kernel, rfl, by decide +kernel, by decide +kernel⟩
theorem d_set_of (T : Txt K mg C) (D_Font_signs : Pt P w K mg base C.CF "signs" 1 (spSigns C)) : Df P w K mg base "set_of" 3 (spSetOf C G) := by
  have sc := sc_set_of
  refine FnT.df (T.fn ("set_of", 35) (by decide)) sc len2 (fun _ _ _ _ _ _ us hl => match us, hl with | [_, _], _ => rfl) (fun f cdv A outer s H vs Q E hr h => ?_)
  have hu := hu_of hr
  have hu64 := hr.units
  have hu0 := Nat.lt_of_succ_lt hu
  obtain ⟨x1, x2, rfl, h⟩ := h
  refine ⟨_, (pss_one (ps_ret (cK_bm K (pe_bm PySem.F.plainAttrs_str PySem.F.slot_str_join PySem.F.type_str_join (mt_joinK K) pe_str (pa_cons (pe_lc (own := [("at", 2), ("sign", 3)]) rfl sc.nd (pi_enumS rfl T.f_enumerate (pa_cons (pe_prp D_Font_signs (hr.mono (by decide)) (pv 0) rfl) pa_nil)) (blkOk_by (N := ["font", "mask", "at", "sign"]) (sc := defScope (top 35)) (by decide +kernel)) (fun _ _ _ _ _ => (pg_tupK K (n := 2) rfl (pgs_cons (pg_name (i := 2) sc.nd rfl (by first | exact Or.inl rfl | exact Or.inr rfl)) (pgs_cons (pg_name (i := 3) sc.nd rfl (by first | exact Or.inl rfl | exact Or.inr rfl)) pgs_nil)))) (fun _ _ _ _ _ => pts_one (pt_cmpR op_eq (pe_op op_and (pe_op op_shr (pv 1) (pv 2)) pe_int) pe_int (nomark _))) (fun _ _ _ _ _ => (pv 3))) pa_nil))))), ?_⟩
  obtain ⟨f', F, m, rfl, rfl, hF, hm, q⟩ := h
  decreasing_trivial
  refine ⟨rfl, ?_⟩
  decreasing_trivial
  refine r_signs hF ?_
  decreasing_trivial
  refine ⟨_, rfl, fun D hD => ?_⟩
  refine lc_it walk_enumS (Lp ⟨false, G⟩ H D (giv (fun p : Nat × Nat => m.testBit p.2) (fun p => vS p.1) F.ws.zipIdx)) (Lp.start hD (giv_zero _ _ _)) (fun _ _ _ _ => trivial) (fun i x H1 H2 hi hp hx => ?_) (fun H1 hp => ?_)
  · obtain ⟨T', c, rfl, hT', hc, rfl⟩ := hx
    have hc' : F.ws[i]? = some c := by simpa [Ft.W] using hc
    have hci : F.ws.zipIdx[i]? = some (c, i) := by simp [hc']
    have hi5 : i < 5 := by
      have := (List.getElem?_eq_some_iff.mp hc').1
      have := hF.1.hi
      omega
    refine ⟨T', _, rfl, SqT.of upd_same, rfl, _, _, rfl, _, _, rfl, rfl, rfl, ?_⟩
    decreasing_trivial
    refine r_I (by show (0 : Int) ≤ _; omega) ?_
    decreasing_trivial
    rw [test_bit (m32 hF.1 hm) hi5]
    refine iteD (fun e => ?_) (fun e => ?_)
    · decreasing_trivial
      exact hp.add hD (Fm.new hT') (Nat.le_trans (giv_len _ _ _ _) (by rw [List.length_zipIdx]; have := hF.1.hi; omega)) (giv_yes hci e)
    · exact hp.skip (Fm.new hT') (giv_no hci e)
  · decreasing_trivial
    have e1 : F.W.cps.size = F.ws.zipIdx.length := by simp [Ft.W]
    have h2 := hp.2
    rw [e1, giv_all, setL_zip hF.1 m] at h2
    refine ⟨"", D, (F.setL m).map S1, rfl, rfl, .inl (SqL.of (by rw [h2, List.map_map]; rfl)), ?_, ?_⟩
    · exact join_small (Nat.le_trans (List.length_filter_le _ _) (by have := hF.1.hi; omega))
    · rw [join_signs]
      exact q _ hp.1
end
end Hy
namespace Hy
open PySem PySem.Spec PyProof.Rows L2
local macro_rules | `(tactic| decreasing_trivial) => `(tactic| ((try (with_reducible conv => whnf)); repeat (first
    | with_reducible refine iteT ?_
    | with_reducible refine iteF ?_
    | with_reducible refine iteNT ?_
    | with_reducible refine iteNF ?_
    | with_reducible refine r_isi_int ?_
    | with_reducible refine r_isi_bool ?_
    | with_reducible refine r_isi_str ?_
    | with_reducible refine r_eqN ?_
    | with_reducible refine r_neN ?_
    | with_reducible refine r_eqS ?_
    | with_reducible refine r_neS ?_
    | with_reducible refine r_seq ?_
    | with_reducible refine r_asg ?_
    | with_reducible refine r_gname ?_
    | with_reducible refine r_ret ?_
    | with_reducible refine r_drop ?_
    | with_reducible refine r_next ?_
    | with_reducible refine r_op ?_
    | with_reducible refine r_var (by with_unfolding_all exact rfl) ?_
    | with_reducible refine r_c ?_
    | with_reducible refine r_cons ?_
    | with_reducible refine r_nil ?_
    | with_reducible refine r_un ?_
    | with_reducible refine r_I0 ?_
    | with_reducible refine r_U ?_
    | with_reducible refine r_df ?_
    | with_reducible refine r_cb ?_
    | with_reducible refine r_ifS ?_
    | with_reducible refine r_ifE ?_
    | with_reducible refine r_test ?_
    | with_reducible refine r_B ?_
    | with_reducible refine r_tand ?_
    | with_reducible refine r_tor ?_
    | with_reducible refine r_tnot ?_
    | with_reducible refine r_andV ?_
    | with_reducible refine r_orV ?_
    | with_reducible refine r_notV ?_
    | with_reducible refine r_blif ?_
    | with_reducible refine r_bl ?_
    | with_reducible refine r_chain ?_
    | with_reducible refine r_tup ?_
    | with_reducible refine r_lst ?_
    | with_reducible refine r_fld ?_
    | with_reducible refine r_dget ?_
    | with_reducible refine r_din ?_
    | with_reducible refine r_pt ?_
    | with_reducible refine r_mt ?_
    | with_reducible refine r_iEnumS ?_
    | with_reducible refine r_bm ?_
    | with_reducible refine r_iStr ?_
    | with_reducible refine r_lcT ?_
    | with_reducible refine r_dcT ?_
    | with_reducible refine r_iList ?_
    | with_reducible refine r_iTup ?_
    | with_reducible refine r_iRng1 ?_
    | with_reducible refine r_iRng2 ?_
    | with_reducible refine r_iEnum ?_
    | with_reducible refine r_iZip ?_
    | with_reducible refine r_iKeys ?_
    | with_reducible refine r_iItems ?_
    | with_reducible refine r_iVals ?_
    | with_reducible refine r_lstRg ?_
    | with_reducible refine r_rg1 ?_
    | with_reducible refine r_sortDf ?_
    | with_reducible refine r_bits ?_
    | with_reducible refine r_forT ?_
    | with_reducible refine r_augS ?_
    | with_reducible refine r_gsub ?_
    | with_reducible refine r_bm0 ?_
    | with_reducible refine r_sortLam ?_
    | with_reducible refine r_sfld ?_
    | with_reducible refine r_dput ?_
    | with_reducible refine r_dnewK ?_
    | with_reducible refine r_mk ?_
    | with_reducible refine r_con ?_
    | with_reducible refine r_lockS ?_
    | with_reducible refine r_sl ?_
    | with_reducible refine r_part ?_
    | with_reducible refine r_nopart ?_
    | with_reducible refine r_dget2 ?_
    | with_reducible refine r_isN ?_
    | with_reducible refine r_notN ?_
    | with_reducible refine r_par ?_
    | with_reducible refine r_par2 ?_
    | with_reducible refine r_yes ?_
    | with_reducible refine r_scT ?_)))
section
variable {P : Program} {w : World} {K : PySem.W.Frag} {mg : Str → Option Value} {base : Heap} {C : Ad} {G : List (Addr × Str)}
theorem sc_mask_of : FnScope ["font", "signs", "sign"] ["font", "signs"] (defScope (top 36)) := ⟨rfl, rfl, rfl, by decide +kernel, rfl, by decide +kernel, by decide +kernel⟩
theorem d_mask_of (T : Txt K mg C)  : Df P w K mg base "mask_of" 1 (spMaskOf C G) := by
  have sc := sc_mask_of
  refine FnT.df (T.fn ("mask_of", 36) (by decide)) sc len2 (fun _ _ _ _ _ _ us hl => match us, hl with | [_, _], _ => rfl) (fun f cdv A outer s H vs Q E hr h => ?_)
  have hu := hu_of hr
  have hu64 := hr.units
  have hu0 := Nat.lt_of_succ_lt hu
  obtain ⟨x1, x2, rfl, h⟩ := h
  refine ⟨_, (pss_one (ps_ret (pe_callB (cr_sumK K) (by rfl) T.f_sum (by decide +kernel) (pa_cons (pe_lc (own := [("sign", 2)]) rfl sc.nd (pi_str (pv 1)) (blkOk_by (N := ["font", "signs", "sign"]) (sc := defScope (top 36)) (by decide +kernel)) (fun _ _ _ _ _ => (pg_name (i := 2) sc.nd rfl (by first | exact Or.inl rfl | exact Or.inr rfl))) (fun _ _ _ _ _ => pts_nil) (fun _ _ _ _ _ => (pe_op op_shl pe_int (pe_dget hu (pe_fldK K (pv 0) rfl) (pv 2) (fun _ _ => rfl))))) pa_nil)))), ?_⟩
  obtain ⟨f', F, p, rfl, hF, rfl, q⟩ := h
  decreasing_trivial
  refine ⟨_, rfl, fun D hD => ?_⟩
  refine lc_it walk_str (Lp ⟨false, G⟩ H D (giv (fun _ => true) (fun c => V.int ((2 ^ F.rk c : Nat) : Int)) (F.ws.filter p))) (Lp.start hD (giv_zero _ _ _)) (fun _ _ _ _ => trivial) (fun i x H1 H2 hi hp hx => ?_) (fun H1 hp => ?_)
  · obtain ⟨rfl, c, hc, rfl⟩ := hx
    have hc' : (F.ws.filter p)[i]? = some c := by simpa using hc
    have hcw : c ∈ F.ws := (List.mem_filter.mp (List.mem_of_getElem? hc')).1
    obtain ⟨o, dx, fs, r, hh, hk, v⟩ := hF.mono hp.1
    decreasing_trivial
    refine ⟨rfl, ?_⟩
    decreasing_trivial
    refine r_fld1 v.at_ T.cF T.nRanks v.ranks ?_
    decreasing_trivial
    refine r_dget1 (k := kS c) v.hr rfl (by rw [ranks_get, if_pos hcw]) ?_
    have hrk : F.rk c < 5 := by
      have h1 := List.idxOf_lt_length_of_mem hcw
      have h2 := o.hi
      unfold Ft.rk
      omega
    refine r_I ⟨by omega, by omega, by decide⟩ ?_
    have e1 : (1 : Int) * 2 ^ ((F.rk c : Nat) : Int).toNat = ((2 ^ F.rk c : Nat) : Int) := by
      rw [Int.one_mul, Int.toNat_natCast]
      simp
    rw [e1]
    exact hp.add hD (Fm.refl _) (Nat.le_trans (giv_len _ _ _ _) (Nat.le_trans (List.length_filter_le _ _) (by have := o.hi; omega))) (giv_yes hc' rfl)
  · decreasing_trivial
    have e1 : (⟨(F.ws.filter p).toArray⟩ : Str).cps.size = (F.ws.filter p).length := by simp
    have h2 := hp.2
    rw [e1, giv_all, List.filter_eq_self.mpr (fun _ _ => rfl)] at h2
    refine ⟨D, (F.ws.filter p).map fun c => ((2 ^ F.rk c : Nat) : Int), rfl, SqL.of (by rw [h2, List.map_map]; rfl), ?_⟩
    rw [sum_mkp hF.1]
    exact q _ hp.1
theorem sc_is_sign : FnScope ["font", "value"] ["font", "value"] (defScope (top 25)) := ⟨rfl, rfl, rfl, by decide +kernel, rfl, by decide +kernel, by decide +kernel⟩
theorem d_is_sign (T : Txt K mg C)  : Df P w K mg base "is_sign" 1 (spIsSign C) := by
  have sc := sc_is_sign
  refine FnT.df (T.fn ("is_sign", 25) (by decide)) sc len2 (fun _ _ _ _ _ _ us hl => match us, hl with | [_, _], _ => rfl) (fun f cdv A outer s H vs Q E hr h => ?_)
  have hu := hu_of hr
  have hu64 := hr.units
  have hu0 := Nat.lt_of_succ_lt hu
  obtain ⟨x1, x2, rfl, h⟩ := h
  refine ⟨_, (pss_one (ps_ret (pe_and (pe_callB (call_isi_ K) (by rfl) T.f_isinstance (by decide +kernel) (pa_cons (pv 1) (pa_cons (pe_bltn (v := .ty "str") (u := .type "str") rfl T.f_str (by decide +kernel) rfl) pa_nil))) (pe_one (pe_cmp (pc_din hu (pv 1) (pe_fldK K (pv 0) rfl))))))), ?_⟩
  obtain ⟨f', F, c, rfl, hF, rfl, hc, q⟩ := h
  obtain ⟨o, dx, fs, r, hh, hk, v⟩ := id hF
  decreasing_trivial
  refine r_isi_str (z := S1 c) ?_
  decreasing_trivial
  refine r_fld1 v.at_ T.cF T.nRanks v.ranks ?_
  refine r_din1 (k := kS c) v.hr rfl ?_
  rw [ranks_get, if_pos hc]
  exact q
theorem sc_need_sign : FnScope ["font", "value"] ["font", "value"] (defScope (top 29)) := ⟨rfl, rfl, rfl, by decide +kernel, rfl, by decide +kernel, by decide +kernel⟩
theorem d_need_sign (T : Txt K mg C) (D_is_sign : Df P w K mg base "is_sign" 1 (spIsSign C)) : Df P w K mg base "need_sign" 3 (spNeedSign C) := by
  have sc := sc_need_sign
  refine FnT.df (T.fn ("need_sign", 29) (by decide)) sc len2 (fun _ _ _ _ _ _ us hl => match us, hl with | [_, _], _ => rfl) (fun f cdv A outer s H vs Q E hr h => ?_)
  have hu := hu_of hr
  have hu64 := hr.units
  have hu0 := Nat.lt_of_succ_lt hu
  obtain ⟨x1, x2, rfl, h⟩ := h
  refine ⟨_, (pss_one (ps_if (pt_not (pt_val (pe_df D_is_sign (hr.mono (by decide)) rfl (pa_cons (pv 0) (pa_cons (pv 1) pa_nil))))) (pss_one ps_never) pss_nil)), ?_⟩
  obtain ⟨f', F, c, rfl, hF, rfl, hc, q⟩ := h
  decreasing_trivial
  refine r_sp2 ⟨f', F, c, rfl, hF, rfl, hc, ?_⟩
  decreasing_trivial
  exact q
theorem sc_is_row : FnScope ["font", "value", "sign"] ["font", "value"] (defScope (top 26)) := ⟨rfl, rfl, rfl, by decide +kernel, rfl, by decide +kernel, by decide +kernel⟩
theorem d_is_row (T : Txt K mg C)  : Df P w K mg base "is_row" 1 (spIsRow C G) := by
  have sc := sc_is_row
  refine FnT.df (T.fn ("is_row", 26) (by decide)) sc len2 (fun _ _ _ _ _ _ us hl => match us, hl with | [_, _], _ => rfl) (fun f cdv A outer s H vs Q E hr h => ?_)
  have hu := hu_of hr
  have hu64 := hr.units
  have hu0 := Nat.lt_of_succ_lt hu
  obtain ⟨x1, x2, rfl, h⟩ := h
  refine ⟨_, (pss_one (ps_ret (pe_and (pe_callB (call_isi_ K) (by rfl) T.f_isinstance (by decide +kernel) (pa_cons (pv 1) (pa_cons (pe_bltn (v := .ty "str") (u := .type "str") rfl T.f_str (by decide +kernel) rfl) pa_nil))) (pe_one (pe_callB (cr_allK K) (by rfl) T.f_all (by decide +kernel) (pa_cons (pe_lc (own := [("sign", 2)]) rfl sc.nd (pi_str (pv 1)) (blkOk_by (N := ["font", "value", "sign"]) (sc := defScope (top 26)) (by decide +kernel)) (fun _ _ _ _ _ => (pg_name (i := 2) sc.nd rfl (by first | exact Or.inl rfl | exact Or.inr rfl))) (fun _ _ _ _ _ => pts_nil) (fun _ _ _ _ _ => (pe_cmp (pc_din hu (pv 2) (pe_fldK K (pv 0) rfl))))) pa_nil)))))), ?_⟩
  obtain ⟨f', F, l, rfl, hF, rfl, hl, hw, q⟩ := h
  decreasing_trivial
  refine ⟨_, rfl, fun D hD => ?_⟩
  refine lc_it walk_str (Lp ⟨false, G⟩ H D (giv (fun _ => true) (fun _ => V.bl true) l)) (Lp.start hD (giv_zero _ _ _)) (fun _ _ _ _ => trivial) (fun i x H1 H2 hi hp hx => ?_) (fun H1 hp => ?_)
  · obtain ⟨rfl, c, hc, rfl⟩ := hx
    have hc' : l[i]? = some c := by simpa using hc
    have hcw : c ∈ F.ws := hw c (List.mem_of_getElem? hc')
    obtain ⟨o, dx, fs, r, hh, hk, v⟩ := hF.mono hp.1
    decreasing_trivial
    refine ⟨rfl, ?_⟩
    decreasing_trivial
    refine r_fld1 v.at_ T.cF T.nRanks v.ranks ?_
    refine r_din1 (k := kS c) v.hr rfl ?_
    rw [ranks_get, if_pos hcw]
    exact hp.add hD (Fm.refl _) (Nat.le_trans (giv_len _ _ _ _) (by omega)) (giv_yes hc' rfl)
  · decreasing_trivial
    have e1 : (⟨l.toArray⟩ : Str).cps.size = l.length := by simp
    have h2 := hp.2
    rw [e1, giv_all, List.filter_eq_self.mpr (fun _ _ => rfl)] at h2
    refine ⟨D, l.map fun _ => true, rfl, SqL.of (by rw [h2, List.map_map]; rfl), ?_⟩
    have e2 : (l.map fun _ => true).any id = true ∨ True := .inr trivial
    have e3 : (l.map fun _ => true).all id = true := by
      rw [List.all_map]
      exact List.all_eq_true.mpr fun _ _ => rfl
    rw [e3]
    exact q _ hp.1
theorem sc_is_kind : FnScope ["font", "value", "side"] ["font", "value"] (defScope (top 27)) := ⟨rfl, rfl, rfl, by decide +kernel, rfl, by decide +kernel, by decide +kernel⟩
theorem d_is_kind (T : Txt K mg C)  : Df P w K mg base "is_kind" 1 (spIsKind C G) := by
  have sc := sc_is_kind
  refine FnT.df (T.fn ("is_kind", 27) (by decide)) sc len2 (fun _ _ _ _ _ _ us hl => match us, hl with | [_, _], _ => rfl) (fun f cdv A outer s H vs Q E hr h => ?_)
  have hu := hu_of hr
  have hu64 := hr.units
  have hu0 := Nat.lt_of_succ_lt hu
  obtain ⟨x1, x2, rfl, h⟩ := h
  refine ⟨_, (pss_cons (ps_if (PW.pt (pw_or (pt_not (pt_val (pe_callB (call_isi_ K) (by rfl) T.f_isinstance (by decide +kernel) (pa_cons (pv 1) (pa_cons (pe_bltn (v := .ty "str") (u := .type "str") rfl T.f_str (by decide +kernel) rfl) pa_nil))))) (pw_or (pt_cmpR op_ne (pe_callB call_len_str (by rfl) T.f_len PySem.boot_len (pa_cons (pv 1) pa_nil)) pe_int (nomark _)) (pw_or1 (pt_cmpR op_eq (pv 1) (pe_op op_repS (pe_gc T.g_BLANK rfl) pe_int) (nomark _)))))) (pss_one (ps_ret pe_bl)) pss_nil)
  (pss_one (ps_ret (pe_callB (cr_allK K) (by rfl) T.f_all (by decide +kernel) (pa_cons (pe_lc (own := [("side", 2)]) rfl sc.nd (pi_str (pv 1)) (blkOk_by (N := ["font", "value", "side"]) (sc := defScope (top 27)) (by decide +kernel)) (fun _ _ _ _ _ => (pg_name (i := 2) sc.nd rfl (by first | exact Or.inl rfl | exact Or.inr rfl))) (fun _ _ _ _ _ => pts_nil) (fun _ _ _ _ _ => (pe_or (pe_cmpR op_eq (pv 2) (pe_gc T.g_BLANK rfl) (nomark _)) (pe_one (pe_cmp (pc_din hu (pv 2) (pe_fldK K (pv 0) rfl))))))) pa_nil))))), ?_⟩
  obtain ⟨f', F, a, b, rfl, hF, rfl, ha, hb, hab, q⟩ := h
  decreasing_trivial
  refine ⟨_, rfl, by show 2 ≤ sizeLine; decide, ?_⟩
  decreasing_trivial
  refine iteN (by show (!decide (((2 : Nat) : Int) = 2)) = false; decide) ?_
  decreasing_trivial
  refine ⟨rfl, rfl, ?_⟩
  decreasing_trivial
  refine iteN (decide_eq_false fun (e : K2 (a, b) = ("--" : Str)) => hab (by
    have e2 := congrArg (fun z : Str => z.cps.toList) e
    have e3 : [a, b] = [45, 45] := e2
    simpa using e3)) ?_
  decreasing_trivial
  refine ⟨_, rfl, fun D hD => ?_⟩
  refine lc_it walk_str (Lp ⟨false, G⟩ H D (giv (fun _ => true) (fun _ => V.bl true) [a, b])) (Lp.start hD (giv_zero _ _ _)) (fun _ _ _ _ => trivial) (fun i x H1 H2 hi hp hx => ?_) (fun H1 hp => ?_)
  · obtain ⟨rfl, c, hc, rfl⟩ := hx
    have hc' : [a, b][i]? = some c := by simpa [K2] using hc
    have hcw : c = 45 ∨ c ∈ F.ws := by
      have hm := List.mem_of_getElem? hc'
      simp only [List.mem_cons, List.not_mem_nil, or_false] at hm
      rcases hm with rfl | rfl
      · exact ha
      · exact hb
    obtain ⟨o, dx, fs, r, hh, hk, v⟩ := hF.mono hp.1
    decreasing_trivial
    refine ⟨rfl, ?_⟩
    decreasing_trivial
    refine iteD (fun e => ?_) (fun e => ?_)
    · decreasing_trivial
      exact hp.add hD (Fm.refl _) (Nat.le_trans (giv_len _ _ _ _) (by show 2 ≤ 1000; decide)) (giv_yes hc' rfl)
    · decreasing_trivial
      refine r_fld1 v.at_ T.cF T.nRanks v.ranks ?_
      refine r_din1 (k := kS c) v.hr rfl ?_
      have hne : c ∈ F.ws := hcw.resolve_left fun z => by
        subst z
        exact absurd (show S1 45 = ("-" : Str) from rfl) (of_decide_eq_false e)
      rw [ranks_get, if_pos hne]
      exact hp.add hD (Fm.refl _) (Nat.le_trans (giv_len _ _ _ _) (by show 2 ≤ 1000; decide)) (giv_yes hc' rfl)
  · decreasing_trivial
    have h2 := hp.2
    have e1 : (K2 (a, b)).cps.size = [a, b].length := rfl
    rw [e1, giv_all, List.filter_eq_self.mpr (fun _ _ => rfl)] at h2
    exact ⟨D, [true, true], rfl, SqL.of h2, q _ hp.1⟩
end
end Hy
namespace Hy
open PySem PySem.Spec PyProof.Rows L2
local macro_rules | `(tactic| decreasing_trivial) => `(tactic| ((try (with_reducible conv => whnf)); repeat (first
    | with_reducible refine iteT ?_
    | with_reducible refine iteF ?_
    | with_reducible refine iteNT ?_
    | with_reducible refine iteNF ?_
    | with_reducible refine r_isi_int ?_
    | with_reducible refine r_isi_bool ?_
    | with_reducible refine r_isi_str ?_
    | with_reducible refine r_eqN ?_
    | with_reducible refine r_neN ?_
    | with_reducible refine r_eqS ?_
    | with_reducible refine r_neS ?_
    | with_reducible refine r_seq ?_
    | with_reducible refine r_asg ?_
    | with_reducible refine r_gname ?_
    | with_reducible refine r_ret ?_
    | with_reducible refine r_drop ?_
    | with_reducible refine r_next ?_
    | with_reducible refine r_op ?_
    | with_reducible refine r_var (by with_unfolding_all exact rfl) ?_
    | with_reducible refine r_c ?_
    | with_reducible refine r_cons ?_
    | with_reducible refine r_nil ?_
    | with_reducible refine r_un ?_
    | with_reducible refine r_I0 ?_
    | with_reducible refine r_U ?_
    | with_reducible refine r_df ?_
    | with_reducible refine r_cb ?_
    | with_reducible refine r_ifS ?_
    | with_reducible refine r_ifE ?_
    | with_reducible refine r_test ?_
    | with_reducible refine r_B ?_
    | with_reducible refine r_tand ?_
    | with_reducible refine r_tor ?_
    | with_reducible refine r_tnot ?_
    | with_reducible refine r_andV ?_
    | with_reducible refine r_orV ?_
    | with_reducible refine r_notV ?_
    | with_reducible refine r_blif ?_
    | with_reducible refine r_bl ?_
    | with_reducible refine r_chain ?_
    | with_reducible refine r_tup ?_
    | with_reducible refine r_lst ?_
    | with_reducible refine r_fld ?_
    | with_reducible refine r_dget ?_
    | with_reducible refine r_din ?_
    | with_reducible refine r_pt ?_
    | with_reducible refine r_mt ?_
    | with_reducible refine r_iEnumS ?_
    | with_reducible refine r_bm ?_
    | with_reducible refine r_iStr ?_
    | with_reducible refine r_lcT ?_
    | with_reducible refine r_dcT ?_
    | with_reducible refine r_iList ?_
    | with_reducible refine r_iTup ?_
    | with_reducible refine r_iRng1 ?_
    | with_reducible refine r_iRng2 ?_
    | with_reducible refine r_iEnum ?_
    | with_reducible refine r_iZip ?_
    | with_reducible refine r_iKeys ?_
    | with_reducible refine r_iItems ?_
    | with_reducible refine r_iVals ?_
    | with_reducible refine r_lstRg ?_
    | with_reducible refine r_rg1 ?_
    | with_reducible refine r_sortDf ?_
    | with_reducible refine r_bits ?_
    | with_reducible refine r_forT ?_
    | with_reducible refine r_augS ?_
    | with_reducible refine r_gsub ?_
    | with_reducible refine r_bm0 ?_
    | with_reducible refine r_sortLam ?_
    | with_reducible refine r_sfld ?_
    | with_reducible refine r_dput ?_
    | with_reducible refine r_dnewK ?_
    | with_reducible refine r_mk ?_
    | with_reducible refine r_con ?_
    | with_reducible refine r_lockS ?_
    | with_reducible refine r_sl ?_
    | with_reducible refine r_part ?_
    | with_reducible refine r_nopart ?_
    | with_reducible refine r_dget2 ?_
    | with_reducible refine r_isN ?_
    | with_reducible refine r_notN ?_
    | with_reducible refine r_par ?_
    | with_reducible refine r_par2 ?_
    | with_reducible refine r_yes ?_
    | with_reducible refine r_scT ?_)))
section
variable {P : Program} {w : World} {K : PySem.W.Frag} {mg : Str → Option Value} {base : Heap} {C : Ad} {G : List (Addr × Str)}
theorem sc_need_signs : FnScope ["font", "value", "sign"] ["font", "value"] (defScope (top 31)) := ⟨rfl, rfl, rfl, by decide +kernel, rfl, by decide +kernel, by decide +kernel⟩
theorem d_need_signs (T : Txt K mg C) (D_is_row : Df P w K mg base "is_row" 1 (spIsRow C G)) (D_Font_ascending : Mt P w K mg base C.CF "ascending" 1 (spAsc C G)) : Df P w K mg base "need_signs" 3 (spNeedSigns C G) := by
  have sc := sc_need_signs
  refine FnT.df (T.fn ("need_signs", 31) (by decide)) sc len2 (fun _ _ _ _ _ _ us hl => match us, hl with | [_, _], _ => rfl) (fun f cdv A outer s H vs Q E hr h => ?_)
  have hu := hu_of hr
  have hu64 := hr.units
  have hu0 := Nat.lt_of_succ_lt hu
  obtain ⟨x1, x2, rfl, h⟩ := h
  refine ⟨_, (pss_cons (ps_if (PW.pt (pw_or (pt_not (pt_val (pe_df D_is_row (hr.mono (by decide)) rfl (pa_cons (pv 0) (pa_cons (pv 1) pa_nil))))) (pw_or1 (pt_cmpR op_lt (pe_callB call_lenK (by rfl) T.f_len PySem.boot_len (pa_cons (pe_scK (own := [("sign", 2)]) rfl sc.nd (pi_str (pv 1)) (blkOk_by (N := ["font", "value", "sign"]) (sc := defScope (top 31)) (by decide +kernel)) (fun _ _ _ _ _ => (pg_name (i := 2) sc.nd rfl (by first | exact Or.inl rfl | exact Or.inr rfl))) (fun _ _ _ _ _ => pts_nil) (fun _ _ _ _ _ => (pv 2))) pa_nil)) (pe_callB call_len_str (by rfl) T.f_len PySem.boot_len (pa_cons (pv 1) pa_nil)) (nomark _))))) (pss_one ps_never) pss_nil)
  (pss_one (ps_ret (pe_mth D_Font_ascending (hr.mono (by decide)) (pv 0) (pa_cons (pv 1) pa_nil))))), ?_⟩
  obtain ⟨f', F, p, rfl, hF, rfl, q⟩ := h
  have hlen : (F.ws.filter p).length ≤ 5 := Nat.le_trans (List.length_filter_le _ _) hF.1.hi
  decreasing_trivial
  refine r_sp2 ⟨f', F, F.ws.filter p, rfl, hF, rfl, hlen, fun c hc => (List.mem_filter.mp hc).1, fun H1 e1 => ?_⟩
  decreasing_trivial
  refine ⟨_, rfl, fun D hD => ?_⟩
  refine cp_it walk_str (Kp P w H1 D (F.ws.filter p)) (Kp.start hD) (fun _ _ _ _ => trivial) (fun i x H2 H3 hi hp hx => ?_) (fun H2 hp => ?_)
  · obtain ⟨rfl, c, hc, rfl⟩ := hx
    have hc' : (F.ws.filter p)[i]? = some c := by simpa using hc
    decreasing_trivial
    refine ⟨rfl, ?_⟩
    decreasing_trivial
    exact hp.add hD hc' (hF.1.nd.filter p) (by omega)
  · decreasing_trivial
    have e2 : (⟨(F.ws.filter p).toArray⟩ : Str).cps.size = (F.ws.filter p).length := by simp
    rw [e2] at hp
    obtain ⟨S, hS, hD2⟩ := hp.2
    refine ⟨D, S, _, rfl, hD2, by omega, ?_⟩
    decreasing_trivial
    refine ⟨_, rfl, Nat.le_trans (show (⟨(F.ws.filter p).toArray⟩ : Str).length ≤ 5 by simpa [PySem.Str.length] using hlen) (by decide), ?_⟩
    decreasing_trivial
    have e3 : (⟨(F.ws.filter p).toArray⟩ : Str).length = (F.ws.filter p).length := by simp [PySem.Str.length]
    rw [e3]
    refine iteN (decide_eq_false (by omega)) ?_
    have e4 : Fs G H H2 := e1.trans hp.fm
    obtain ⟨o, dx, fs, r, hh, hk, v⟩ := hF.mono e4
    decreasing_trivial
    refine ⟨f', dx, fs, rfl, v.at_, v.no _ (by decide), ?_⟩
    decreasing_trivial
    refine r_sp2 ⟨f', F, fun c => decide (c ∈ F.ws.filter p), rfl, hF.mono e4, .inl ⟨_, rfl, by simp⟩, fun H3 e5 => ?_⟩
    have e6 : (F.ws.filter fun c => decide (c ∈ F.ws.filter p)) = F.ws.filter p := by
      refine List.filter_congr fun c hc => ?_
      cases hp : p c with
      | true => exact decide_eq_true (List.mem_filter.mpr ⟨hc, hp⟩)
      | false => exact decide_eq_false fun z => by rw [(List.mem_filter.mp z).2] at hp; cases hp
    rw [e6]
    exact q _ (e4.trans e5)
end
end Hy
namespace Hy
open PySem PySem.Spec PyProof.Rows L2
local macro_rules | `(tactic| decreasing_trivial) => `(tactic| ((try (with_reducible conv => whnf)); repeat (first
    | with_reducible refine iteT ?_
    | with_reducible refine iteF ?_
    | with_reducible refine iteNT ?_
    | with_reducible refine iteNF ?_
    | with_reducible refine r_isi_int ?_
    | with_reducible refine r_isi_bool ?_
    | with_reducible refine r_isi_str ?_
    | with_reducible refine r_eqN ?_
    | with_reducible refine r_neN ?_
    | with_reducible refine r_eqS ?_
    | with_reducible refine r_neS ?_
    | with_reducible refine r_seq ?_
    | with_reducible refine r_asg ?_
    | with_reducible refine r_gname ?_
    | with_reducible refine r_ret ?_
    | with_reducible refine r_drop ?_
    | with_reducible refine r_next ?_
    | with_reducible refine r_op ?_
    | with_reducible refine r_var (by with_unfolding_all exact rfl) ?_
    | with_reducible refine r_c ?_
    | with_reducible refine r_cons ?_
    | with_reducible refine r_nil ?_
    | with_reducible refine r_un ?_
    | with_reducible refine r_I0 ?_
    | with_reducible refine r_U ?_
    | with_reducible refine r_df ?_
    | with_reducible refine r_cb ?_
    | with_reducible refine r_ifS ?_
    | with_reducible refine r_ifE ?_
    | with_reducible refine r_test ?_
    | with_reducible refine r_B ?_
    | with_reducible refine r_tand ?_
    | with_reducible refine r_tor ?_
    | with_reducible refine r_tnot ?_
    | with_reducible refine r_andV ?_
    | with_reducible refine r_orV ?_
    | with_reducible refine r_notV ?_
    | with_reducible refine r_blif ?_
    | with_reducible refine r_bl ?_
    | with_reducible refine r_chain ?_
    | with_reducible refine r_tup ?_
    | with_reducible refine r_lst ?_
    | with_reducible refine r_fld ?_
    | with_reducible refine r_dget ?_
    | with_reducible refine r_din ?_
    | with_reducible refine r_pt ?_
    | with_reducible refine r_mt ?_
    | with_reducible refine r_iEnumS ?_
    | with_reducible refine r_bm ?_
    | with_reducible refine r_iStr ?_
    | with_reducible refine r_lcT ?_
    | with_reducible refine r_dcT ?_
    | with_reducible refine r_iList ?_
    | with_reducible refine r_iTup ?_
    | with_reducible refine r_iRng1 ?_
    | with_reducible refine r_iRng2 ?_
    | with_reducible refine r_iEnum ?_
    | with_reducible refine r_iZip ?_
    | with_reducible refine r_iKeys ?_
    | with_reducible refine r_iItems ?_
    | with_reducible refine r_iVals ?_
    | with_reducible refine r_lstRg ?_
    | with_reducible refine r_rg1 ?_
    | with_reducible refine r_sortDf ?_
    | with_reducible refine r_bits ?_
    | with_reducible refine r_forT ?_
    | with_reducible refine r_augS ?_
    | with_reducible refine r_gsub ?_
    | with_reducible refine r_bm0 ?_
    | with_reducible refine r_sortLam ?_
    | with_reducible refine r_sfld ?_
    | with_reducible refine r_dput ?_
    | with_reducible refine r_dnewK ?_
    | with_reducible refine r_mk ?_
    | with_reducible refine r_con ?_
    | with_reducible refine r_lockS ?_
    | with_reducible refine r_sl ?_
    | with_reducible refine r_part ?_
    | with_reducible refine r_nopart ?_
    | with_reducible refine r_dget2 ?_
    | with_reducible refine r_isN ?_
    | with_reducible refine r_notN ?_
    | with_reducible refine r_par ?_
    | with_reducible refine r_par2 ?_
    | with_reducible refine r_yes ?_
    | with_reducible refine r_scT ?_)))
section
variable {P : Program} {w : World} {K : PySem.W.Frag} {mg : Str → Option Value} {base : Heap} {C : Ad} {G : List (Addr × Str)}
theorem sc_Font_normal : FnScope ["self", "kind", "front", "back"] ["self", "kind"] (defScope (inClass (top 57) 10)) := ⟨rfl, rfl, rfl, by decide +kernel, rfl, by decide +kernel, by decide +kernel⟩
theorem d_Font_normal (T : Txt K mg C)  : Mt P w K mg base C.CF "normal" 1 (spNormal C) := by
  have sc := sc_Font_normal
  obtain ⟨f, fd, Gf, hm⟩ := T.m_norm.ex
  refine ⟨⟨f, hm, Fun.fnr Gf sc len2 (fun _ _ _ _ _ _ us hl => match us, hl with | [_, _], _ => rfl) (fun cdv A outer s H vs Q E hr h => ?_)⟩, T.cF⟩
  have hu := hu_of hr
  have hu64 := hr.units
  have hu0 := Nat.lt_of_succ_lt hu
  obtain ⟨x1, x2, rfl, h⟩ := h
  refine ⟨_, (pss_cons (ps_asg (pv 1) (pg_un2 rfl (pgs_cons (pg_name (i := 2) sc.nd rfl (by first | exact Or.inl rfl | exact Or.inr rfl)) (pgs_cons (pg_name (i := 3) sc.nd rfl (by first | exact Or.inl rfl | exact Or.inr rfl)) pgs_nil))))
  (pss_cons (ps_if (PW.pt (pw_or (pt_cmpR op_eq (pv 2) (pe_gc T.g_BLANK rfl) (nomark _)) (pw_or1 (PW.pt (pw_and (pt_cmpR op_ne (pv 3) (pe_gc T.g_BLANK rfl) (nomark _)) (pw_and1 (pt_cmpR op_lt (pe_dget hu (pe_fldK K (pv 0) rfl) (pv 3) (fun _ _ => rfl)) (pe_dget hu (pe_fldK K (pv 0) rfl) (pv 2) (fun _ _ => rfl)) (nomark _)))))))) (pss_one (ps_ret (pe_op op_add_str (pv 3) (pv 2)))) pss_nil)
  (pss_one (ps_ret (pv 1))))), ?_⟩
  obtain ⟨f', F, k, rfl, hF, hk0, hy, q⟩ := h
  obtain ⟨a, b⟩ := k
  obtain ⟨o, dx, fs, r, hh, hk, v⟩ := id hF
  obtain ⟨ha, hb⟩ := hk0
  have ha128 := ws_small o ha
  have hb128 : b < 128 := by
    rcases hb with hb | ⟨hb, _⟩
    · have hb' : b = 45 := hb
      omega
    · exact ws_small o hb
  have ha45 : ¬ a = 45 := Ft.ne45 o ha
  dsimp only at ha hb
  rcases hy with rfl | rfl
  · decreasing_trivial
    refine ⟨a, b, rfl, ha128, hb128, _, _, rfl, _, _, rfl, rfl, ?_⟩
    decreasing_trivial
    refine iteN (decide_eq_false fun (e : S1 a = ("-" : Str)) => ha45 ((S1_dash a).mp e)) ?_
    decreasing_trivial
    refine iteD (fun e => ?_) (fun e => ?_)
    · have hb45 : ¬ b = 45 := fun z => by
        have h1 : (!decide (S1 b = ("-" : Str))) = true := e
        rw [decide_eq_true ((S1_dash b).mpr z)] at h1
        cases h1
      have hbw := hb.resolve_left hb45
      decreasing_trivial
      refine r_fld1 v.at_ T.cF T.nRanks v.ranks ?_
      decreasing_trivial
      refine r_dget1 (k := kS b) v.hr rfl (by rw [ranks_get, if_pos hbw.1]) ?_
      decreasing_trivial
      refine r_fld1 v.at_ T.cF T.nRanks v.ranks ?_
      decreasing_trivial
      refine r_dget1 (k := kS a) v.hr rfl (by rw [ranks_get, if_pos ha]) ?_
      decreasing_trivial
      refine iteN (decide_eq_false (by have := hbw.2; omega)) ?_
      decreasing_trivial
      exact q
    · decreasing_trivial
      exact q
  · decreasing_trivial
    refine ⟨b, a, rfl, hb128, ha128, _, _, rfl, _, _, rfl, rfl, ?_⟩
    decreasing_trivial
    refine iteD (fun e => ?_) (fun e => ?_)
    · decreasing_trivial
      refine ⟨S1 a, S1 b, rfl, rfl, by show 2 ≤ sizeLine; decide, ?_⟩
      exact q
    · have hb45 : ¬ b = 45 := fun z => by
        have h1 : decide (S1 b = ("-" : Str)) = false := e
        rw [decide_eq_true ((S1_dash b).mpr z)] at h1
        cases h1
      have hbw := hb.resolve_left hb45
      decreasing_trivial
      refine iteE (by show (!decide (S1 a = ("-" : Str))) = true; rw [decide_eq_false fun z => ha45 ((S1_dash a).mp z)]; rfl) ?_
      decreasing_trivial
      refine r_fld1 v.at_ T.cF T.nRanks v.ranks ?_
      decreasing_trivial
      refine r_dget1 (k := kS a) v.hr rfl (by rw [ranks_get, if_pos ha]) ?_
      decreasing_trivial
      refine r_fld1 v.at_ T.cF T.nRanks v.ranks ?_
      decreasing_trivial
      refine r_dget1 (k := kS b) v.hr rfl (by rw [ranks_get, if_pos hbw.1]) ?_
      decreasing_trivial
      refine iteD (fun e2 => ?_) (fun e2 => ?_)
      · decreasing_trivial
        refine ⟨S1 a, S1 b, rfl, rfl, by show 2 ≤ sizeLine; decide, ?_⟩
        exact q
      · have e3 : a = b := rk_inj ha hbw.1 (by
          have h1 := of_decide_eq_false e2
          have := hbw.2
          omega)
        decreasing_trivial
        subst e3
        exact q
theorem sc_Font_seen : FnScope ["self", "kind", "sides", "side"] ["self", "kind"] (defScope (inClass (top 57) 11)) := ⟨rfl, rfl, rfl, by decide +kernel, rfl, by decide +kernel, by decide +kernel⟩
theorem d_Font_seen (T : Txt K mg C) (D_Font_ascending : Mt P w K mg base C.CF "ascending" 1 (spAsc C G)) : Mt P w K mg base C.CF "seen" 3 (spSeen C G) := by
  have sc := sc_Font_seen
  obtain ⟨f, fd, Gf, hm⟩ := T.m_seen.ex
  refine ⟨⟨f, hm, Fun.fnr Gf sc len2 (fun _ _ _ _ _ _ us hl => match us, hl with | [_, _], _ => rfl) (fun cdv A outer s H vs Q E hr h => ?_)⟩, T.cF⟩
  have hu := hu_of hr
  have hu64 := hr.units
  have hu0 := Nat.lt_of_succ_lt hu
  obtain ⟨x1, x2, rfl, h⟩ := h
  refine ⟨_, (pss_cons (ps_setLc (i := 2) (own := [("side", 3)]) rfl sc.nd rfl rfl (sw_true rfl rfl rfl (by decide +kernel)) (pi_str (pv 1)) (blkOk_by (N := ["self", "kind", "sides", "side"]) (sc := defScope (inClass (top 57) 11)) (by decide +kernel)) (fun _ _ _ _ _ => (pg_name (i := 3) sc.nd rfl (by first | exact Or.inl rfl | exact Or.inr rfl))) (fun _ _ _ _ _ => pts_one (pt_cmpR op_ne (pv 3) (pe_gc T.g_BLANK rfl) (nomark _))) (fun _ _ _ _ _ => (pv 3)))
  (pss_one (ps_ret (pe_mth D_Font_ascending (hr.mono (by decide)) (pv 0) (pa_cons (pe_op op_cat (pv 2) (pe_lc (own := [("side", 3)]) rfl sc.nd (pi_listK K (pv 2)) (blkOk_by (N := ["self", "kind", "sides", "side"]) (sc := defScope (inClass (top 57) 11)) (by decide +kernel)) (fun _ _ _ _ _ => (pg_name (i := 3) sc.nd rfl (by first | exact Or.inl rfl | exact Or.inr rfl))) (fun _ _ _ _ _ => pts_one (pt_cmp (pc_din hu (pv 3) (pe_fldK K (pv 0) rfl)))) (fun _ _ _ _ _ => (pe_dget hu (pe_fldK K (pv 0) rfl) (pv 3) (fun _ _ => rfl))))) pa_nil))))), ?_⟩
  obtain ⟨f', F, k, rfl, hF, hk0, rfl, q⟩ := h
  obtain ⟨a, b⟩ := k
  decreasing_trivial
  refine ⟨_, rfl, fun D hD => ?_⟩
  refine cp_it walk_str (Lp ⟨false, G⟩ H D (giv (fun c => decide (c ≠ 45)) vS [a, b])) (Lp.start hD (giv_zero _ _ _)) (fun _ _ _ _ => trivial) (fun i x H1 H2 hi hp hx => ?_) (fun H1 hp => ?_)
  · obtain ⟨rfl, c, hc, rfl⟩ := hx
    have hc' : [a, b][i]? = some c := by simpa [K2] using hc
    decreasing_trivial
    refine ⟨rfl, ?_⟩
    decreasing_trivial
    refine iteD (fun e => ?_) (fun e => ?_)
    · have h1 : c ≠ 45 := fun z => by
        have h1 : (!decide (S1 c = ("-" : Str))) = true := e
        rw [decide_eq_true ((S1_dash c).mpr z)] at h1
        cases h1
      decreasing_trivial
      exact hp.add hD (Fm.refl _) (Nat.le_trans (giv_len _ _ _ _) (by show 2 ≤ 1000; decide)) (giv_yes hc' (decide_eq_true h1))
    · have h1 : ¬ c ≠ 45 := fun z => by
        have h1 : (!decide (S1 c = ("-" : Str))) = false := e
        rw [decide_eq_false (fun y => z ((S1_dash c).mp y))] at h1
        cases h1
      exact hp.skip (Fm.refl _) (giv_no hc' (decide_eq_false h1))
  · have h2 := hp.2
    have e1 : (K2 (a, b)).cps.size = [a, b].length := rfl
    rw [e1, giv_all] at h2
    have e2 : [a, b].filter (fun c => decide (c ≠ 45)) = F.sides (a, b) := rfl
    rw [e2] at h2
    obtain ⟨o, dx, fs, r, hh, hk, v⟩ := hF.mono hp.1
    decreasing_trivial
    refine ⟨f', dx, fs, rfl, v.at_, v.no _ (by decide), ?_⟩
    decreasing_trivial
    refine ⟨D, rfl, ⟨_, SqL.of h2⟩, fun D2 hD2 => ?_⟩
    have n12 : D ≠ D2 := ne_of_none h2 hD2
    refine cp_it walk_list (Lp ⟨false, G⟩ H1 D2 (giv (fun c => (F.hd c).isSome) (fun c => vS ((F.hd c).getD 0)) (F.sides (a, b)))) (Lp.start hD2 (giv_zero _ _ _)) (fun i H2 _ hp2 => SqL.of (hp2.1.lst h2)) (fun i x H2 H3 hi hp2 hx => ?_) (fun H2 hp2 => ?_)
    · obtain ⟨rfl, hx⟩ := hx
      rw [List.getElem?_map] at hx
      cases hc : (F.sides (a, b))[i]? with
      | none =>
        rw [hc] at hx
        cases hx
      | some c =>
        rw [hc] at hx
        cases hx
        have v2 := v.mono hp2.1
        decreasing_trivial
        refine ⟨rfl, ?_⟩
        decreasing_trivial
        refine r_fld1 v2.at_ T.cF T.nHeads v2.heads ?_
        refine r_din1 (k := kS c) v2.hh rfl ?_
        rw [v2.hk.1]
        decreasing_trivial
        cases hd : F.hd c with
        | none =>
          refine iteF ?_
          exact hp2.skip (Fm.refl _) (giv_no hc (by rw [hd]; rfl))
        | some d =>
          refine iteT ?_
          decreasing_trivial
          refine r_fld1 v2.at_ T.cF T.nHeads v2.heads ?_
          decreasing_trivial
          refine r_dget1 (k := kS c) (v := vS d) v2.hh rfl (by rw [v2.hk.1, hd]; rfl) ?_
          exact hp2.add hD2 (Fm.refl _) (Nat.le_trans (giv_len _ _ _ _) (Nat.le_trans (List.length_filter_le _ _) (by show 2 ≤ 1000; decide))) (by rw [giv_yes hc (by rw [hd]; rfl), hd]; rfl)
    · have h3 := hp2.2
      rw [List.length_map, giv_all] at h3
      have e3 : ((F.sides (a, b)).filter fun c => (F.hd c).isSome).map (fun c => vS ((F.hd c).getD 0)) = ((F.sides (a, b)).filterMap F.hd).map vS := by
        induction F.sides (a, b) with
        | nil => rfl
        | cons x l ih =>
          cases hd : F.hd x with
          | none => simp [hd, ih]
          | some d => simp [hd, ih]
      rw [e3] at h3
      have h4 := hp2.1.lst h2
      refine ⟨D, D2, _, _, rfl, rfl, h4, h3, ?_, fun D3 hD3 => ?_⟩
      · rw [List.length_map, List.length_map]
        have h5 : (F.sides (a, b)).length ≤ 2 := List.length_filter_le _ _
        have h6 : ((F.sides (a, b)).filterMap F.hd).length ≤ (F.sides (a, b)).length := List.length_filterMap_le _ _
        exact Nat.le_trans (show _ ≤ 4 by omega) (by decide)
      · have e4 : Fs G H (upd H2 D3 (.lst ((F.sides (a, b)).map vS ++ ((F.sides (a, b)).filterMap F.hd).map vS))) := (hp.1.trans hp2.1).trans (Fm.new hD3)
        decreasing_trivial
        refine r_sp2 ⟨f', F, fun c => decide (c ∈ F.shl (a, b)), rfl, hF.mono e4, .inr ⟨D3, F.shl (a, b), rfl, ?_, rfl⟩, fun H4 e5 => q _ (e4.trans e5)⟩
        rw [upd_same, ← List.map_append]
        rfl
end
end Hy
namespace Hy
open PySem PySem.Spec PyProof.Rows L2
local macro_rules | `(tactic| decreasing_trivial) => `(tactic| ((try (with_reducible conv => whnf)); repeat (first
    | with_reducible refine iteT ?_
    | with_reducible refine iteF ?_
    | with_reducible refine iteNT ?_
    | with_reducible refine iteNF ?_
    | with_reducible refine r_isi_int ?_
    | with_reducible refine r_isi_bool ?_
    | with_reducible refine r_isi_str ?_
    | with_reducible refine r_eqN ?_
    | with_reducible refine r_neN ?_
    | with_reducible refine r_eqS ?_
    | with_reducible refine r_neS ?_
    | with_reducible refine r_seq ?_
    | with_reducible refine r_asg ?_
    | with_reducible refine r_gname ?_
    | with_reducible refine r_ret ?_
    | with_reducible refine r_drop ?_
    | with_reducible refine r_next ?_
    | with_reducible refine r_op ?_
    | with_reducible refine r_var (by with_unfolding_all exact rfl) ?_
    | with_reducible refine r_c ?_
    | with_reducible refine r_cons ?_
    | with_reducible refine r_nil ?_
    | with_reducible refine r_un ?_
    | with_reducible refine r_I0 ?_
    | with_reducible refine r_U ?_
    | with_reducible refine r_df ?_
    | with_reducible refine r_cb ?_
    | with_reducible refine r_ifS ?_
    | with_reducible refine r_ifE ?_
    | with_reducible refine r_test ?_
    | with_reducible refine r_B ?_
    | with_reducible refine r_tand ?_
    | with_reducible refine r_tor ?_
    | with_reducible refine r_tnot ?_
    | with_reducible refine r_andV ?_
    | with_reducible refine r_orV ?_
    | with_reducible refine r_notV ?_
    | with_reducible refine r_blif ?_
    | with_reducible refine r_bl ?_
    | with_reducible refine r_chain ?_
    | with_reducible refine r_tup ?_
    | with_reducible refine r_lst ?_
    | with_reducible refine r_fld ?_
    | with_reducible refine r_dget ?_
    | with_reducible refine r_din ?_
    | with_reducible refine r_pt ?_
    | with_reducible refine r_mt ?_
    | with_reducible refine r_iEnumS ?_
    | with_reducible refine r_bm ?_
    | with_reducible refine r_iStr ?_
    | with_reducible refine r_lcT ?_
    | with_reducible refine r_dcT ?_
    | with_reducible refine r_iList ?_
    | with_reducible refine r_iTup ?_
    | with_reducible refine r_iRng1 ?_
    | with_reducible refine r_iRng2 ?_
    | with_reducible refine r_iEnum ?_
    | with_reducible refine r_iZip ?_
    | with_reducible refine r_iKeys ?_
    | with_reducible refine r_iItems ?_
    | with_reducible refine r_iVals ?_
    | with_reducible refine r_lstRg ?_
    | with_reducible refine r_rg1 ?_
    | with_reducible refine r_sortDf ?_
    | with_reducible refine r_bits ?_
    | with_reducible refine r_forT ?_
    | with_reducible refine r_augS ?_
    | with_reducible refine r_gsub ?_
    | with_reducible refine r_bm0 ?_
    | with_reducible refine r_sortLam ?_
    | with_reducible refine r_sfld ?_
    | with_reducible refine r_dput ?_
    | with_reducible refine r_dnewK ?_
    | with_reducible refine r_mk ?_
    | with_reducible refine r_con ?_
    | with_reducible refine r_lockS ?_
    | with_reducible refine r_sl ?_
    | with_reducible refine r_part ?_
    | with_reducible refine r_nopart ?_
    | with_reducible refine r_dget2 ?_
    | with_reducible refine r_isN ?_
    | with_reducible refine r_notN ?_
    | with_reducible refine r_par ?_
    | with_reducible refine r_par2 ?_
    | with_reducible refine r_yes ?_
    | with_reducible refine r_scT ?_)))
theorem walk_rg0 {n : Nat} : Walk (Itr 0 n) n (fun _ => True) (YFn fun i => .int ((i : Nat) : Int)) :=
  ⟨fun _ _ hi _ => hi, fun _ _ => Nat.le_refl _, fun i _ x _ _ _ y => ⟨y.1, by rw [y.2, Int.zero_add]⟩⟩
theorem rgOk_small {N : Nat} (h : N ≤ 32) : RgOk 0 ((N : Nat) : Int) := ⟨by omega, by omega, by omega, by omega, by omega⟩
theorem bits5 : ∀ m : Nat, m < 32 → Builtin.Int.intBits (m : Int) ≤ 5 := by decide +kernel
section
variable {P : Program} {w : World} {K : PySem.W.Frag} {mg : Str → Option Value} {base : Heap} {C : Ad} {G : List (Addr × Str)}
theorem sc_places_of : FnScope ["mask", "at"] ["mask"] (defScope (top 37)) := ⟨rfl, rfl, rfl, by decide +kernel, rfl, by decide +kernel, by decide +kernel⟩
theorem d_places_of (T : Txt K mg C)  : Df P w K mg base "places_of" 1 (spPlaces G) := by
  have sc := sc_places_of
  refine FnT.df (T.fn ("places_of", 37) (by decide)) sc len1 (fun _ _ _ _ _ _ us hl => match us, hl with | [_], _ => rfl) (fun f cdv A outer s H vs Q E hr h => ?_)
  have hu := hu_of hr
  have hu64 := hr.units
  have hu0 := Nat.lt_of_succ_lt hu
  obtain ⟨x1, rfl, h⟩ := h
  refine ⟨_, (pss_one (ps_ret (pe_callTy (call_tuple_ofK K) (by rfl) T.f_tuple (by decide +kernel) (pa_cons (pe_lc (own := [("at", 1)]) rfl sc.nd (pi_range1 rfl T.f_range (pa_cons (pe_bits (pv 0)) pa_nil)) (blkOk_by (N := ["mask", "at"]) (sc := defScope (top 37)) (by decide +kernel)) (fun _ _ _ _ _ => (pg_name (i := 1) sc.nd rfl (by first | exact Or.inl rfl | exact Or.inr rfl))) (fun _ _ _ _ _ => pts_one (pt_cmpR op_eq (pe_op op_and (pe_op op_shr (pv 0) (pv 1)) pe_int) pe_int (nomark _))) (fun _ _ _ _ _ => (pv 1))) pa_nil)))), ?_⟩
  obtain ⟨m, rfl, hm, q⟩ := h
  have h5 := bits5 m hm
  decreasing_trivial
  refine ⟨_, rfl, ?_⟩
  decreasing_trivial
  refine ⟨_, rfl, by omega, by omega, fun D hD => ?_⟩
  refine cp_it walk_rg0 (Lp ⟨false, G⟩ H D (giv m.testBit (fun i => V.int ((i : Nat) : Int)) (List.range (Builtin.Int.intBits (m : Int))))) (Lp.start hD (giv_zero _ _ _)) (fun _ _ _ _ => trivial) (fun i x H1 H2 hi hp hx => ?_) (fun H1 hp => ?_)
  · obtain ⟨rfl, rfl⟩ := hx
    rw [Int.toNat_natCast] at hi
    have hc : (List.range (Builtin.Int.intBits (m : Int)))[i]? = some i := List.getElem?_range hi
    decreasing_trivial
    refine ⟨rfl, ?_⟩
    decreasing_trivial
    refine r_I (by show (0 : Int) ≤ _; omega) ?_
    decreasing_trivial
    rw [test_bit hm (by omega)]
    refine iteD (fun e => ?_) (fun e => ?_)
    · decreasing_trivial
      exact hp.add hD (Fm.refl _) (Nat.le_trans (giv_len _ _ _ _) (by rw [List.length_range]; omega)) (giv_yes hc e)
    · exact hp.skip (Fm.refl _) (giv_no hc e)
  · have h2 := hp.2
    rw [Int.toNat_natCast] at h2
    have e1 : giv m.testBit (fun i => V.int ((i : Nat) : Int)) (List.range (Builtin.Int.intBits (m : Int))) (Builtin.Int.intBits (m : Int)) = (plc m).map V.int := by
      have := giv_all (p := m.testBit) (f := fun i => V.int ((i : Nat) : Int)) (l := List.range (Builtin.Int.intBits (m : Int)))
      rw [List.length_range] at this
      rw [this]
      unfold plc
      rw [List.map_map]
      rfl
    rw [e1] at h2
    decreasing_trivial
    refine ⟨D, _, rfl, .inl ⟨SqL.of h2, fun l hl => ?_⟩⟩
    exact q _ l (hp.1.trans (Fm.new hl)) upd_same
theorem sc_set_order : FnScope ["mask", "places"] ["mask"] (defScope (top 38)) := ⟨rfl, rfl, rfl, by decide +kernel, rfl, by decide +kernel, by decide +kernel⟩
theorem d_set_order (T : Txt K mg C) (D_places_of : Df P w K mg base "places_of" 1 (spPlaces G)) : Df P w K mg base "set_order" 3 (spOrder G) := by
  have sc := sc_set_order
  refine FnT.df (T.fn ("set_order", 38) (by decide)) sc len1 (fun _ _ _ _ _ _ us hl => match us, hl with | [_], _ => rfl) (fun f cdv A outer s H vs Q E hr h => ?_)
  have hu := hu_of hr
  have hu64 := hr.units
  have hu0 := Nat.lt_of_succ_lt hu
  obtain ⟨x1, rfl, h⟩ := h
  refine ⟨_, (pss_cons (ps_set (i := 1) sc.nd rfl (by first | exact Or.inl rfl | exact Or.inr rfl) (pe_df D_places_of (hr.mono (by decide)) rfl (pa_cons (pv 0) pa_nil)))
  (pss_one (ps_ret (pe_tup (pa_cons (pe_callB (call_len_seqK K) (by rfl) T.f_len PySem.boot_len (pa_cons (pv 1) pa_nil)) (pa_cons (pv 1) pa_nil)))))), ?_⟩
  obtain ⟨m, rfl, hm, q⟩ := h
  decreasing_trivial
  refine r_sp1 ⟨m, rfl, hm, fun H1 p e1 hp => ?_⟩
  decreasing_trivial
  refine ⟨p, _, rfl, .inr (SqT.of hp), ?_⟩
  decreasing_trivial
  refine ⟨by show 2 ≤ sizeLine; decide, fun p2 hp2 => ?_⟩
  rw [List.length_map]
  exact q _ _ (e1.trans (Fm.new hp2)) ⟨p2, p, rfl, upd_same, (upd_ne (ne_of_none hp hp2)).trans hp⟩
theorem sc_all_masks : FnScope ["font"] ["font"] (defScope (top 39)) := ⟨rfl, rfl, rfl, by decide +kernel, rfl, by decide +kernel, by decide +kernel⟩
theorem d_all_masks (T : Txt K mg C) (D_number_of_sets : Df P w K mg base "number_of_sets" 3 (spNSets C)) (D_set_order : Df P w K mg base "set_order" 3 (spOrder G)) : Df P w K mg base "all_masks" 6 (spMasks C G) := by
  have sc := sc_all_masks
  refine FnT.df (T.fn ("all_masks", 39) (by decide)) sc len1 (fun _ _ _ _ _ _ us hl => match us, hl with | [_], _ => rfl) (fun f cdv A outer s H vs Q E hr h => ?_)
  have hu := hu_of hr
  have hu64 := hr.units
  have hu0 := Nat.lt_of_succ_lt hu
  obtain ⟨x1, rfl, h⟩ := h
  refine ⟨_, (pss_one (ps_ret (pe_sortedDf D_set_order (hr.mono (by decide)) rfl rfl T.f_sorted rfl (pe_listRg rfl rfl T.f_list (prg_1 rfl T.f_range (pe_df D_number_of_sets (hr.mono (by decide)) rfl (pa_cons (pv 0) pa_nil))))))), ?_⟩
  obtain ⟨f', F, rfl, hF, q⟩ := h
  have h32 : 2 ^ F.n ≤ 32 := Nat.le_trans (Nat.pow_le_pow_right (by decide) hF.1.n.2) (by decide)
  decreasing_trivial
  refine r_sp1 ⟨f', F, rfl, hF, ?_⟩
  refine ⟨_, rfl, rgOk_small (N := 2 ^ F.n) h32, fun D hD => ?_⟩
  have e0 : rgV 0 ((2 ^ F.n : Nat) : Int) = (List.range (2 ^ F.n)).map fun m => V.int ((m : Nat) : Int) := by
    unfold rgV
    rw [Int.sub_zero, Int.toNat_natCast]
    exact List.map_congr_left fun m _ => by rw [Int.zero_add]
  rw [e0]
  refine ⟨_, .pt, kyM, ⟨false, G⟩, .inl ⟨D, rfl, SqL.of upd_same⟩, fun y hy H1 e1 => ?_, fun H1 p e1 n1 hp => ?_⟩
  · obtain ⟨m, hm, rfl⟩ := List.mem_map.mp hy
    have hm2 := List.mem_range.mp hm
    exact r_sp1 ⟨m, rfl, Nat.lt_of_lt_of_le hm2 h32, fun H2 v e2 hv => ⟨e2, hv⟩⟩
  · exact q _ p ((Fm.new hD).trans e1) ((Fm.new hD).nw' n1) hp
end
end Hy
namespace Hy
open PySem PySem.Spec PyProof.Rows L2
local macro_rules | `(tactic| decreasing_trivial) => `(tactic| ((try (with_reducible conv => whnf)); repeat (first
    | with_reducible refine iteT ?_
    | with_reducible refine iteF ?_
    | with_reducible refine iteNT ?_
    | with_reducible refine iteNF ?_
    | with_reducible refine r_isi_int ?_
    | with_reducible refine r_isi_bool ?_
    | with_reducible refine r_isi_str ?_
    | with_reducible refine r_eqN ?_
    | with_reducible refine r_neN ?_
    | with_reducible refine r_eqS ?_
    | with_reducible refine r_neS ?_
    | with_reducible refine r_seq ?_
    | with_reducible refine r_asg ?_
    | with_reducible refine r_gname ?_
    | with_reducible refine r_ret ?_
    | with_reducible refine r_drop ?_
    | with_reducible refine r_next ?_
    | with_reducible refine r_op ?_
    | with_reducible refine r_var (by with_unfolding_all exact rfl) ?_
    | with_reducible refine r_c ?_
    | with_reducible refine r_cons ?_
    | with_reducible refine r_nil ?_
    | with_reducible refine r_un ?_
    | with_reducible refine r_I0 ?_
    | with_reducible refine r_U ?_
    | with_reducible refine r_df ?_
    | with_reducible refine r_cb ?_
    | with_reducible refine r_ifS ?_
    | with_reducible refine r_ifE ?_
    | with_reducible refine r_test ?_
    | with_reducible refine r_B ?_
    | with_reducible refine r_tand ?_
    | with_reducible refine r_tor ?_
    | with_reducible refine r_tnot ?_
    | with_reducible refine r_andV ?_
    | with_reducible refine r_orV ?_
    | with_reducible refine r_notV ?_
    | with_reducible refine r_blif ?_
    | with_reducible refine r_bl ?_
    | with_reducible refine r_chain ?_
    | with_reducible refine r_tup ?_
    | with_reducible refine r_lst ?_
    | with_reducible refine r_fld ?_
    | with_reducible refine r_dget ?_
    | with_reducible refine r_din ?_
    | with_reducible refine r_pt ?_
    | with_reducible refine r_mt ?_
    | with_reducible refine r_iEnumS ?_
    | with_reducible refine r_bm ?_
    | with_reducible refine r_iStr ?_
    | with_reducible refine r_lcT ?_
    | with_reducible refine r_dcT ?_
    | with_reducible refine r_iList ?_
    | with_reducible refine r_iTup ?_
    | with_reducible refine r_iRng1 ?_
    | with_reducible refine r_iRng2 ?_
    | with_reducible refine r_iEnum ?_
    | with_reducible refine r_iZip ?_
    | with_reducible refine r_iKeys ?_
    | with_reducible refine r_iItems ?_
    | with_reducible refine r_iVals ?_
    | with_reducible refine r_lstRg ?_
    | with_reducible refine r_rg1 ?_
    | with_reducible refine r_sortDf ?_
    | with_reducible refine r_bits ?_
    | with_reducible refine r_forT ?_
    | with_reducible refine r_augS ?_
    | with_reducible refine r_gsub ?_
    | with_reducible refine r_bm0 ?_
    | with_reducible refine r_sortLam ?_
    | with_reducible refine r_sfld ?_
    | with_reducible refine r_dput ?_
    | with_reducible refine r_dnewK ?_
    | with_reducible refine r_mk ?_
    | with_reducible refine r_con ?_
    | with_reducible refine r_lockS ?_
    | with_reducible refine r_sl ?_
    | with_reducible refine r_part ?_
    | with_reducible refine r_nopart ?_
    | with_reducible refine r_dget2 ?_
    | with_reducible refine r_isN ?_
    | with_reducible refine r_notN ?_
    | with_reducible refine r_par ?_
    | with_reducible refine r_par2 ?_
    | with_reducible refine r_yes ?_
    | with_reducible refine r_scT ?_)))
section
variable {P : Program} {w : World} {K : PySem.W.Frag} {mg : Str → Option Value} {base : Heap}
theorem funD_nox {CX : CXT} {x qual : Str} {params : Arguments} {body : List Stmt} {scope : Scope} {dvs : List V} {kws : List (Str × V)} {f : Addr} {fd : FuncData} {N ps : List Str} {k : Nat} {sp : Sp} (F : FunD K x qual params body scope dvs kws f fd) (S : FnScope N ps scope) (len : ∀ vs H Q E, sp vs H Q E → vs.length = ps.length)
    (hbody : ∀ (cdv : Value) (A : Around) (outer : List Env) (s : Shared) (H : Hp) (vs : List V) (Q : VK) (E : XK), Room k (A.deeper (envOfC qual scope s.heap.objs.size f cdv)) → sp vs H Q E →
      ∃ t, PSs (cxOf CX P w K mg base N qual scope f cdv A outer s H E).nox body t ∧ t { nx := fun _ H' => Q .non H', rt := Q } (L2.start N vs) H) : FnOk P w K mg base CX (k + 1) f fd ps sp :=
  F.ok S len fun cdv A outer s H vs Q E hr h => by
    obtain ⟨t, h1, h2⟩ := hbody cdv A outer s H vs Q E hr h
    exact ⟨t, h1.nox, h2⟩
variable (P w K mg base) in
/-- f(e, s = g): the def, and how it binds -/
structure SsK (k : Nat) (sp : Sp) : Prop where
  ex : ∃ f fd g, FnOk P w K mg base CX0 k f fd ["numbers", "sign"] sp ∧ mg "subset_sums" = some (.ref f) ∧ PySem.W.keepIn K (.ref f) = true ∧ KBn K fd ["numbers", "sign"] 1 [("sign" : Str)] g (fun vs zs => vs ++ zs)
end
section
variable {X : Cx}
theorem pe_ssKw {k : Nat} {sp : Sp} {a b : Expr} {ta tb : TE} {p kp pos : Pos} (S : SsK X.prog X.w X.K X.mg X.base k sp) (hr : Room k X.A) (hg : Gl X "subset_sums") (ha : PE X a ta) (hb : PE X b tb)
    (hall : (backToKw pos (keywordEach [⟨some "sign", b, kp⟩] X.env)).all (·.1.isSome) = true := by rfl) (hks : (backToKw pos (keywordEach [⟨some "sign", b, kp⟩] X.env)).filterMap (·.1) = [("sign" : Str)] := by rfl)
    (he : starEach [a] X.env = (false, eval a X.env) :: starEach [] X.env := by rfl)
    (hpl : ((backTo pos (starEach [a] X.env)).any (·.1) || (backToKw pos (keywordEach [⟨some "sign", b, kp⟩] X.env)).any (·.1.isNone)) = false := by rfl) :
    PE X (.Call (.Name "subset_sums" p) [a] [⟨some "sign", b, kp⟩] pos) (tCallN 1 1 sp (fun vs zs => vs ++ zs) E0 (tCons ta tNil) (tCons tb tNil)) := by
  obtain ⟨f, fd, g, F, hm, hk, kb⟩ := S.ex
  exact pe_callN F hr hg hm hk kb pass0 (pa_cons ha pa_nil he) (pk_cons hb pk_nil) hall hks (by decide) he hpl
theorem r_ssKw {ta tb : TE} {sp : Sp} {σ : L2.St} {H : Hp} {Q : VK} (h : ta σ H fun x H1 => tb σ H1 fun y H2 => sp [x, y] H2 Q E0) : tCallN 1 1 sp (fun vs zs => vs ++ zs) E0 (tCons ta tNil) (tCons tb tNil) σ H Q := by
  show ta σ H fun x H1 => tb σ H1 fun y H2 => [x].length = 1 ∧ [y].length = 1 ∧ sp ([x] ++ [y]) H2 Q E0
  have e : (fun (x : V) (H1 : Hp) => tb σ H1 fun y H2 => [x].length = 1 ∧ [y].length = 1 ∧ sp ([x] ++ [y]) H2 Q E0) = fun x H1 => tb σ H1 fun y H2 => sp [x, y] H2 Q E0 := by
    funext x H1
    congr 1
    funext y H2
    simp
  rw [e]
  exact h
end
theorem r_ixN {K : PySem.W.Frag} {H : Hp} {Q : VK} {p : Addr} {xs : List V} {i : Nat} {z : V} (h : SqL K H p xs) (e : xs[i]? = some z) (q : Q z H) : rIxL K (.ref p) (.int ((i : Nat) : Int)) H Q := ⟨p, xs, _, z, rfl, rfl, h, atI_nat' e, q⟩
theorem r_setN {H : Hp} {p : Addr} {xs : List V} {i : Nat} {v : V} {Q : Hp → Prop} (h : H p = some (.lst xs)) (e : i < xs.length) (q : Q (upd H p (.lst (xs.set i v)))) : rSetL (.ref p) (.int ((i : Nat) : Int)) v H Q := ⟨p, xs, _, i, rfl, rfl, h, by
  unfold ixN
  rw [if_pos (by omega), if_pos (by omega)]
  simp, q⟩
theorem bits_pow : ∀ n ∈ [2, 3, 4, 5], ((Builtin.Int.intBits ((2 ^ n : Nat) : Int) : Nat) : Int) - 1 = (n : Nat) := by decide +kernel
theorem below : ∀ m : Nat, m < 32 → ∀ i, i < 5 → m.testBit i = true → m ^^^ 2 ^ i < m ∧ (m ^^^ 2 ^ i).testBit i = false := by decide +kernel
/-- within one bit's pass: the first j are done -/
def mix (g : Int) (i : Nat) (f : Nat → Int) (j m : Nat) : Int := if m < j then zt g (i + 1) f m else zt g i f m
theorem mix_skip {g : Int} {i : Nat} {f : Nat → Int} {j : Nat} (h : j.testBit i = false) : mix g i f (j + 1) = mix g i f j := by
  funext m
  unfold mix
  by_cases h1 : m < j
  · rw [if_pos h1, if_pos (by omega)]
  · rw [if_neg h1]
    by_cases h2 : m = j
    · subst h2
      rw [if_pos (by omega)]
      show (if m.testBit i = true then _ else _) = _
      rw [if_neg (by rw [h]; decide)]
    · rw [if_neg (by omega)]
theorem mix_step {g : Int} {i : Nat} {f : Nat → Int} {j : Nat} (h : j.testBit i = true) (hj : j < 32) (hi : i < 5) : (fun k => if k = j then mix g i f j j + g * mix g i f j (j ^^^ 2 ^ i) else mix g i f j k) = mix g i f (j + 1) := by
  obtain ⟨b1, b2⟩ := below j hj i hi h
  funext m
  by_cases h2 : m = j
  · subst h2
    rw [if_pos rfl]
    unfold mix
    rw [if_neg (by omega), if_pos b1, if_pos (by omega)]
    show _ + g * (if (m ^^^ 2 ^ i).testBit i = true then _ else _) = (if m.testBit i = true then _ else _)
    rw [if_neg (by rw [b2]; decide), if_pos h]
  · rw [if_neg h2]
    unfold mix
    by_cases h1 : m < j
    · rw [if_pos h1, if_pos (by omega)]
    · rw [if_neg h1, if_neg (by omega)]
section
variable {P : Program} {w : World} {K : PySem.W.Frag} {mg : Str → Option Value} {base : Heap} {C : Ad} {G : List (Addr × Str)}
theorem sc_subset_sums : FnScope ["numbers", "sign", "found", "at", "mask"] ["numbers", "sign"] (defScope (top 40)) := ⟨rfl, rfl, rfl, by decide +kernel, rfl, by decide +kernel, by decide +kernel⟩

theorem ss_ok (T : Txt K mg C) {f : Addr} {fd : FuncData} (F : FunD K "subset_sums" "subset_sums" (defArgs (top 40)) (defBody (top 40)) (defScope (top 40)) [] [("sign", .int 1)] f fd) : FnOk P w K mg base CX0 1 f fd ["numbers", "sign"] (spSums G) := by
  have sc := sc_subset_sums
  refine funD_nox F sc len2 (fun cdv A outer s H vs Q E hr h => ?_)
  obtain ⟨x1, x2, rfl, h⟩ := h
  refine ⟨_, (pss_cons (ps_set (i := 2) sc.nd rfl (by first | exact Or.inl rfl | exact Or.inr rfl) (pe_callTy (call_list_ofK K) (by rfl) T.f_list (by decide +kernel) (pa_cons (pv 0) pa_nil)))
  (pss_cons (ps_for PassesOwn.never rfl (pi_range1 rfl T.f_range (pa_cons (pe_op op_sub (pe_bits (pe_callB (call_len_seqK K) (by rfl) T.f_len PySem.boot_len (pa_cons (pv 0) pa_nil))) pe_int) pa_nil)) (pg_name (i := 3) sc.nd rfl (by first | exact Or.inl rfl | exact Or.inr rfl)) (pss_one (ps_for PassesOwn.never rfl (pi_range1 rfl T.f_range (pa_cons (pe_callB (call_len_seqK K) (by rfl) T.f_len PySem.boot_len (pa_cons (pv 0) pa_nil)) pa_nil)) (pg_name (i := 4) sc.nd rfl (by first | exact Or.inl rfl | exact Or.inr rfl)) (pss_one (ps_if (pt_cmpR op_eq (pe_op op_and (pe_op op_shr (pv 4) (pv 3)) pe_int) pe_int (nomark _)) (pss_one (ps_augS (pv 2) (pv 4) (get_listK K) (pe_op op_mul (pv 1) (pe_ix (ix_listK K) (pv 2) (pe_op op_xor (pv 4) (pe_op op_shl pe_int (pv 3))) (fun _ _ => rfl))) ip_add set_list)) pss_nil)))))
  (pss_one (ps_ret (pv 2))))), ?_⟩
  obtain ⟨a, n, f0, g, rfl, rfl, hg, hn, ha, q⟩ := h
  have h32 : 2 ^ n ≤ 32 := Nat.le_trans (Nat.pow_le_pow_right (by decide) hn.2) (by decide)
  decreasing_trivial
  refine ⟨a, _, rfl, .inl (SqL.of ha), fun l hl => ?_⟩
  have nal : a ≠ l := ne_of_none ha hl
  decreasing_trivial
  refine ⟨a, _, rfl, .inl (SqL.of ((upd_ne nal).trans ha)), ?_⟩
  rw [byM_len]
  decreasing_trivial
  refine ⟨_, rfl, ?_⟩
  decreasing_trivial
  rw [bits_pow n (mem_n hn)]
  refine ⟨_, rfl, by omega, by omega, ?_⟩
  rw [Int.toNat_natCast]
  refine for_it walk_rg0 (fun i σ H1 => ∃ v3 v4, σ = [some (.ref a), some (.int g), some (.ref l), v3, v4] ∧ Fs G H H1 ∧ H1 l = some (.lst (byM n (zt g i f0)))) ⟨none, none, rfl, Fm.new hl, upd_same⟩ (fun _ _ _ _ _ => trivial) (fun i x σ H1 H2 hi hp hx => ?_) (fun σ H1 hp => ?_)
  · obtain ⟨rfl, rfl⟩ := hx
    obtain ⟨v3, v4, rfl, e1, hl1⟩ := hp
    have ha1 := e1.lst ha
    decreasing_trivial
    refine ⟨a, _, rfl, .inl (SqL.of ha1), ?_⟩
    rw [byM_len]
    decreasing_trivial
    refine ⟨_, rfl, (rgOk_small h32).2.2.1, (rgOk_small h32).2.2.2.1, ?_⟩
    rw [Int.toNat_natCast]
    refine for_it walk_rg0 (fun j σ H1 => ∃ v4, σ = [some (.ref a), some (.int g), some (.ref l), some (.int ((i : Nat) : Int)), v4] ∧ Fs G H H1 ∧ H1 l = some (.lst (byM n (mix g i f0 j)))) ⟨_, rfl, e1, ?_⟩ (fun _ _ _ _ _ => trivial) (fun j x σ H3 H4 hj hp hx => ?_) (fun σ H3 hp => ?_)
    · rw [hl1]
      congr 2
    · obtain ⟨rfl, rfl⟩ := hx
      obtain ⟨v4, rfl, e3, hl3⟩ := hp
      have hj32 : j < 32 := Nat.lt_of_lt_of_le hj h32
      have hi5 : i < 5 := by omega
      decreasing_trivial
      refine r_I (by show (0 : Int) ≤ _; omega) ?_
      decreasing_trivial
      rw [test_bit hj32 hi5]
      refine iteD (fun e => ?_) (fun e => ?_)
      · decreasing_trivial
        refine r_ixN (SqL.of hl3) (byM_get hj) ?_
        decreasing_trivial
        refine r_I ⟨by omega, by omega, by decide⟩ ?_
        decreasing_trivial
        rw [Int.one_mul, Int.toNat_natCast, bit_xor j hj32 i hi5]
        have hx2 : j ^^^ 2 ^ i < 2 ^ n := xor_lt hi hj
        refine r_ixN (SqL.of hl3) (byM_get hx2) ?_
        refine r_I (.inl (by rcases hg with rfl | rfl <;> decide)) ?_
        refine ⟨_, _, rfl, rfl, ?_⟩
        refine r_setN hl3 (by rw [byM_len]; exact hj) ?_
        refine ⟨_, rfl, e3.edit (Nw.of hl) hl3 rfl, ?_⟩
        rw [upd_same, byM_set, mix_step e hj32 hi5]
      · decreasing_trivial
        refine ⟨_, rfl, e3, ?_⟩
        rw [mix_skip e]
        exact hl3
    · obtain ⟨v4, rfl, e3, hl3⟩ := hp
      refine ⟨_, _, rfl, e3, ?_⟩
      rw [hl3]
      refine congrArg (fun z => some (HO.lst z)) (byM_congr fun m hm => ?_)
      unfold mix
      rw [if_pos hm]
  · obtain ⟨v3, v4, rfl, e1, hl1⟩ := hp
    decreasing_trivial
    exact q _ l e1 (Nw.of hl) hl1
theorem d_ssKw (T : Txt K mg C) : SsK P w K mg base 1 (spSums G) := by
  obtain ⟨f, fd, F, hm⟩ := T.ss
  obtain ⟨mv, kb⟩ := F.kbinds0 (ps := ["numbers", "sign"]) 1 [("sign" : Str)] [] (fun us _ ws => us ++ ws) (by decide) (fun q hq => by cases hq) (fun r1 _ r2 => r1.append r2)
    (fun D doc pm an cdv ct us mv ws h1 h2 h3 => match us, mv, ws, h1, h2, h3 with | [_], [], [_], _, _, _ => rfl)
  exact ⟨f, fd, _, ss_ok T F, hm, F.kp, kb⟩
theorem d_subset_sums (T : Txt K mg C) : Df P w K mg base "subset_sums" 1 (spSums1 G) := by
  obtain ⟨f, fd, F, hm⟩ := T.ss
  obtain ⟨ds, hd, hb⟩ := F.binds0 (ps := ["numbers", "sign"]) 1 (by decide) rfl (fun D doc pm an cdv ct us ks h1 h2 => match us, ks, h1, h2 with | [_], [_], _, _ => ⟨_, _, _, _, _, _, rfl, rfl, rfl⟩)
  refine ⟨f, ?_, hm, F.kp⟩
  refine ((ss_ok (G := G) T F).raw hb hd).imp fun vs H Q E h => ?_
  obtain ⟨x, rfl, a, n, f0, rfl, hn, ha, q⟩ := h
  exact r_sp2 ⟨a, n, f0, 1, rfl, rfl, .inl rfl, hn, ha, q⟩
end
end Hy
namespace Hy
open PySem PySem.Spec PyProof.Rows L2
section
variable {α : Type}
/-- what is said of a value stays when the heap grows and when a list changes -/
structure Stb (R : Hp → V → α → Prop) : Prop where
  mono : ∀ {b : Fb} {H H' : Hp} {v : V} {a : α}, Fm b H H' → R H v a → R H' v a
  lst : ∀ {H : Hp} {D : Addr} {xs ys : List V} {v : V} {a : α}, H D = some (.lst xs) → R H v a → R (upd H D (.lst ys)) v a
def Lr (b : Fb) (R : Hp → V → α → Prop) (H1 : Hp) (D : Addr) (sel : Nat → List α) (i : Nat) (H : Hp) : Prop := Fm b H1 H ∧ ∃ vs, H D = some (.lst vs) ∧ Paired (R H) vs (sel i)
theorem Lr.start {b : Fb} {R : Hp → V → α → Prop} {H1 : Hp} {D : Addr} {sel : Nat → List α} (hD : H1 D = none) (s0 : sel 0 = []) : Lr b R H1 D sel 0 (upd H1 D (.lst [])) := ⟨Fm.new hD, [], upd_same, by
  rw [s0]
  exact .nil⟩
theorem paired_imp {β : Type} {F G : β → α → Prop} : ∀ {xs : List β} {ys : List α}, Paired F xs ys → (∀ x y, F x y → G x y) → Paired G xs ys
  | _, _, .nil, _ => .nil
  | _, _, .cons a t, h => .cons (h _ _ a) (paired_imp t h)
theorem Lr.add {b : Fb} {R : Hp → V → α → Prop} {H1 H H4 : Hp} {D : Addr} {sel : Nat → List α} {i : Nat} {y : V} {a : α} (p : Lr b R H1 D sel i H) (st : Stb R) (hD : H1 D = none) (e : Fm b H H4) (hr : R H4 y a) (hl : (sel i).length ≤ 1000) (hs : sel (i + 1) = sel i ++ [a]) :
    ∃ acc, H4 D = some (.lst acc) ∧ acc.length < sizeLine ∧ Lr b R H1 D sel (i + 1) (upd H4 D (.lst (acc ++ [y]))) := by
  obtain ⟨e1, vs, h1, h2⟩ := p
  have h4 := e.lst h1
  refine ⟨vs, h4, ?_, (e1.trans e).edit (Nw.of hD) h4 rfl, vs ++ [y], upd_same, ?_⟩
  · rw [Paired.length h2]
    exact Nat.lt_of_le_of_lt hl (by decide)
  · rw [hs]
    exact Paired.snoc (paired_imp h2 fun x z r => st.lst h4 (st.mono e r)) (st.lst h4 hr)
theorem Lr.skip {b : Fb} {R : Hp → V → α → Prop} {H1 H H4 : Hp} {D : Addr} {sel : Nat → List α} {i : Nat} (p : Lr b R H1 D sel i H) (st : Stb R) (e : Fm b H H4) (hs : sel (i + 1) = sel i) : Lr b R H1 D sel (i + 1) H4 := by
  obtain ⟨e1, vs, h1, h2⟩ := p
  refine ⟨e1.trans e, vs, e.lst h1, ?_⟩
  rw [hs]
  exact paired_imp h2 fun x z r => st.mono e r
theorem paired_at {β : Type} {F : β → α → Prop} : ∀ {xs : List β} {ys : List α} {i : Nat} {x : β}, Paired F xs ys → xs[i]? = some x → ∃ y, ys[i]? = some y ∧ F x y
  | _, _, _, _, .nil, h => by simp at h
  | _, _, 0, _, .cons a _, h => by
    simp at h
    subst h
    exact ⟨_, rfl, a⟩
  | _, _, i + 1, _, .cons _ t, h => by
    obtain ⟨y, h1, h2⟩ := paired_at (i := i) t (by simpa using h)
    exact ⟨y, by simpa using h1, h2⟩
end
theorem stb_upd {H : Hp} {D t : Addr} {xs ys : List V} {o : HO} (h : H D = some (.lst xs)) (ht : H t = some o) (n : ∀ zs, o ≠ .lst zs) : upd H D (.lst ys) t = some o := by
  rw [upd_ne]
  · exact ht
  · intro e
    subst e
    rw [h] at ht
    exact n _ (Option.some.inj ht).symm
/-- a triple of a case's stock -/
def RTri (F : Ft) (H : Hp) (v : V) (p : (Nat × Nat) × Int) : Prop := ∃ t, v = .ref t ∧ H t = some (.tup [.str (K2 p.1), .int ((F.mks p.1 : Nat) : Int), .int p.2])
theorem stb_tri (F : Ft) : Stb (RTri F) := ⟨fun e ⟨t, h1, h2⟩ => ⟨t, h1, e.tup h2⟩, fun h ⟨t, h1, h2⟩ => ⟨t, h1, stb_upd h h2 (by intro _ z; cases z)⟩⟩
def StkL (F : Ft) (H : Hp) (a : Addr) (st : List ((Nat × Nat) × Int)) : Prop := ∃ vs, H a = some (.lst vs) ∧ Paired (RTri F H) vs st
theorem StkL.mono {b : Fb} {F : Ft} {H H1 : Hp} {a : Addr} {st : List ((Nat × Nat) × Int)} (e : Fm b H H1) (h : StkL F H a st) : StkL F H1 a st := by
  obtain ⟨vs, h1, h2⟩ := h
  exact ⟨vs, e.lst h1, paired_imp h2 fun _ _ r => (stb_tri F).mono e r⟩
/-- a pair of a key and a value -/
def RPr (H : Hp) (v : V) (q : Key × V) : Prop := ∃ t, v = .ref t ∧ H t = some (.tup [kV q.1, q.2])
theorem stb_pr : Stb RPr := ⟨fun e ⟨t, h1, h2⟩ => ⟨t, h1, e.tup h2⟩, fun h ⟨t, h1, h2⟩ => ⟨t, h1, stb_upd h h2 (by intro _ z; cases z)⟩⟩
def amK (F : Ft) (nm : Nat → Int) : List V := F.ws.map fun c => V.int (nm c)
theorem exL_snoc (l : List (Nat × Int)) (p : Nat × Int) (m : Nat) : exL (l ++ [p]) m = exL l m + if p.1 = m then p.2 else 0 := by
  unfold exL
  rw [List.map_append, List.sum_append]
  simp
theorem exP_take {F : Ft} {st : List ((Nat × Nat) × Int)} {i : Nat} {p : (Nat × Nat) × Int} (h : st[i]? = some p) (m : Nat) : F.exF (st.take (i + 1)) m = F.exF (st.take i) m + if F.mks p.1 = m then p.2 else 0 := by
  unfold Ft.exF Ft.exP
  rw [List.take_add_one, h, List.map_append]
  exact exL_snoc _ _ _
theorem rep_byM (n : Nat) : (List.replicate (((2 ^ n : Nat) : Int)).toNat [V.int 0]).flatten = byM n fun _ => 0 := by
  rw [Int.toNat_natCast]
  unfold byM
  generalize 2 ^ n = N
  induction N with
  | zero => rfl
  | succ N ih =>
    rw [List.replicate_succ', List.flatten_append, ih, List.range_succ, List.map_append]
    rfl
theorem rep_ok {N : Nat} (h : N ≤ 32) : -(2 ^ 63) ≤ ((N : Nat) : Int) ∧ ((N : Nat) : Int) < 2 ^ 63 ∧ [V.int 0].length * (((N : Nat) : Int)).toNat ≤ sizeLine := ⟨by omega, by omega, by
  rw [Int.toNat_natCast]
  exact Nat.le_trans (show 1 * N ≤ 32 by omega) (by decide)⟩
theorem pow32 {F : Ft} (h : F.Ok) : 2 ^ F.n ≤ 32 := Nat.le_trans (Nat.pow_le_pow_right (by decide) h.n.2) (by decide)
/-- a new number at a place that was zero -/
theorem wt_take {F : Ft} (hF : F.Ok) {nm : Nat → Int} {i c : Nat} (h : F.ws[i]? = some c) (m : Nat) : (if m = 2 ^ i then nm c else exL ((F.wtP nm).take i) m) = exL ((F.wtP nm).take (i + 1)) m := by
  have hi := (List.getElem?_eq_some_iff.mp h).1
  have hc : F.rk c = i := by
    unfold Ft.rk
    rw [← (List.getElem?_eq_some_iff.mp h).2]
    exact hF.nd.idxOf_getElem i hi
  have hz : ∀ j, j ≤ i → exL ((F.wtP nm).take j) (2 ^ i) = 0 := by
    intro j
    induction j with
    | zero => intro _; rfl
    | succ j ih =>
      intro hj
      have hj2 : j < F.ws.length := by omega
      have e : (F.wtP nm)[j]? = some (2 ^ j, nm F.ws[j]) := by
        unfold Ft.wtP
        rw [List.getElem?_map, List.getElem?_eq_getElem hj2]
        unfold Ft.rk
        rw [Option.map_some, hF.nd.idxOf_getElem]
      rw [List.take_add_one, e, Option.toList_some, exL_snoc, ih (by omega)]
      rw [if_neg]
      · rfl
      · exact Nat.ne_of_lt (Nat.pow_lt_pow_right (by decide) (show j < i by omega))
  have e : (F.wtP nm)[i]? = some (2 ^ i, nm c) := by
    unfold Ft.wtP
    rw [List.getElem?_map, h, Option.map_some, hc]
  rw [List.take_add_one, e, Option.toList_some, exL_snoc]
  by_cases hm : m = 2 ^ i
  · subst hm
    rw [if_pos rfl, if_pos rfl, hz i (Nat.le_refl _)]
    omega
  · rw [if_neg hm, if_neg (fun z => hm z.symm)]
    omega
section
variable (C : Ad) (G : List (Addr × Str))
def spFontC : Sp := sp1 fun x H Q => ∃ x' f F st, x = .ref x' ∧ CaseAt C H x' f F st ∧ Q (.ref f) H
def spFontW : Sp := sp1 fun x H Q => ∃ x' f F n, x = .ref x' ∧ WantsAt C H x' f F n ∧ Q (.ref f) H
def spPlates : Sp := sp1 fun x H Q => ∃ x' f F st, x = .ref x' ∧ CaseAt C H x' f F st ∧ ∀ H' p ts, Fs G H H' → H' p = some (.tup (ts.map V.ref)) → Paired (fun t q => H' t = some (.tup [kV q.1, q.2])) ts (stK st) → Q (.ref p) H'
def spItem : Sp := sp2 fun x y H Q => ∃ x' f F n c, x = .ref x' ∧ WantsAt C H x' f F n ∧ y = vS c ∧ c ∈ F.ws ∧ Q (.int (n c)) H
def spBear : Sp := sp2 fun x y H Q => ∃ (f : Addr) (F : Ft) (a : Addr) (st : List ((Nat × Nat) × Int)), x = .ref f ∧ FontAt C H f F ∧ y = .ref a ∧ StkL F H a st ∧ ∀ H' p, Fs G H H' → Nw ⟨false, G⟩ H p → H' p = some (.lst (byM F.n fun m => F.bear st (F.qm m))) → Q (.ref p) H'
def spWantM : Sp := sp2 fun x y H Q => ∃ (f : Addr) (F : Ft) (a : Addr) (nm : Nat → Int), x = .ref f ∧ FontAt C H f F ∧ y = .ref a ∧ H a = some (.lst (amK F nm)) ∧ ∀ H' p, Fs G H H' → Nw ⟨false, G⟩ H p → H' p = some (.lst (byM F.n fun m => F.want nm (F.qm m))) → Q (.ref p) H'
def spStockOf : Sp := sp1 fun x H Q => ∃ x' f F st, x = .ref x' ∧ CaseAt C H x' f F st ∧ ∀ H' p, Fs G H H' → StkL F H' p st → Q (.ref p) H'
def spAmounts : Sp := sp1 fun x H Q => ∃ x' f F n, x = .ref x' ∧ WantsAt C H x' f F n ∧ ∀ H' p, Fs G H H' → H' p = some (.lst (amK F n)) → Q (.ref p) H'
def slk (F : Ft) (st : List ((Nat × Nat) × Int)) (nm : Nat → Int) (m : Nat) : Int := F.bear st (F.qm m) - F.want nm (F.qm m)
def spSlacks : Sp := sp3 fun x y z H Q => ∃ (f : Addr) (F : Ft) (a b : Addr) (st : List ((Nat × Nat) × Int)) (nm : Nat → Int), x = .ref f ∧ FontAt C H f F ∧ y = .ref a ∧ StkL F H a st ∧ z = .ref b ∧ H b = some (.lst (amK F nm)) ∧
  ∀ H' p, Fs G H H' → H' p = some (.lst (byM F.n (slk F st nm))) → Q (.ref p) H'
def spSlacksOf : Sp := sp2 fun x y H Q => ∃ (x' y' f : Addr) (F : Ft) (st : List ((Nat × Nat) × Int)) (nm : Nat → Int), x = .ref x' ∧ y = .ref y' ∧ CaseAt C H x' f F st ∧ WantsAt C H y' f F nm ∧
  ∀ H' p, Fs G H H' → H' p = some (.lst (byM F.n (slk F st nm))) → Q (.ref p) H'
end
end Hy
namespace Hy
open PySem PySem.Spec PyProof.Rows L2
/-- a mask's place in the order, for up to five signs -/
def rkO (m : Nat) : Nat := ([0, 1, 2, 6, 3, 7, 10, 16, 4, 8, 11, 17, 13, 19, 22, 26, 5, 9, 12, 18, 14, 20, 23, 27, 15, 21, 24, 28, 25, 29, 30, 31] : List Nat).getD m 0
theorem kyM_rk : ∀ a, a < 32 → ∀ b, b < 32 → kyLe .pt kyM (.int ((a : Nat) : Int)) (.int ((b : Nat) : Int)) = decide (rkO a ≤ rkO b) := by decide +kernel
theorem rkO_zero : ∀ a, a < 32 → rkO a ≤ rkO 0 → a = 0 := by decide +kernel
def ordN (n : Nat) : List Nat := (List.range (2 ^ n)).mergeSort fun a b => decide (rkO a ≤ rkO b)
theorem ordV_eq {n : Nat} (h : 2 ^ n ≤ 32) : ordV n = (ordN n).map fun m => V.int ((m : Nat) : Int) := by
  unfold ordV ordN
  refine (List.map_mergeSort fun a ha b hb => ?_).symm
  have h1 := List.mem_range.mp ha
  have h2 := List.mem_range.mp hb
  exact (kyM_rk a (by omega) b (by omega)).symm
theorem ordN_perm (n : Nat) : (ordN n).Perm (List.range (2 ^ n)) := List.mergeSort_perm _ _
theorem ordN_mem {n m : Nat} : m ∈ ordN n ↔ m < 2 ^ n := (ordN_perm n).mem_iff.trans List.mem_range
theorem ordN_nodup (n : Nat) : (ordN n).Nodup := (ordN_perm n).nodup_iff.mpr List.nodup_range
theorem ordN_len (n : Nat) : (ordN n).length = 2 ^ n := (ordN_perm n).length_eq.trans List.length_range
theorem ordN_sorted (n : Nat) : (ordN n).Pairwise fun a b => rkO a ≤ rkO b := by
  have := List.pairwise_mergeSort (le := fun a b => decide (rkO a ≤ rkO b)) (fun a b c h1 h2 => by
    simp only [decide_eq_true_eq] at h1 h2 ⊢
    omega) (fun a b => by
    simp only [Bool.or_eq_true, decide_eq_true_eq]
    omega) (List.range (2 ^ n))
  exact this.imp fun h => of_decide_eq_true h
theorem ordN_cons {n : Nat} (h : 2 ^ n ≤ 32) : ∃ l, ordN n = 0 :: l ∧ l.Nodup ∧ l.length = 2 ^ n - 1 ∧ ∀ m, m ∈ l ↔ (0 < m ∧ m < 2 ^ n) := by
  have h0 : 0 ∈ ordN n := ordN_mem.mpr (Nat.two_pow_pos n)
  have hs := ordN_sorted n
  have hm : ∀ m, m ∈ ordN n ↔ m < 2 ^ n := fun m => ordN_mem
  have hd := ordN_nodup n
  have hl := ordN_len n
  cases e : ordN n with
  | nil =>
    rw [e] at h0
    cases h0
  | cons a l =>
    rw [e] at h0 hs hm hd hl
    have ha : a = 0 := by
      rcases List.mem_cons.mp h0 with z | z
      · exact z.symm
      · have h1 := (List.pairwise_cons.mp hs).1 0 z
        have h2 := (hm a).mp (List.mem_cons_self ..)
        exact rkO_zero a (by omega) h1
    subst ha
    have hd2 := List.nodup_cons.mp hd
    refine ⟨l, rfl, hd2.2, by rw [List.length_cons] at hl; omega, fun m => ⟨fun z => ⟨?_, (hm m).mp (List.mem_cons_of_mem _ z)⟩, fun z => ?_⟩⟩
    · have : m ≠ 0 := fun y => hd2.1 (y ▸ z)
      omega
    · rcases List.mem_cons.mp ((hm m).mpr z.2) with y | y
      · omega
      · exact y
theorem qm_mkp {F : Ft} (h : F.Ok) {a b : Nat} (ha : a < 2 ^ F.n) (hb : b < 2 ^ F.n) (e : F.setT a = F.setT b) : a = b := by
  have e1 : F.setL a = F.setL b := by
    have := congrArg (fun z : Str => z.cps.toList) e
    simpa [Ft.setT] using this
  rw [← Ft.mkp_qm h ha, ← Ft.mkp_qm h hb]
  refine Ft.mkp_congr fun c hc => ?_
  have : c ∈ F.setL a ↔ c ∈ F.setL b := by rw [e1]
  unfold Ft.setL at this
  rw [List.mem_filter, List.mem_filter] at this
  rw [Bool.eq_iff_iff]
  exact ⟨fun z => (this.mp ⟨hc, z⟩).2, fun z => (this.mpr ⟨hc, z⟩).2⟩
def kT (F : Ft) (m : Nat) : Key := .inr (F.setT m)
theorem nodup_key {l : List Nat} (h : l.Nodup) : (⟨l.toArray⟩ : Str) ≠ ("cells" : Str) := fun e => by
  have e1 : l = [99, 101, 108, 108, 115] := by
    have := congrArg (fun z : Str => z.cps.toList) e
    exact this
  rw [e1] at h
  exact absurd h (by decide)
theorem dOk_nd {kvs : List (Key × V)} (h : ∀ p ∈ kvs, ∃ l : List Nat, p.1 = .inr ⟨l.toArray⟩ ∧ l.Nodup) : dOk kvs := fun v e => by
  cases kvs with
  | nil => cases e
  | cons q r =>
    obtain ⟨l, h1, h2⟩ := h q (List.mem_cons_self ..)
    cases e
    exact nodup_key h2 (Sum.inr.inj h1).symm
theorem setL_nd {F : Ft} (h : F.Ok) (m : Nat) : (F.setL m).Nodup := h.nd.filter _
/-- the exact numbers as a dict -/
def exK (F : Ft) (st : List ((Nat × Nat) × Int)) : List (Key × V) := ((ordN F.n).filter fun m => decide (0 < F.exF st m)).map fun m => (kT F m, V.int (F.exF st m))
theorem dOk_ex {F : Ft} (h : F.Ok) (st : List ((Nat × Nat) × Int)) : dOk (exK F st) := dOk_nd fun p hp => by
  obtain ⟨m, _, rfl⟩ := List.mem_map.mp hp
  exact ⟨F.setL m, rfl, setL_nd h m⟩
/-- a new key goes behind -/
theorem put_fresh {kvs : List (Key × V)} {k : Key} {v : V} (h : ∀ p ∈ kvs, p.1 ≠ k) : putK kvs k v = kvs ++ [(k, v)] := by
  unfold putK
  rw [if_neg]
  intro z
  obtain ⟨p, hp, e⟩ := List.any_eq_true.mp z
  exact h p hp (of_decide_eq_true e)
/-- a list's first things as a dict: fresh keys only -/
theorem giv_put {α : Type} {p : α → Bool} {key : α → Key} {val : α → V} {l : List α} {i : Nat} {a : α} (nd : l.Nodup) (inj : ∀ x ∈ l, ∀ y ∈ l, key x = key y → x = y) (h : l[i]? = some a) (hp : p a = true) :
    giv p (fun x => (key x, val x)) l (i + 1) = putK (giv p (fun x => (key x, val x)) l i) (key a) (val a) := by
  rw [giv_yes h hp, put_fresh]
  intro q hq e
  unfold giv at hq
  obtain ⟨x, hx, rfl⟩ := List.mem_map.mp hq
  have hx2 := (List.mem_filter.mp hx).1
  have hi := (List.getElem?_eq_some_iff.mp h).1
  have hxl := List.mem_of_mem_take hx2
  have e2 : x = a := inj x hxl a (List.mem_of_getElem? h) e
  subst e2
  have e3 : l = l.take i ++ x :: l.drop (i + 1) := by
    have e4 := (List.getElem?_eq_some_iff.mp h).2
    conv => lhs; rw [← List.take_append_drop i l, List.drop_eq_getElem_cons hi, e4]
  rw [e3, List.nodup_append] at nd
  exact nd.2.2 x hx2 x (List.mem_cons_self ..) rfl
end Hy
namespace Hy
open PySem PySem.Spec PyProof.Rows L2
def isSt : V → Bool
  | .str _ => true
  | _ => false
theorem hitsSt {A : Around} {s : Shared} {ls : List (Key × V)} {vb : List (Key × Value)} (rb : KV ls vb) (hl : ls.all (fun p => isSt p.2) = true) {ks : List (Key × V)} {va : List (Key × Value)} (ra : KV ks va) (hk : ks.all (fun p => isSt p.2) = true) :
    PySem.W.KeqHits A s vb va (ks.all fun p => decide (valV ls p.1 = some p.2)) := by
  unfold KV at ra
  induction ra with
  | nil => exact .nil
  | @cons p q ps qs h t ih =>
    rw [List.all_cons, Bool.and_eq_true] at hk
    have ih' := ih hk.2
    obtain ⟨k, v⟩ := q
    obtain ⟨p1, p2⟩ := p
    obtain ⟨h1, h2⟩ := h
    dsimp only at h1 h2 hk
    subst h1
    rw [List.all_cons]
    have rr := rb.val p1
    cases hv : valV ls p1 with
    | none =>
      rw [hv] at rr
      have e : valueAt vb p1 = none := RelO.none_of rr
      have e2 : (decide ((none : Option V) = some p2) && ps.all fun p => decide (valV ls p.1 = some p.2)) = false := by simp
      show PySem.W.KeqHits A s vb ((p1, v) :: qs) (decide ((none : Option V) = some p2) && ps.all fun p => decide (valV ls p.1 = some p.2))
      rw [e2]
      exact .miss e
    | some y =>
      rw [hv] at rr
      obtain ⟨yv, e, ry⟩ := rr.some_of
      have hy : isSt y = true := by
        unfold valV at hv
        cases hf : ls.find? (fun kv => decide (kv.1 = p1)) with
        | none =>
          rw [hf] at hv
          cases hv
        | some z =>
          rw [hf] at hv
          cases hv
          exact List.all_eq_true.mp hl z (List.mem_of_find?_eq_some hf)
      cases p2 with
      | str i =>
        cases y with
        | str j =>
          obtain ⟨t1, rfl⟩ := h2
          obtain ⟨t2, rfl⟩ := ry
          have E := PySem.W.keq_flat (A := A) (s := s) (v := .str i t1) (y := .str j t2) (d := .str i) (e := .str j) (fun _ => .str _ _) (fun _ => .str _ _)
          have e3 : decide (some (V.str j) = some (V.str i)) = PyData.eqv (.str i) (.str j) := by
            show decide (some (V.str j) = some (V.str i)) = PyData.eqv (.str i) (.str j)
            have e4 : PyData.eqv (.str i) (.str j) = (i == j) := by
              first
              | rfl
              | (unfold PyData.eqv; rfl)
              | simp [PyData.eqv]
            rw [e4, Bool.eq_iff_iff]
            simp only [decide_eq_true_eq, beq_iff_eq, Option.some.injEq, V.str.injEq]
            exact eq_comm
          show PySem.W.KeqHits A s vb ((p1, Value.str i t1) :: qs) (decide (some (V.str j) = some (V.str i)) && ps.all fun p => decide (valV ls p.1 = some p.2))
          rw [e3]
          exact .hit e E ih'
        | _ => cases hy
      | _ => cases hk.1
def rEqDS : R2 := fun x y H Q => ∃ a b ks ls, x = .ref a ∧ y = .ref b ∧ H a = some (.dK ks) ∧ H b = some (.dK ls) ∧ ks.all (fun p => isSt p.2) = true ∧ ls.all (fun p => isSt p.2) = true ∧ Q (.bl (eqDI ks ls)) H
theorem op_eqDS {X : Cx} (hu : X.A.units < cLine) : OpR X (compareOp .Eq) rEqDS := by
  intro pins s σ H x y v u Q I rx ry h
  obtain ⟨a, b, ks, ls, rfl, rfl, ea, eb, hk, hl, q⟩ := h
  obtain rfl : v = Value.ref a := rx
  obtain rfl : u = Value.ref b := ry
  obtain ⟨_, ya, va, ra, da⟩ := (show ObjOk X.prog X.w H s.heap a (.dK ks) from I.hok a _ ea)
  obtain ⟨_, yb, vb, rb, db⟩ := (show ObjOk X.prog X.w H s.heap b (.dK ls) from I.hok b _ eb)
  refine PySem.W.keq_eq (knd := mixKind X.prog X.w) (r := ks.all fun p => decide (valV ls p.1 = some p.2)) ya yb da db hu (fun _ => hitsSt rb hl ra hk) (fin_bl I q ?_)
  rw [← ra.length, ← rb.length]
  rfl

theorem valV_self : ∀ {l : List (Key × V)} {p : Key × V}, (l.map (·.1)).Nodup → p ∈ l → valV l p.1 = some p.2
  | [], _, _, h => by cases h
  | q :: l, p, nd, h => by
    rw [List.map_cons, List.nodup_cons] at nd
    rcases List.mem_cons.mp h with e | h
    · subst e
      exact valV_pos rfl
    · rw [valV_neg (fun e => nd.1 (List.mem_map.mpr ⟨p, h, e.symm⟩))]
      exact valV_self nd.2 h
/-- the fold of the worst sets -/
def wLeast (g : Nat → Int) (low : Int) : Nat → Nat → Nat
  | 0, a => a
  | i + 1, a => if g i = low then wLeast g low i a &&& i else wLeast g low i a
def wMost (g : Nat → Int) (low : Int) : Nat → Nat
  | 0 => 0
  | i + 1 => if g i = low then wMost g low i ||| i else wMost g low i
/-- low is the least of g's numbers -/
def IsMin (n : Nat) (g : Nat → Int) (low : Int) : Prop := (∃ m, m < 2 ^ n ∧ g m = low) ∧ ∀ m, m < 2 ^ n → low ≤ g m
theorem IsMin.uniq {n : Nat} {g : Nat → Int} {a b : Int} (h : IsMin n g a) (k : IsMin n g b) : a = b := by
  obtain ⟨⟨m, h1, h2⟩, h3⟩ := h
  obtain ⟨⟨m', k1, k2⟩, k3⟩ := k
  have e1 := h3 m' k1
  have e2 := k3 m h1
  omega
theorem isMin_of {n : Nat} {g : Nat → Int} {low : Int} (h1 : low ∈ (List.range (2 ^ n)).map g) (h2 : ∀ y, y ∈ (List.range (2 ^ n)).map g → low ≤ y) : IsMin n g low := by
  obtain ⟨m, hm, e⟩ := List.mem_map.mp h1
  exact ⟨⟨m, List.mem_range.mp hm, e⟩, fun m hm => h2 _ (List.mem_map.mpr ⟨m, List.mem_range.mpr hm, rfl⟩)⟩
theorem bitand_nat : ∀ a : Nat, a < 32 → ∀ b : Nat, b < 32 → Builtin.bitAnd (a : Int) (b : Int) = ((a &&& b : Nat) : Int) := by decide +kernel
theorem bitor_nat : ∀ a : Nat, a < 32 → ∀ b : Nat, b < 32 → Builtin.bitOr (a : Int) (b : Int) = ((a ||| b : Nat) : Int) := by decide +kernel
theorem wLeast_le {g : Nat → Int} {low : Int} {a : Nat} : ∀ i, wLeast g low i a ≤ a
  | 0 => Nat.le_refl _
  | i + 1 => by
    have := wLeast_le (g := g) (low := low) (a := a) i
    unfold wLeast
    split
    · exact Nat.le_trans Nat.and_le_left this
    · exact this
theorem wLeast_lt {g : Nat → Int} {low : Int} {n : Nat} : wLeast g low (2 ^ n) (2 ^ n - 1) < 2 ^ n := by
  have := wLeast_le (g := g) (low := low) (a := 2 ^ n - 1) (2 ^ n)
  have : 0 < 2 ^ n := Nat.two_pow_pos _
  omega
theorem wMost_lt {g : Nat → Int} {low : Int} {n : Nat} : ∀ i, i ≤ 2 ^ n → wMost g low i < 2 ^ n
  | 0, _ => Nat.two_pow_pos _
  | i + 1, h => by
    have := wMost_lt (g := g) (low := low) (n := n) i (by omega)
    unfold wMost
    split
    · exact Nat.or_lt_two_pow this (by omega)
    · exact this
theorem sum_filter {α : Type} (p : α → Bool) (f : α → Int) : ∀ l : List α, ((l.filter p).map f).sum = (l.map fun a => if p a = true then f a else 0).sum
  | [] => rfl
  | a :: l => by
    have := sum_filter p f l
    rw [List.filter_cons, List.map_cons, List.sum_cons, ← this]
    split
    · rw [List.map_cons, List.sum_cons]
    · rw [Int.zero_add]
/-- how often the wants hang -/
def cpF (num more : Nat → Int) : Nat → Option Int
  | 0 => none
  | i + 1 => match cpF num more i with
    | none => if 0 < more i then some (num i / more i) else none
    | some b => if 0 < more i then (if num i / more i < b then some (num i / more i) else some b) else some b
section
variable (C : Ad) (G : List (Addr × Str))
def spFontEq : Sp := sp2 fun x y H Q => ∃ f F, x = .ref f ∧ y = .ref f ∧ FontU C H f F ∧ Q (.bl true) H
/-- a case or wants with the font at f -/
def OfFont (C : Ad) (H : Hp) (y f : Addr) (F : Ft) : Prop := (∃ st, CaseAt C H y f F st) ∨ ∃ n, WantsAt C H y f F n
def spOneFont : Sp := sp2 fun x y H Q => ∃ x' y' f F st, x = .ref x' ∧ y = .ref y' ∧ CaseAt C H x' f F st ∧ OfFont C H y' f F ∧ ∀ H', Fs G H H' → Q .non H'
def spExact : Sp := sp1 fun x H Q => ∃ x' f F st, x = .ref x' ∧ CaseAt C H x' f F st ∧ ∀ H' p, Fs G H H' → Nw ⟨false, G⟩ H p → H' p = some (.dK (exK F st)) → Q (.ref p) H'
def spAlike : Sp := sp2 fun x y H Q => ∃ x' y' f F s1 s2, x = .ref x' ∧ y = .ref y' ∧ CaseAt C H x' f F s1 ∧ CaseAt C H y' f F s2 ∧
  (∀ H', Fs G H H' → (∀ m, m < 2 ^ F.n → F.bear s1 (F.qm m) = F.bear s2 (F.qm m)) → Q .non H') ∧
  ∀ H' p m, Fs G H H' → m < 2 ^ F.n → F.bear s1 (F.qm m) ≠ F.bear s2 (F.qm m) → H' p = some (.tup [.str (F.setT m), .int (F.bear s1 (F.qm m)), .int (F.bear s2 (F.qm m))]) → Q (.ref p) H'
def spExactOf : Sp := sp2 fun x y H Q => ∃ f F d kvs st, x = .ref f ∧ FontAt C H f F ∧ y = .ref d ∧ H d = some (.dK kvs) ∧ dOk kvs ∧ kvs.length = 2 ^ F.n - 1 ∧ StOk F st ∧
  (∀ m, 0 < m → m < 2 ^ F.n → valV kvs (kT F m) = some (.int (F.bear st (F.qm m)))) ∧ ∀ H' p, Fs G H H' → H' p = some (.dK (exK F st)) → Q (.ref p) H'
def spMeets : Sp := sp3 fun x y z H Q => ∃ (f : Addr) (F : Ft) (k : Nat × Nat) (q : Nat → Bool), x = .ref f ∧ FontAt C H f F ∧ F.kOk k ∧ y = .str (K2 k) ∧ z = .str ⟨(F.ws.filter q).toArray⟩ ∧ ∀ H', Fs G H H' → Q (.bl ((F.sh k).any q)) H'
def spBearing : Sp := sp2 fun x y H Q => ∃ (x' f : Addr) (F : Ft) (st : List ((Nat × Nat) × Int)) (q : Nat → Bool), x = .ref x' ∧ CaseAt C H x' f F st ∧ y = .str ⟨(F.ws.filter q).toArray⟩ ∧ ∀ H', Fs G H H' → Q (.int (F.bear st q)) H'
def spLeast : Sp := sp1 fun x H Q => ∃ (a : Addr) (n : Nat) (g : Nat → Int), x = .ref a ∧ (2 ≤ n ∧ n ≤ 5) ∧ H a = some (.lst (byM n g)) ∧ ∀ H' low, Fs G H H' → IsMin n g low → Q (.int ((wLeast g low (2 ^ n) (2 ^ n - 1) : Nat) : Int)) H'
def spGreat : Sp := sp1 fun x H Q => ∃ (a : Addr) (n : Nat) (g : Nat → Int), x = .ref a ∧ (2 ≤ n ∧ n ≤ 5) ∧ H a = some (.lst (byM n g)) ∧ ∀ H' low, Fs G H H' → IsMin n g low → Q (.int ((wMost g low (2 ^ n) : Nat) : Int)) H'
def spHangs : Sp := sp2 fun x y H Q => ∃ x' y' f F st n, x = .ref x' ∧ y = .ref y' ∧ CaseAt C H x' f F st ∧ WantsAt C H y' f F n ∧ ∀ H' low, Fs G H H' → IsMin F.n (slk F st n) low → Q (.bl (decide (0 ≤ low))) H'
def spShort : Sp := sp2 fun x y H Q => ∃ x' y' f F st n, x = .ref x' ∧ y = .ref y' ∧ CaseAt C H x' f F st ∧ WantsAt C H y' f F n ∧ ∀ H' low p, Fs G H H' → IsMin F.n (slk F st n) low →
  H' p = some (.tup [.int (-low), .str (F.setT (wLeast (slk F st n) low (2 ^ F.n) (2 ^ F.n - 1))), .str (F.setT (wMost (slk F st n) low (2 ^ F.n)))]) → Q (.ref p) H'
def spBase : Sp := sp3 fun x y z H Q => ∃ (x' y' f : Addr) (F : Ft) (st : List ((Nat × Nat) × Int)) (n : Nat → Int), x = .ref x' ∧ y = .ref y' ∧ z = .non ∧ CaseAt C H x' f F st ∧ WantsAt C H y' f F n ∧ ∀ H' p a b, Fs G H H' → H' a = some (.lst (byM F.n fun m => F.bear st (F.qm m))) →
  H' b = some (.lst (byM F.n fun m => F.want n (F.qm m))) → H' p = some (.tup [.ref a, .ref b]) → Q (.ref p) H'
/-- copies(case, wants): something is wanted -/
def spCopies : Sp := sp2 fun x y H Q => ∃ (x' y' f : Addr) (F : Ft) (st : List ((Nat × Nat) × Int)) (n : Nat → Int), x = .ref x' ∧ y = .ref y' ∧ CaseAt C H x' f F st ∧ WantsAt C H y' f F n ∧ (∀ c ∈ F.ws, 0 ≤ n c ∧ n c ≤ 10000000000000000000000000000000) ∧ (∃ m, m < 2 ^ F.n ∧ 0 < F.want n (F.qm m)) ∧
  ∀ H' p k t, Fs G H H' → cpF (fun m => F.bear st (F.qm m)) (fun m => F.want n (F.qm m)) (2 ^ F.n) = some k → H' p = some (.tup [.int k, .str t]) → Q (.ref p) H'
end
section
variable {C : Ad} {H : Hp} {Q : VK} {x f : Addr} {F : Ft} {st : List ((Nat × Nat) × Int)} {n : Nat → Int}
theorem r_fontC (h : CaseAt C H x f F st) (q : Q (.ref f) H) : ∃ a dx fs, V.ref x = .ref a ∧ H a = some (.ins C.CC dx fs) ∧ spFontC C [.ref a] H Q E0 := by
  obtain ⟨hF, so, d, dx, fs, v⟩ := id h
  exact ⟨x, dx, fs, rfl, v.at_, r_sp1 ⟨x, f, F, st, rfl, h, q⟩⟩
theorem r_fontW (h : WantsAt C H x f F n) (q : Q (.ref f) H) : ∃ a dx fs, V.ref x = .ref a ∧ H a = some (.ins C.CW dx fs) ∧ spFontW C [.ref a] H Q E0 := by
  obtain ⟨hF, d, dx, fs, v⟩ := id h
  exact ⟨x, dx, fs, rfl, v.at_, r_sp1 ⟨x, f, F, n, rfl, h, q⟩⟩
end
end Hy
namespace Hy
open PySem PySem.Spec PyProof.Rows L2
theorem sum_bound {B : Int} (hB : 0 ≤ B) : ∀ l : List Int, (∀ x ∈ l, 0 ≤ x ∧ x ≤ B) → 0 ≤ l.sum ∧ l.sum ≤ (l.length : Int) * B
  | [], _ => ⟨Int.le_refl _, by simp⟩
  | a :: l, h => by
    have h1 := h a (List.mem_cons_self ..)
    have h2 := sum_bound hB l fun x hx => h x (List.mem_cons_of_mem _ hx)
    rw [List.sum_cons, List.length_cons]
    have e : ((l.length + 1 : Nat) : Int) * B = (l.length : Int) * B + B := by
      rw [Int.natCast_add, Int.add_mul]
      simp
    rw [e]
    omega
namespace Ft
theorem bear_bd {F : Ft} {st : List ((Nat × Nat) × Int)} (h : StOk F st) (q : Nat → Bool) : 0 ≤ F.bear st q ∧ F.bear st q ≤ 20000000000000000000000000000000 := by
  have := sum_bound (B := 1000000000000000000000000000000) (by decide) (st.map fun p => if (F.sh p.1).any q = true then p.2 else 0) fun x hx => by
    obtain ⟨p, hp, rfl⟩ := List.mem_map.mp hx
    have h1 := h.pos p hp
    have h2 := h.le p hp
    split <;> omega
  rw [List.length_map] at this
  have hl := h.len
  unfold bear
  omega
theorem exF_nn {F : Ft} {st : List ((Nat × Nat) × Int)} (h : StOk F st) (m : Nat) : 0 ≤ F.exF st m := by
  have := sum_bound (B := 1000000000000000000000000000000) (by decide) ((F.exP st).map fun p => if p.1 = m then p.2 else 0) fun x hx => by
    obtain ⟨p, hp, rfl⟩ := List.mem_map.mp hx
    obtain ⟨r, hr, rfl⟩ := List.mem_map.mp hp
    have h1 := h.pos r hr
    have h2 := h.le r hr
    dsimp only
    split <;> omega
  exact this.1
theorem full_T {F : Ft} (h : F.Ok) : F.W = F.setT (2 ^ F.n - 1) := by
  unfold W setT setL
  rw [List.filter_eq_self.mpr]
  intro c hc
  unfold qm
  rw [Nat.testBit_two_pow_sub_one]
  exact decide_eq_true (List.idxOf_lt_length_of_mem hc)
theorem zt_at0 (s : Int) (f : Nat → Int) : ∀ k, zt s k f 0 = f 0
  | 0 => rfl
  | k + 1 => by
    unfold zt
    rw [if_neg (by simp), zt_at0 s f k]
/-- the bearing of all signs is the sum of all -/
theorem bear_full {F : Ft} (hF : F.Ok) {st : List ((Nat × Nat) × Int)} (h : StOk F st) : F.bear st (F.qm (2 ^ F.n - 1)) = zt 1 F.n (F.exF st) (2 ^ F.n - 1) := by
  have hp : 0 < 2 ^ F.n := Nat.two_pow_pos _
  have := bear_zt hF st (m := 2 ^ F.n - 1) (by omega)
  rw [Nat.sub_self, zt_at0, exF_zero hF h] at this
  omega
theorem want_bd {F : Ft} (hF : F.Ok) {n : Nat → Int} (h : ∀ c ∈ F.ws, 0 ≤ n c ∧ n c ≤ 10000000000000000000000000000000) (q : Nat → Bool) : 0 ≤ F.want n q ∧ F.want n q ≤ 50000000000000000000000000000000 := by
  have := sum_bound (B := 10000000000000000000000000000000) (by decide) (F.ws.map fun c => if q c = true then n c else 0) fun x hx => by
    obtain ⟨c, hc, rfl⟩ := List.mem_map.mp hx
    have h1 := h c hc
    split
    · exact h1
    · omega
  rw [List.length_map] at this
  have hl := hF.hi
  unfold want
  omega
end Ft
theorem divW {i j : Int} (h0 : 0 < j) (h1 : j ≤ 50000000000000000000000000000000) : CDivW i j := by
  refine ⟨h0, ?_⟩
  have h2 : j.natAbs < 2 ^ 200 := by
    have : (50000000000000000000000000000000 : Nat) < 2 ^ 200 := by decide
    omega
  have := (Nat.log2_lt (show j.natAbs ≠ 0 by omega)).mpr h2
  omega
theorem cut_tail (x : V) (xs : List V) : cutV (x :: xs) (some 1) none = xs := by
  unfold cutV HT.sIx
  simp
end Hy
namespace Hy
open PySem PySem.Spec PyProof.Rows L2
section
variable {σ : L2.St} {H : Hp} {Q : VK} {K : PySem.W.Frag} {ta tv td ty te : TE} {tl : TA} {f : Str} {D : Ends}
theorem r_sfld (h : tv σ H fun y H1 => ta σ H1 fun x H2 => ∃ a C dx fs, x = .ref a ∧ H2 a = some (.ins C dx fs) ∧ Cls K C ∧ NoAttr K C f ∧ fs.length < 1000 ∧ D.nx σ (upd H2 a (.ins C dx (putF f y fs)))) : sFld K ta tv f D σ H := h
theorem r_dput (h : tv σ H fun v H1 => td σ H1 fun x H2 => ty σ H2 fun y H3 => ∃ a H4, x = .ref a ∧ DPut H3 a y v H4 ∧ D.nx σ H4) : sDPut td ty tv D σ H := h
theorem r_dnewK (h : ∀ p, H p = none → Q (.ref p) (upd H p (.dK []))) : tDNewK σ H Q := h
theorem r_mk {C : Addr} {sp : Sp} (h : tl σ H fun vs H1 => ∀ x dx, H1 x = none → H1 dx = none → dx ≠ x → sp (V.ref x :: vs) (upd (upd H1 dx (.own x)) x (.ins C dx [])) (fun v H3 => v = .non ∧ Q (.ref x) H3) E0) : tMk C sp tl σ H Q := h
theorem r_con (h : ta σ H fun x H1 => ∃ a C dx fs v u, x = .ref a ∧ H1 a = some (.ins C dx fs) ∧ Cls K C ∧ Con K C f v u ∧ fs.lookup f = none ∧ Q v H1) : tCon K ta f σ H Q := h
theorem r_lockS {t : TS} (h : ∃ d u, H d = some u ∧ Mut (some u) ∧ ∀ od, t ⟨fun σ' H' => H' d = some (.frz od u) ∧ D.nx σ' (upd H' d u), fun v H' => H' d = some (.frz od u) ∧ D.rt v (upd H' d u), fun σ' H' => H' d = some (.frz od u) ∧ D.bk σ' (upd H' d u), fun σ' H' => H' d = some (.frz od u) ∧ D.ct σ' (upd H' d u)⟩ σ (upd H d (.frz od u))) : tLock t D σ H := h
theorem r_dput1 {a : Addr} {kvs : List (Key × V)} {k : Key} {v : V} {R : Hp → Prop} (h : H a = some (.dK kvs)) (hl : kvs.length < sizeLine) (q : R (upd H a (.dK (putK kvs k v)))) : ∃ a' H4, V.ref a = .ref a' ∧ DPut H a' (kV k) v H4 ∧ R H4 := by
  exact ⟨a, _, rfl, .inl ⟨kvs, k, h, rfl, hl, rfl⟩, q⟩
end
/-- a pair of turned signs -/
def RTurn (H : Hp) (v : V) (p : Nat × Nat) : Prop := ∃ t, v = .ref t ∧ H t = some (.tup [vS p.1, vS p.2])
theorem stb_turn : Stb RTurn := ⟨fun e ⟨t, h1, h2⟩ => ⟨t, h1, e.tup h2⟩, fun h ⟨t, h1, h2⟩ => ⟨t, h1, stb_upd h h2 (by intro _ z; cases z)⟩⟩
def TurnsL (H : Hp) (a : Addr) (tl : List (Nat × Nat)) : Prop := ∃ vs, H a = some (.lst vs) ∧ Paired (RTurn H) vs tl
theorem TurnsL.mono {b : Fb} {H H1 : Hp} {a : Addr} {tl : List (Nat × Nat)} (e : Fm b H H1) (h : TurnsL H a tl) : TurnsL H1 a tl := by
  obtain ⟨vs, h1, h2⟩ := h
  exact ⟨vs, e.lst h1, paired_imp h2 fun _ _ r => stb_turn.mono e r⟩
/-- the pairs of a list tell the font's heads, each once -/
structure TurnsOf (F : Ft) (tl : List (Nat × Nat)) : Prop where
  dis : tl.Pairwise fun p q => p.1 ≠ q.1 ∧ p.1 ≠ q.2 ∧ p.2 ≠ q.1 ∧ p.2 ≠ q.2
  hd : ∀ p ∈ tl, F.hd p.1 = some p.2
  all : ∀ c d, F.hd c = some d → (c, d) ∈ tl ∨ (d, c) ∈ tl
  len : tl.length ≤ 5
/-- a dict of counts by signs -/
structure CntK (F : Ft) (kvs : List (Key × V)) : Prop where
  key : ∀ p ∈ kvs, (∃ c ∈ F.ws, p.1 = kS c) ∧ ∃ i : Int, p.2 = .int i ∧ 0 ≤ i
  len : kvs.length ≤ 1000
theorem CntK.dk {F : Ft} {kvs : List (Key × V)} (h : CntK F kvs) : dOk kvs := dOk_of fun p hp => by
  obtain ⟨⟨c, _, e⟩, _⟩ := h.key p hp
  exact ⟨S1 c, e, by show 1 ≤ 2; decide⟩
section
variable (C : Ad) (G : List (Addr × Str))
def spFontText : Sp := sp2 fun x y H Q => ∃ (F : Ft) (m : Nat), x = .str F.W ∧ F.Ok ∧ y = .int ((m : Nat) : Int) ∧ 5 ≤ m ∧ ∀ H', Fs G H H' → Q (.bl true) H'
def spTurns : Sp := sp2 fun x y H Q => ∃ (F : Ft) (a r : Addr) (tl : List (Nat × Nat)), x = .ref a ∧ y = .ref r ∧ F.Ok ∧ TurnsOf F tl ∧ TurnsL H a tl ∧ H r = some (.dK (ranksK F)) ∧ ∀ H', Fs G H H' → Q (.bl true) H'
def spFontInit : Sp := sp3 fun x y z H Q => ∃ (x' dx a : Addr) (F : Ft) (tl : List (Nat × Nat)) (H0 : Hp), x = .ref x' ∧ y = .str F.W ∧ z = .ref a ∧ H x' = some (.ins C.CF dx []) ∧ Fs G H0 H ∧ Nw ⟨false, G⟩ H0 x' ∧ F.Ok ∧ TurnsOf F tl ∧ TurnsL H0 a tl ∧
  ∀ H', Fs G H0 H' → FontU C H' x' F → Q .non H'
def spAreCounts : Sp := sp2 fun x y H Q => ∃ (f d : Addr) (F : Ft) (kvs : List (Key × V)), x = .ref f ∧ FontAt C H f F ∧ y = .ref d ∧ H d = some (.dK kvs) ∧ CntK F kvs ∧ ∀ H', Fs G H H' → Q (.bl true) H'
def spWantsInit : Sp := sp3 fun x y z H Q => ∃ (x' dx f d : Addr) (F : Ft) (kvs : List (Key × V)) (n : Nat → Int) (H0 : Hp), x = .ref x' ∧ y = .ref f ∧ z = .ref d ∧ H x' = some (.ins C.CW dx []) ∧ Fs G H0 H ∧ Nw ⟨false, G⟩ H0 x' ∧ FontU C H0 f F ∧ H0 d = some (.dK kvs) ∧ CntK F kvs ∧
  (∀ c ∈ F.ws, (valV kvs (kS c)).getD (.int 0) = .int (n c)) ∧ ∀ H', Fs G H0 H' → WantsAt C H' x' f F n → Q .non H'
end
/-- a field of a new thing is set -/
theorem Fm.fld {b : Fb} {H0 H : Hp} {x : Addr} {o : HO} {C dx : Addr} {fs : List (Str × V)} (e : Fm b H0 H) (n : Nw b H0 x) (h : H x = some (.ins C dx fs)) : Fm b H0 (upd H x o) := e.edit n h rfl
theorem sg_in : ∀ c ∈ signsL, decide (c ∈ ("0123456789abcdefghijklmnopqrstuvwxyz" : Str).cps.toList) = true := by decide +kernel
/-- the signs that the pairs speak of -/
def seenL (F : Ft) (tl : List (Nat × Nat)) : List Nat := tl.flatMap fun p => F.ws.filter fun c => decide (c ∈ [p.1, p.2])
theorem seen_nd {F : Ft} {tl : List (Nat × Nat)} (o : F.Ok) (h : TurnsOf F tl) : (seenL F tl).Nodup := by
  unfold seenL
  refine List.pairwise_flatMap.mpr ⟨fun p _ => o.nd.filter _, h.dis.imp fun {p q} hpq x hx y hy e => ?_⟩
  have h1 := of_decide_eq_true (List.mem_filter.mp hx).2
  have h2 := of_decide_eq_true (List.mem_filter.mp hy).2
  subst e
  simp only [List.mem_cons, List.not_mem_nil, or_false] at h1 h2
  rcases h1 with h1 | h1 <;> rcases h2 with h2 | h2
  · exact hpq.1 (h1.symm.trans h2)
  · exact hpq.2.1 (h1.symm.trans h2)
  · exact hpq.2.2.1 (h1.symm.trans h2)
  · exact hpq.2.2.2 (h1.symm.trans h2)
theorem seen_take {F : Ft} {tl : List (Nat × Nat)} {i : Nat} {p : Nat × Nat} (h : tl[i]? = some p) : seenL F (tl.take (i + 1)) = seenL F (tl.take i) ++ F.ws.filter fun c => decide (c ∈ [p.1, p.2]) := by
  unfold seenL
  rw [List.take_add_one, h, List.flatMap_append]
  simp
theorem seen_len {F : Ft} (o : F.Ok) : ∀ tl : List (Nat × Nat), (seenL F tl).length ≤ 5 * tl.length
  | [] => Nat.le_refl _
  | p :: tl => by
    have h1 := seen_len o tl
    unfold seenL at h1 ⊢
    rw [List.flatMap_cons, List.length_append, List.length_cons]
    have h2 : (F.ws.filter fun c => decide (c ∈ [p.1, p.2])).length ≤ F.ws.length := List.length_filter_le _ _
    have := o.hi
    omega
theorem keys_put (kvs : List (Key × V)) (k : Key) (v : V) : (putK kvs k v).map (·.1) = kvs.map (·.1) ∨ (k ∉ kvs.map (·.1) ∧ (putK kvs k v).map (·.1) = kvs.map (·.1) ++ [k]) := by
  unfold putK
  by_cases h : (kvs.any fun kv => decide (kv.1 = k)) = true
  · rw [if_pos h]
    left
    rw [List.map_map]
    refine List.map_congr_left fun p _ => ?_
    simp only [Function.comp]
    split <;> rfl
  · rw [if_neg h]
    right
    refine ⟨fun z => h ?_, by rw [List.map_append]; rfl⟩
    obtain ⟨p, hp, e⟩ := List.mem_map.mp z
    exact List.any_eq_true.mpr ⟨p, hp, decide_eq_true e⟩
theorem nd_put {kvs : List (Key × V)} (k : Key) (v : V) (h : (kvs.map (·.1)).Nodup) : ((putK kvs k v).map (·.1)).Nodup := by
  rcases keys_put kvs k v with e | ⟨n, e⟩
  · rw [e]
    exact h
  · rw [e]
    refine List.nodup_append.mpr ⟨h, List.nodup_cons.mpr ⟨by simp, .nil⟩, fun a ha b hb e => ?_⟩
    have : b = k := by simpa using hb
    exact n (this ▸ e ▸ ha)
theorem mem_put {kvs : List (Key × V)} {k : Key} {v : V} {p : Key × V} (h : p ∈ putK kvs k v) : p ∈ kvs ∨ (p.2 = v ∧ (p.1 = k)) := by
  unfold putK at h
  by_cases e : (kvs.any fun kv => decide (kv.1 = k)) = true
  · rw [if_pos e] at h
    obtain ⟨q, hq, rfl⟩ := List.mem_map.mp h
    by_cases e2 : q.1 = k
    · rw [if_pos e2]
      exact .inr ⟨rfl, e2⟩
    · rw [if_neg e2]
      exact .inl hq
  · rw [if_neg e] at h
    rcases List.mem_append.mp h with h | h
    · exact .inl h
    · have : p = (k, v) := by simpa using h
      rw [this]
      exact .inr ⟨rfl, rfl⟩
/-- the heads' dict behind some pairs -/
structure HdI (F : Ft) (pre : List (Nat × Nat)) (kvs : List (Key × V)) : Prop where
  val : ∀ c, valV kvs (kS c) = if pre.any (fun p => decide (p.1 = c) || decide (p.2 = c)) = true then (F.hd c).map vS else none
  ent : ∀ p ∈ kvs, (∃ c, p.1 = kS c) ∧ ∃ c, p.2 = vS c
  nd : (kvs.map (·.1)).Nodup
theorem HdI.zero (F : Ft) : HdI F [] [] := ⟨fun _ => rfl, fun p h => (by cases h), .nil⟩
theorem HdI.step {F : Ft} {pre : List (Nat × Nat)} {kvs : List (Key × V)} {a b : Nat} (h : HdI F pre kvs) (hab : F.hd a = some b) (hba : F.hd b = some a) : HdI F (pre ++ [(a, b)]) (putK (putK kvs (kS a) (vS b)) (kS b) (vS a)) := by
  refine ⟨fun c => ?_, fun p hp => ?_, nd_put _ _ (nd_put _ _ h.nd)⟩
  · rw [valV_put, valV_put, h.val c, List.any_append]
    by_cases e1 : c = b
    · subst e1
      rw [if_pos rfl, if_pos (by simp), hba]
      rfl
    · rw [if_neg (fun z => e1 (kS_inj.mp z))]
      by_cases e2 : c = a
      · subst e2
        rw [if_pos rfl, if_pos (by simp), hab]
        rfl
      · rw [if_neg (fun z => e2 (kS_inj.mp z))]
        have : ([(a, b)].any fun p => decide (p.1 = c) || decide (p.2 = c)) = false := by
          simp only [List.any_cons, List.any_nil, Bool.or_false]
          rw [decide_eq_false (fun z => e2 z.symm), decide_eq_false (fun z => e1 z.symm)]
          rfl
        rw [this, Bool.or_false]
  · rcases mem_put hp with hp | ⟨e1, e2⟩
    · rcases mem_put hp with hp | ⟨e1, e2⟩
      · exact h.ent p hp
      · exact ⟨⟨a, e2⟩, b, e1⟩
    · exact ⟨⟨b, e2⟩, a, e1⟩
theorem HdI.done {F : Ft} {tl : List (Nat × Nat)} {kvs : List (Key × V)} (h : HdI F tl kvs) (t : TurnsOf F tl) : hdK F kvs := by
  refine ⟨fun c => ?_, h.ent, h.nd⟩
  rw [h.val c]
  by_cases e : tl.any (fun p => decide (p.1 = c) || decide (p.2 = c)) = true
  · rw [if_pos e]
  · rw [if_neg e]
    cases hd : F.hd c with
    | none => rfl
    | some d =>
      refine absurd (List.any_eq_true.mpr ?_) e
      rcases t.all c d hd with z | z
      · exact ⟨_, z, by simp⟩
      · exact ⟨_, z, by simp⟩
theorem ranks_eq {F : Ft} (o : F.Ok) : ranksK F = F.ws.map fun c => (kS c, V.int ((F.rk c : Nat) : Int)) := by
  unfold ranksK
  rw [zip_rk o, List.map_map]
  rfl
theorem put_len (kvs : List (Key × V)) (k : Key) (v : V) : (putK kvs k v).length ≤ kvs.length + 1 := by
  have e : ∀ l : List (Key × V), (l.map (·.1)).length = l.length := fun l => List.length_map _
  rcases keys_put kvs k v with h | ⟨_, h⟩
  · rw [← e, h, e]
    omega
  · rw [← e, h, List.length_append, e]
    exact Nat.le_refl _
end Hy
namespace Hy
open PySem PySem.Spec PyProof.Rows L2
/-- a row of plates as it is handed in: the kind either way round -/
def RRow (H : Hp) (v : V) (p : (Nat × Nat) × Int) : Prop := ∃ t z, v = .ref t ∧ H t = some (.tup [.str z, .int p.2]) ∧ (z = K2 p.1 ∨ z = K2 (p.1.2, p.1.1))
theorem stb_row : Stb RRow := ⟨fun e ⟨t, z, h1, h2, h3⟩ => ⟨t, z, h1, e.tup h2, h3⟩, fun h ⟨t, z, h1, h2, h3⟩ => ⟨t, z, h1, stb_upd h h2 (by intro _ z; cases z), h3⟩⟩
def RowsAt (H : Hp) (a : Addr) (st : List ((Nat × Nat) × Int)) : Prop := ∃ vs, (H a = some (.lst vs) ∨ H a = some (.tup vs)) ∧ Paired (RRow H) vs st
theorem RowsAt.mono {b : Fb} {H H1 : Hp} {a : Addr} {st : List ((Nat × Nat) × Int)} (e : Fm b H H1) (h : RowsAt H a st) : RowsAt H1 a st := by
  obtain ⟨vs, h1, h2⟩ := h
  refine ⟨vs, h1.imp (fun z => e.lst z) (fun z => e.tup z), paired_imp h2 fun _ _ r => stb_row.mono e r⟩
/-- the places of a kind's sides -/
def kyK (F : Ft) : V → Int × List Int
  | .str z => (0, z.cps.toList.map fun c => ((F.rk c : Nat) : Int))
  | _ => (0, [])
theorem StOk.perm {F : Ft} {s t : List ((Nat × Nat) × Int)} (h : StOk F s) (p : t.Perm s) : StOk F t :=
  ⟨(p.map _).nodup_iff.mpr h.nd, fun x hx => h.ok x (p.mem_iff.mp hx), fun x hx => h.pos x (p.mem_iff.mp hx), fun x hx => h.le x (p.mem_iff.mp hx), by rw [p.length_eq]; exact h.len⟩
theorem StOk.nodup {F : Ft} {s : List ((Nat × Nat) × Int)} (h : StOk F s) : s.Nodup := by
  have := h.nd
  exact List.Pairwise.imp (fun hab e => hab (by rw [e])) (List.pairwise_map.mp this)
theorem StOk.val {F : Ft} {s : List ((Nat × Nat) × Int)} (h : StOk F s) {p : (Nat × Nat) × Int} (hp : p ∈ s) : valV (stK s) (kK p.1) = some (.int p.2) := by
  have hn : ((stK s).map (·.1)).Nodup := by
    unfold stK
    rw [List.map_map]
    have e : ((fun x : Key × V => x.1) ∘ fun p : (Nat × Nat) × Int => (kK p.1, V.int p.2)) = kK ∘ fun p : (Nat × Nat) × Int => p.1 := rfl
    rw [e, ← List.map_map]
    refine List.pairwise_map.mpr (List.Pairwise.imp (fun hab e => hab (kK_inj.mp e)) h.nd)
  exact valV_self hn (List.mem_map.mpr ⟨p, hp, rfl⟩)
/-- of equal kinds there is one -/
theorem StOk.inj {F : Ft} {s : List ((Nat × Nat) × Int)} (h : StOk F s) {p q : (Nat × Nat) × Int} (hp : p ∈ s) (hq : q ∈ s) (e : kK p.1 = kK q.1) : p = q := by
  have h1 := h.val hp
  have h2 := h.val hq
  rw [e, h2] at h1
  have e1 : q.2 = p.2 := by
    have := Option.some.inj h1
    exact V.int.inj this
  have e2 := kK_inj.mp e
  obtain ⟨p1, p2⟩ := p
  obtain ⟨q1, q2⟩ := q
  dsimp only at e1 e2
  rw [e1, e2]
theorem val_none : ∀ {kvs : List (Key × V)} {k : Key}, (∀ p ∈ kvs, p.1 ≠ k) → valV kvs k = none
  | [], _, _ => rfl
  | p :: kvs, k, h => by
    rw [valV_neg (h p (List.mem_cons_self ..))]
    exact val_none fun q hq => h q (List.mem_cons_of_mem _ hq)
section
variable (C : Ad) (G : List (Addr × Str))
def spKindKey : Sp := sp2 fun x y H Q => ∃ (f : Addr) (F : Ft) (k : Nat × Nat), x = .ref f ∧ FontAt C H f F ∧ y = .str (K2 k) ∧ ∀ H' p, Fs G H H' → H' p = some (.lst ((kyK F (.str (K2 k))).2.map V.int)) → Q (.ref p) H'
def spOrdered : Sp := sp2 fun x y H Q => ∃ (f d : Addr) (F : Ft) (st : List ((Nat × Nat) × Int)), x = .ref f ∧ FontAt C H f F ∧ y = .ref d ∧ H d = some (.dK (stK st)) ∧ StOk F st ∧ LamX.Tabs G H ∧
  ∀ H' p s2, Fs G H H' → Nw ⟨false, G⟩ H p → s2.Perm st → H' p = some (.dK (stK s2)) → Q (.ref p) H'
def spChecked : Sp := sp2 fun x y H Q => ∃ (f a : Addr) (F : Ft) (st : List ((Nat × Nat) × Int)), x = .ref f ∧ FontAt C H f F ∧ y = .ref a ∧ RowsAt H a st ∧ StOk F st ∧ LamX.Tabs G H ∧
  ∀ H' p s2, Fs G H H' → Nw ⟨false, G⟩ H p → s2.Perm st → H' p = some (.dK (stK s2)) → Q (.ref p) H'
def spPile : Sp := sp3 fun x y z H Q => ∃ (x' dx f d : Addr) (F : Ft) (st : List ((Nat × Nat) × Int)) (H0 : Hp), x = .ref x' ∧ y = .ref f ∧ z = .ref d ∧ H x' = some (.ins C.CC dx []) ∧ Fs G H0 H ∧ Nw ⟨false, G⟩ H0 x' ∧ FontU C H0 f F ∧ H d = some (.dK (stK st)) ∧ StOk F st ∧ LamX.Tabs G H0 ∧
  ∀ H' s2, Fs G H0 H' → s2.Perm st → CaseAt C H' x' f F s2 → Q .non H'
def spCaseInit : Sp := sp3 fun x y z H Q => ∃ (x' dx f a : Addr) (F : Ft) (st : List ((Nat × Nat) × Int)) (H0 : Hp), x = .ref x' ∧ y = .ref f ∧ z = .ref a ∧ H x' = some (.ins C.CC dx []) ∧ Fs G H0 H ∧ Nw ⟨false, G⟩ H0 x' ∧ FontU C H0 f F ∧ RowsAt H0 a st ∧ StOk F st ∧ LamX.Tabs G H0 ∧
  ∀ H' s2, Fs G H0 H' → s2.Perm st → CaseAt C H' x' f F s2 → Q .non H'
end
section
variable {X : Cx} {σ : L2.St} {H : Hp} {Q : VK} {te tb : TE}
theorem r_sortLam {i : Nat} {T : List (Addr × Str)} (h : te σ H fun v H1 => LamX.Tabs T H1 ∧ ∃ (xs : List V) (c : KyS) (k : V → Int × List Int) (pn : Bool), CollX X H1 v xs ∧
  (∀ y ∈ xs, ∀ H', Fm ⟨pn, T⟩ H1 H' → tb (σ.set i (some y)) H' fun v H2 => Fm ⟨pn, T⟩ H' H2 ∧ KyAt H2 c v (k y)) ∧ ∀ H2 p, Fm ⟨pn, T⟩ H1 H2 → Nw ⟨pn, T⟩ H1 p → H2 p = some (.lst (xs.mergeSort (kyLe c k))) → Q (.ref p) H2) : tSortLam X i T tb te σ H Q := h
end
end Hy
namespace Hy
open PySem PySem.Spec PyProof.Rows L2
/-- the pen: its cells, how many draws are behind it, what is left of a big cell; b draws are still allowed -/
def penK (a : Addr) (u l : Int) : List (Key × V) := [(.inr ("cells" : Str), .ref a), (.inr ("used" : Str), .int u), (.inr ("left" : Str), .int l)]
structure PenI where
  p : Addr
  a : Addr
  L : List Int
def Pen (H : Hp) (p : PenI) (b : Nat) : Prop := ∃ (u l : Int), H p.p = some (.dK (penK p.a u l)) ∧ H p.a = some (.lst (p.L.map V.int)) ∧ p.L.length ≤ 63 ∧ 0 ≤ u ∧ u + (b : Int) ≤ 281474976710656 ∧ 0 ≤ l
theorem Pen.mono {T : List (Addr × Str)} {H H1 : Hp} {p : PenI} {b : Nat} (e : Fm ⟨false, T⟩ H H1) (h : Pen H p b) : Pen H1 p b := by
  obtain ⟨u, l, h1, h2, h3⟩ := h
  exact ⟨u, l, e.kp _ _ h1 rfl, e.lst h2, h3⟩
theorem Pen.less {H : Hp} {p : PenI} {b c : Nat} (h : Pen H p b) (hc : c ≤ b) : Pen H p c := by
  obtain ⟨u, l, h1, h2, h3, h4, h5, h6⟩ := h
  exact ⟨u, l, h1, h2, h3, h4, by omega, h6⟩
/-- the pen changes, all else stays -/
theorem Fm.pen {T : List (Addr × Str)} {H : Hp} {p a : Addr} {u l : Int} {o : HO} (h : H p = some (.dK (penK a u l))) : Fm ⟨true, T⟩ H (upd H p o) := Fm.chg h rfl rfl
section
variable (G : List (Addr × Str))
/-- a draw: numbers up to M, c more draws within -/
def spDraw (M : Int) (c : Nat) : Sp := sp2 fun x y H Q => ∃ (p : PenI) (b : Nat) (m : Int), x = .ref p.p ∧ y = .int m ∧ 0 < m ∧ m ≤ M ∧ Pen H p (b + c) ∧ ∀ H' d, Fr G H H' → Pen H' p b → 0 ≤ d → d < m → Q (.int d) H'
end
/-- a list against the empty one -/
theorem r_neE {K : PySem.W.Frag} {H : Hp} {Q : VK} {a e : Addr} {xs : List V} (ha : H a = some (.lst xs)) (he : H e = some (.lst [])) (hs : ∃ ds, DpAll K H xs ds ∧ SeqAt.shaped (.list ds) = true) (q : Q (.bl (!decide (xs = []))) H) : rNeD K (.ref a) (.ref e) H Q := by
  obtain ⟨ds, h1, h2⟩ := hs
  refine ⟨.list ds, .list [], .lst (SqL.of ha) h1, .lst (SqL.of he) .nil, h2, by decide, ?_⟩
  have e1 : PyData.eqv (.list ds) (.list []) = decide (xs = []) := by
    cases h1 with
    | nil => rfl
    | cons _ _ => rfl
  rw [e1]
  exact q
/-- a thing that lists are compared by -/
def Plain (K : PySem.W.Frag) (H : Hp) (x : V) : Prop := ∃ d, Dp K H x d ∧ d.canLay0 = true ∧ d.depth ≤ 1
theorem plain_all {K : PySem.W.Frag} {H : Hp} : ∀ {xs : List V}, (∀ x ∈ xs, Plain K H x) → ∃ ds, DpAll K H xs ds ∧ SeqAt.shaped (.list ds) = true := by
  have key : ∀ xs : List V, (∀ x ∈ xs, Plain K H x) → ∃ ds, DpAll K H xs ds ∧ PyData.canLayAll0 ds = true ∧ PyData.depthAll ds ≤ 1 := by
    intro xs
    induction xs with
    | nil => exact fun _ => ⟨[], .nil, rfl, Nat.zero_le _⟩
    | cons x xs ih =>
      intro h
      obtain ⟨d, h1, h2, h3⟩ := h x (List.mem_cons_self ..)
      obtain ⟨ds, g1, g2, g3⟩ := ih fun y hy => h y (List.mem_cons_of_mem _ hy)
      refine ⟨d :: ds, .cons h1 g1, ?_, ?_⟩
      · show (d.canLay0 && PyData.canLayAll0 ds) = true
        rw [h2, g2]
        rfl
      · show max d.depth (PyData.depthAll ds) ≤ 1
        omega
  intro xs h
  obtain ⟨ds, h1, h2, h3⟩ := key xs h
  refine ⟨ds, h1, ?_⟩
  unfold SeqAt.shaped
  rw [Bool.and_eq_true]
  refine ⟨h2, decide_eq_true ?_⟩
  show PyData.depthAll ds + 1 ≤ 64
  omega
theorem plain_int {K : PySem.W.Frag} {H : Hp} (i : Int) : Plain K H (.int i) := ⟨_, .int i, rfl, Nat.zero_le _⟩
theorem plain_str {K : PySem.W.Frag} {H : Hp} {z : Str} (h : PyData.canLay0 (.str z) = true) : Plain K H (.str z) := ⟨_, .str z, h, Nat.zero_le _⟩
/-- what of the pen is read by its names -/
theorem pen_cells (a : Addr) (u l : Int) : valV (penK a u l) (.inr ("cells" : Str)) = some (.ref a) := rfl
theorem pen_used (a : Addr) (u l : Int) : valV (penK a u l) (.inr ("used" : Str)) = some (.int u) := rfl
theorem pen_left (a : Addr) (u l : Int) : valV (penK a u l) (.inr ("left" : Str)) = some (.int l) := rfl
theorem pen_put_used (a : Addr) (u l v : Int) : putK (penK a u l) (.inr ("used" : Str)) (.int v) = penK a v l := rfl
theorem pen_put_left (a : Addr) (u l v : Int) : putK (penK a u l) (.inr ("left" : Str)) (.int v) = penK a u v := rfl
end Hy
namespace Hy
open PySem PySem.Spec PyProof.Rows L2
abbrev NwR (G : List (Addr × Str)) (H : Hp) (a : Addr) : Prop := Nw ⟨true, G⟩ H a
section
variable (K : PySem.W.Frag) (G : List (Addr × Str))
abbrev spDrw : Sp := spDraw G 10000000000000000000000000000000 4
def spPick : Sp := sp2 fun x y H Q => ∃ (p : PenI) (b : Nat) (a : Addr) (xs : List V), x = .ref p.p ∧ y = .ref a ∧ H a = some (.lst xs) ∧ xs ≠ [] ∧ xs.length ≤ 1000 ∧ Pen H p (b + 4) ∧ ∀ H' v, Fr G H H' → Pen H' p b → v ∈ xs → Q v H'
/-- what is to be shuffled: a text's signs or a list -/
def ShufIn (H : Hp) (y : V) (xs : List V) : Prop := (∃ l : List Nat, y = .str ⟨l.toArray⟩ ∧ xs = l.map vS ∧ ∀ c ∈ l, c < 128) ∨ ∃ a, y = .ref a ∧ H a = some (.lst xs)
def spShuf : Sp := sp2 fun x y H Q => ∃ (p : PenI) (b : Nat) (xs : List V), x = .ref p.p ∧ ShufIn H y xs ∧ xs.length ≤ 64 ∧ (∀ H', Fr G H H' → ∀ v ∈ xs, Plain K H' v) ∧ Pen H p (b + 4 * xs.length) ∧
  ∀ H' a ys, Fr G H H' → NwR G H a → Pen H' p b → ys.Perm xs → H' a = some (.lst ys) → Q (.ref a) H'
end
theorem r_while {c : TT} {tb : TS} {D : Ends} {σ : L2.St} {H : Hp} (Pv : Nat → L2.St → Hp → Prop) (h0 : ∃ m, Pv m σ H)
    (hs : ∀ m σ H, Pv m σ H → c σ H fun b H1 => if b = true then tb { D with nx := fun σ' H' => ∃ m', m' < m ∧ Pv m' σ' H', ct := fun σ' H' => ∃ m', m' < m ∧ Pv m' σ' H', bk := D.nx } σ H1 else D.nx σ H1)
    (hc : ∀ (σ : L2.St) (H : Hp) (A B : Bool → Hp → Prop), (∀ b H1, A b H1 → B b H1) → c σ H A → c σ H B) : tWhile c tb D σ H := by
  refine ⟨Pv, h0, fun m σ H p => hc σ H _ _ (fun b H1 h => ?_) (hs m σ H p)⟩
  cases b with
  | true =>
    have h := h
    rw [if_pos rfl] at h ⊢
    exact ⟨_, fun _ _ z => z, h⟩
  | false =>
    rw [if_neg (by decide)] at h ⊢
    exact h
end Hy
namespace Hy
open PySem PySem.Spec PyProof.Rows L2
theorem r_bm0 {σ : L2.St} {H : Hp} {Q : VK} {K : PySem.W.Frag} {T : String} {r : V → List V → Hp → VK → Prop} {to : TE} (h : to σ H fun x H1 => tyV K T x H1 ∧ r x [] H1 Q) : tBM0 K T r to σ H Q := h
theorem Pen.upd {H : Hp} {p : PenI} {b : Nat} {a : Addr} {o : HO} (h : Pen H p b) (n1 : p.p ≠ a) (n2 : p.a ≠ a) : Pen (upd H a o) p b := by
  obtain ⟨u, l, h1, h2, h3⟩ := h
  exact ⟨u, l, (upd_ne n1).trans h1, (upd_ne n2).trans h2, h3⟩
/-- a list that the start did not know is not the pen's -/
theorem Pen.neL {G : List (Addr × Str)} {H H' : Hp} {p : PenI} {b c : Nat} {a : Addr} {xs : List V} (h0 : Pen H p b) (n : NwR G H a) (h : Pen H' p c) (g : H' a = some (.lst xs)) : p.p ≠ a ∧ p.a ≠ a := by
  obtain ⟨_, _, _, j2, _⟩ := h0
  obtain ⟨_, _, k1, _⟩ := h
  exact ⟨ne_of k1 g (by intro z; cases z), n.ne j2 rfl⟩
theorem perm_map_inv {α β : Type} {f : α → β} {g : β → α} (h : ∀ a, g (f a) = a) {ys : List β} {l : List α} (p : ys.Perm (l.map f)) : ∃ l' : List α, ys = l'.map f ∧ l'.Perm l := by
  refine ⟨ys.map g, ?_, ?_⟩
  · rw [List.map_map]
    refine (List.map_id' ys).symm.trans (List.map_congr_left fun y hy => ?_)
    obtain ⟨a, _, rfl⟩ := List.mem_map.mp (p.mem_iff.mp hy)
    show f a = f (g (f a))
    rw [h]
  · have := p.map g
    rw [List.map_map] at this
    have e : l.map (g ∘ f) = l := by
      refine (List.map_congr_left fun a _ => ?_).trans (List.map_id' l)
      exact h a
    rw [e] at this
    exact this
theorem plain_vs {K : PySem.W.Frag} {l : List Nat} (hl : ∀ c ∈ l, c < 128) (H' : Hp) : ∀ v ∈ l.map vS, Plain K H' v := fun v hv => by
  obtain ⟨c, hc, rfl⟩ := List.mem_map.mp hv
  refine plain_str ?_
  show ((#[c] : Array Nat).all (· < 0x110000)) = true
  have := hl c hc
  simp
  omega
def unS : V → Nat
  | .str z => z.cps.toList.headD 0
  | _ => 0
theorem unS_vS (c : Nat) : unS (vS c) = c := rfl
/-- a font as the law keeps it -/
def LFAt (H : Hp) (lf : Addr) (F : Ft) : Prop := F.Ok ∧ ∃ h hk, H lf = some (.tup [.str F.W, .ref h]) ∧ Rd H h (.dK hk) ∧ hdK F hk
theorem LFAt.mono {b : Fb} {H H1 : Hp} {lf : Addr} {F : Ft} (e : Fm b H H1) (h : LFAt H lf F) : LFAt H1 lf F := by
  obtain ⟨o, a, hk, h1, h2, h3⟩ := h
  exact ⟨o, a, hk, e.tup h1, e.rdK h2 (dOk_hd h3), h3⟩
theorem LFAt.lock {H : Hp} {lf d : Addr} {F : Ft} {kvs : List (Key × V)} {od : Obj} (hd : H d = some (.dK kvs)) (h : LFAt H lf F) : LFAt (upd H d (.frz od (.dK kvs))) lf F := by
  obtain ⟨o, a, hk, h1, h2, h3⟩ := h
  exact ⟨o, a, hk, (upd_ne (ne_of h1 hd (by intro z; cases z))).trans h1, rd_lock hd (fun _ _ z => nomatch z) h2, h3⟩
/-- the heads while they are drawn -/
structure HdW (ws rem : List Nat) (hd : Nat → Option Nat) (kvs : List (Key × V)) : Prop where
  val : ∀ c, valV kvs (kS c) = (hd c).map vS
  ent : ∀ p ∈ kvs, (∃ c, p.1 = kS c) ∧ ∃ c, p.2 = vS c
  nd : (kvs.map (·.1)).Nodup
  ok : ∀ c d, hd c = some d → c ∈ ws ∧ d ∈ ws ∧ hd d = some c ∧ c ∉ rem ∧ d ∉ rem
theorem HdW.zero (ws rem : List Nat) : HdW ws rem (fun _ => none) [] := ⟨fun _ => rfl, fun p h => (by cases h), .nil, fun c d h => by cases h⟩
theorem HdW.less {ws rem rem' : List Nat} {hd : Nat → Option Nat} {kvs : List (Key × V)} (h : HdW ws rem hd kvs) (s : ∀ c ∈ rem', c ∈ rem) : HdW ws rem' hd kvs :=
  ⟨h.val, h.ent, h.nd, fun c d e => by
    obtain ⟨h1, h2, h3, h4, h5⟩ := h.ok c d e
    exact ⟨h1, h2, h3, fun z => h4 (s _ z), fun z => h5 (s _ z)⟩⟩
/-- a pair is put in, one sign with itself too -/
theorem HdW.pair {ws rem rem' : List Nat} {hd : Nat → Option Nat} {kvs : List (Key × V)} {a b : Nat} (h : HdW ws rem hd kvs) (ha : a ∈ rem) (hb : b ∈ rem) (haw : a ∈ ws) (hbw : b ∈ ws) (s : ∀ c ∈ rem', c ∈ rem) (na : a ∉ rem') (nb : b ∉ rem') :
    HdW ws rem' (fun c => if c = b then some a else if c = a then some b else hd c) (putK (putK kvs (kS a) (vS b)) (kS b) (vS a)) := by
  refine ⟨fun c => ?_, fun p hp => ?_, nd_put _ _ (nd_put _ _ h.nd), fun c d e => ?_⟩
  · rw [valV_put, valV_put, h.val c]
    by_cases e1 : c = b
    · subst e1
      rw [if_pos rfl, if_pos rfl]
      rfl
    · rw [if_neg (fun z => e1 (kS_inj.mp z)), if_neg e1]
      by_cases e2 : c = a
      · subst e2
        rw [if_pos rfl, if_pos rfl]
        rfl
      · rw [if_neg (fun z => e2 (kS_inj.mp z)), if_neg e2]
  · rcases mem_put hp with hp | ⟨e1, e2⟩
    · rcases mem_put hp with hp | ⟨e1, e2⟩
      · exact h.ent p hp
      · exact ⟨⟨a, e2⟩, b, e1⟩
    · exact ⟨⟨b, e2⟩, a, e1⟩
  · have hout : ∀ c d, hd c = some d → c ≠ a ∧ c ≠ b ∧ d ≠ a ∧ d ≠ b := fun c d e => by
      obtain ⟨_, _, _, h4, h5⟩ := h.ok c d e
      exact ⟨fun z => h4 (z ▸ ha), fun z => h4 (z ▸ hb), fun z => h5 (z ▸ ha), fun z => h5 (z ▸ hb)⟩
    by_cases e1 : c = b
    · rw [if_pos e1] at e
      cases e
      subst e1
      refine ⟨hbw, haw, ?_, nb, na⟩
      by_cases e3 : a = c
      · rw [if_pos e3, e3]
      · rw [if_neg e3, if_pos rfl]
    · rw [if_neg e1] at e
      by_cases e2 : c = a
      · rw [if_pos e2] at e
        cases e
        subst e2
        exact ⟨haw, hbw, by rw [if_pos rfl], na, nb⟩
      · rw [if_neg e2] at e
        obtain ⟨h1, h2, h3, h4, h5⟩ := h.ok c d e
        obtain ⟨o1, o2, o3, o4⟩ := hout c d e
        exact ⟨h1, h2, by rw [if_neg o4, if_neg o3]; exact h3, fun z => h4 (s _ z), fun z => h5 (s _ z)⟩
theorem HdW.self {ws rem rem' : List Nat} {hd : Nat → Option Nat} {kvs : List (Key × V)} {a : Nat} (h : HdW ws rem hd kvs) (ha : a ∈ rem) (haw : a ∈ ws) (s : ∀ c ∈ rem', c ∈ rem) (na : a ∉ rem') :
    HdW ws rem' (fun c => if c = a then some a else hd c) (putK kvs (kS a) (vS a)) := by
  refine ⟨fun c => ?_, fun p hp => ?_, nd_put _ _ h.nd, fun c d e => ?_⟩
  · rw [valV_put, h.val c]
    by_cases e1 : c = a
    · subst e1
      rw [if_pos rfl, if_pos rfl]
      rfl
    · rw [if_neg (fun z => e1 (kS_inj.mp z)), if_neg e1]
  · rcases mem_put hp with hp | ⟨e1, e2⟩
    · exact h.ent p hp
    · exact ⟨⟨a, e2⟩, a, e1⟩
  · by_cases e1 : c = a
    · rw [if_pos e1] at e
      cases e
      subst e1
      exact ⟨haw, haw, by rw [if_pos rfl], na, na⟩
    · rw [if_neg e1] at e
      obtain ⟨h1, h2, h3, h4, h5⟩ := h.ok c d e
      have o4 : d ≠ a := fun z => h5 (z ▸ ha)
      exact ⟨h1, h2, by rw [if_neg o4]; exact h3, fun z => h4 (s _ z), fun z => h5 (s _ z)⟩
section
variable (G : List (Addr × Str))
def spLFont : Sp := sp3 fun x y z H Q => ∃ (p : PenI) (b : Nat), x = .ref p.p ∧ y = .int 2 ∧ z = .int 5 ∧ Pen H p (b + 2000) ∧ ∀ H' lf F, Fr G H H' → Pen H' p b → LFAt H' lf F → Q (.ref lf) H'
end
end Hy
namespace Hy
open PySem PySem.Spec PyProof.Rows L2
theorem mergeK_app : ∀ (more kvs : List (Key × V)), ((kvs ++ more).map (·.1)).Nodup → mergeK kvs more = kvs ++ more
  | [], kvs, _ => (List.append_nil kvs).symm
  | p :: r, kvs, h => by
    show mergeK (putK kvs p.1 p.2) r = kvs ++ p :: r
    have hn : ∀ q ∈ kvs, q.1 ≠ p.1 := fun q hq e => by
      rw [List.map_append, List.nodup_append] at h
      exact h.2.2 q.1 (List.mem_map.mpr ⟨q, hq, rfl⟩) p.1 (List.mem_cons_self ..) e
    rw [put_fresh hn, mergeK_app r (kvs ++ [(p.1, p.2)]) (by rw [List.append_assoc]; exact h), List.append_assoc]
    rfl
theorem mergeK_nd {kvs : List (Key × V)} (h : (kvs.map (·.1)).Nodup) : mergeK [] kvs = kvs := mergeK_app kvs [] h
theorem pr_split {H : Hp} : ∀ {vs : List V} {kvs : List (Key × V)}, Paired (RPr H) vs kvs → ∃ ps : List Addr, vs = ps.map V.ref ∧ Paired (fun p kv => H p = some (.tup [kV kv.1, kv.2])) ps kvs
  | _, _, .nil => ⟨[], rfl, .nil⟩
  | _, _, .cons a t => by
    obtain ⟨ps, h1, h2⟩ := pr_split t
    obtain ⟨x, rfl, hx⟩ := a
    exact ⟨x :: ps, by rw [h1]; rfl, .cons hx h2⟩
theorem r_dictPr {K : PySem.W.Frag} {H : Hp} {Q : VK} {a : Addr} {vs : List V} {kvs : List (Key × V)} (ha : H a = some (.lst vs)) (hp : Paired (RPr H) vs kvs) (nd : (kvs.map (·.1)).Nodup) (q : ∀ p, H p = none → Q (.ref p) (upd H p (.dK kvs))) : rDictP K [.ref a] H Q := by
  obtain ⟨ps, h1, h2⟩ := pr_split hp
  refine ⟨a, ps, kvs, rfl, SqL.of (by rw [ha, h1]), paired_imp h2 fun p kv h => SqT.of h, fun p hn => ?_⟩
  rw [mergeK_nd nd]
  exact q p hn
theorem Pen.ne {H : Hp} {p : PenI} {b : Nat} (h : Pen H p b) {a : Addr} (ha : H a = none) : p.p ≠ a ∧ p.a ≠ a := by
  obtain ⟨_, _, h1, h2, _⟩ := h
  exact ⟨ne_of_none h1 ha, ne_of_none h2 ha⟩
theorem Pen.neD {H : Hp} {p : PenI} {b : Nat} (h : Pen H p b) {a : Addr} {kvs : List (Key × V)} (ha : H a = some (.dK kvs)) (k : dOk kvs) : p.p ≠ a ∧ p.a ≠ a := by
  obtain ⟨u, l, h1, h2, _⟩ := h
  refine ⟨fun e => ?_, ne_of h2 ha (by intro z; cases z)⟩
  rw [e, ha] at h1
  have e2 := HO.dK.inj (Option.some.inj h1)
  exact k (.ref p.a) (by rw [e2]; rfl)
theorem Pen.lock {H : Hp} {p : PenI} {b : Nat} (h : Pen H p b) {d : Addr} {kvs : List (Key × V)} (hd : H d = some (.dK kvs)) (k : dOk kvs) {o : HO} : Pen (L2.upd H d o) p b := by
  have n := h.neD hd k
  exact h.upd n.1 n.2
theorem Pen.unlock {H : Hp} {p : PenI} {b : Nat} (h : Pen H p b) {d : Addr} {od : Obj} {u o : HO} (hd : H d = some (.frz od u)) : Pen (L2.upd H d o) p b := by
  obtain ⟨_, _, h1, h2, _⟩ := id h
  exact h.upd (ne_of h1 hd (by intro z; cases z)) (ne_of h2 hd (by intro z; cases z))
/-- behind i turns of a comprehension that draws: what is in the list is told by T -/
def Lx {α : Type} (b : Fb) (R : Hp → V → α → Prop) (H1 : Hp) (D : Addr) (T : Nat → List α → Prop) (p : PenI) (c : Nat → Nat) (i : Nat) (H : Hp) : Prop := Fm b H1 H ∧ (∃ vs as, H D = some (.lst vs) ∧ Paired (R H) vs as ∧ T i as ∧ as.length ≤ 1000) ∧ Pen H p (c i)
section
variable {α : Type} {b : Fb} {R : Hp → V → α → Prop} {H1 H H4 : Hp} {D : Addr} {T : Nat → List α → Prop} {pi : PenI} {c : Nat → Nat} {i : Nat} {y : V} {a : α}
theorem Lx.start (hD : H1 D = none) (t : T 0 []) (hp : Pen H1 pi (c 0)) : Lx b R H1 D T pi c 0 (upd H1 D (.lst [])) := ⟨Fm.new hD, ⟨[], [], upd_same, .nil, t, Nat.zero_le _⟩, hp.upd (hp.ne hD).1 (hp.ne hD).2⟩
theorem Lx.add (p : Lx b R H1 D T pi c i H) (st : Stb R) {c0 : Nat} (hp0 : Pen H1 pi c0) (hD : H1 D = none) (e : Fm b H H4) (hr : R H4 y a) (hp : Pen H4 pi (c (i + 1))) (hl : ∀ as, T i as → as.length ≤ 999) (hs : ∀ as, T i as → T (i + 1) (as ++ [a])) :
    ∃ acc, H4 D = some (.lst acc) ∧ acc.length < sizeLine ∧ Lx b R H1 D T pi c (i + 1) (upd H4 D (.lst (acc ++ [y]))) := by
  obtain ⟨e1, ⟨vs, as, h1, h2, h3, h5⟩, _⟩ := p
  have h4 := e.lst h1
  have hl1 := hl as h3
  refine ⟨vs, h4, ?_, (e1.trans e).edit (Nw.of hD) h4 rfl, ⟨vs ++ [y], as ++ [a], upd_same, Paired.snoc (paired_imp h2 fun x z r => st.lst h4 (st.mono e r)) (st.lst h4 hr), hs as h3, ?_⟩, hp.upd (hp0.ne hD).1 (hp0.ne hD).2⟩
  · rw [Paired.length h2]
    exact Nat.lt_of_le_of_lt (show as.length ≤ 1000 by omega) (by decide)
  · rw [List.length_append]
    show as.length + 1 ≤ 1000
    omega
theorem Lx.skip (p : Lx b R H1 D T pi c i H) (st : Stb R) (e : Fm b H H4) (hp : Pen H4 pi (c (i + 1))) (hs : ∀ as, T i as → T (i + 1) as) : Lx b R H1 D T pi c (i + 1) H4 := by
  obtain ⟨e1, ⟨vs, as, h1, h2, h3, h5⟩, _⟩ := p
  exact ⟨e1.trans e, ⟨vs, as, e.lst h1, paired_imp h2 fun x z r => st.mono e r, hs as h3, h5⟩, hp⟩
end
theorem perm_map_ex {α β : Type} {f : α → β} {ys xs : List β} (p : ys.Perm xs) : ∀ {l : List α}, xs = l.map f → ∃ l' : List α, ys = l'.map f ∧ l'.Perm l := by
  induction p with
  | nil =>
    intro l e
    have : l = [] := List.map_eq_nil_iff.mp e.symm
    exact ⟨[], rfl, by rw [this]⟩
  | cons x p ih =>
    intro l e
    cases l with
    | nil => cases e
    | cons a l =>
      rw [List.map_cons] at e
      obtain ⟨e1, e2⟩ := List.cons.inj e
      obtain ⟨l', h1, h2⟩ := ih e2
      exact ⟨a :: l', by rw [h1, e1]; rfl, h2.cons a⟩
  | swap x y zs =>
    intro l e
    match l, e with
    | a :: b :: l, e =>
      rw [List.map_cons, List.map_cons] at e
      obtain ⟨e1, e2⟩ := List.cons.inj e
      obtain ⟨e3, e4⟩ := List.cons.inj e2
      exact ⟨b :: a :: l, by rw [e1, e3, e4]; rfl, .swap a b l⟩
  | trans p1 p2 ih1 ih2 =>
    intro l e
    obtain ⟨l1, h1, h2⟩ := ih2 e
    obtain ⟨l2, h3, h4⟩ := ih1 h1
    exact ⟨l2, h3, h4.trans h2⟩
theorem upd_comm {H : Hp} {a b : Addr} {x y : HO} (h : a ≠ b) : upd (upd H a x) b y = upd (upd H b y) a x := by
  funext c
  by_cases e1 : c = b
  · subst e1
    rw [upd_same, upd_ne (Ne.symm h), upd_same]
  · rw [upd_ne e1]
    by_cases e2 : c = a
    · subst e2
      rw [upd_same, upd_same]
    · rw [upd_ne e2, upd_ne e2, upd_ne e1]
theorem Nw.weak {T : List (Addr × Str)} {H : Hp} {p : Addr} (n : Nw ⟨false, T⟩ H p) : Nw ⟨true, T⟩ H p := fun o h => by
  have := n o h
  cases o with
  | tbl ps => rfl
  | dK kvs =>
    cases kvs with
    | nil => cases this
    | cons q r =>
      obtain ⟨k, v⟩ := q
      cases k with
      | inl i => cases this
      | inr z => cases this
  | _ => cases this
/-- as Lx, without a pen -/
def Ly {α : Type} (b : Fb) (R : Hp → V → α → Prop) (H1 : Hp) (D : Addr) (T : Nat → List α → Prop) (i : Nat) (H : Hp) : Prop := Fm b H1 H ∧ ∃ vs as, H D = some (.lst vs) ∧ Paired (R H) vs as ∧ T i as ∧ as.length ≤ 1000
section
variable {α : Type} {b : Fb} {R : Hp → V → α → Prop} {H1 H H4 : Hp} {D : Addr} {T : Nat → List α → Prop} {i : Nat} {y : V} {a : α}
theorem Ly.start (hD : H1 D = none) (t : T 0 []) : Ly b R H1 D T 0 (upd H1 D (.lst [])) := ⟨Fm.new hD, [], [], upd_same, .nil, t, Nat.zero_le _⟩
theorem Ly.add (p : Ly b R H1 D T i H) (st : Stb R) (hD : H1 D = none) (e : Fm b H H4) (hr : R H4 y a) (hl : ∀ as, T i as → as.length ≤ 999) (hs : ∀ as, T i as → T (i + 1) (as ++ [a])) :
    ∃ acc, H4 D = some (.lst acc) ∧ acc.length < sizeLine ∧ Ly b R H1 D T (i + 1) (upd H4 D (.lst (acc ++ [y]))) := by
  obtain ⟨e1, vs, as, h1, h2, h3, h5⟩ := p
  have h4 := e.lst h1
  have hl1 := hl as h3
  refine ⟨vs, h4, ?_, (e1.trans e).edit (Nw.of hD) h4 rfl, vs ++ [y], as ++ [a], upd_same, Paired.snoc (paired_imp h2 fun x z r => st.lst h4 (st.mono e r)) (st.lst h4 hr), hs as h3, ?_⟩
  · rw [Paired.length h2]
    exact Nat.lt_of_le_of_lt (show as.length ≤ 1000 by omega) (by decide)
  · rw [List.length_append]
    show as.length + 1 ≤ 1000
    omega
theorem Ly.skip (p : Ly b R H1 D T i H) (st : Stb R) (e : Fm b H H4) (hs : ∀ as, T i as → T (i + 1) as) : Ly b R H1 D T (i + 1) H4 := by
  obtain ⟨e1, vs, as, h1, h2, h3, h5⟩ := p
  exact ⟨e1.trans e, vs, as, e.lst h1, paired_imp h2 fun x z r => st.mono e r, hs as h3, h5⟩
end
theorem tabs_unlock {T : List (Addr × Str)} {H : Hp} {d : Addr} {od : Obj} {u : HO} (t : LamX.Tabs T (upd H d (.frz od u))) : LamX.Tabs T H := by
  intro qq hq
  obtain ⟨ps, t1, t2, t3⟩ := t qq hq
  refine ⟨ps, ?_, t2, fun pos cv hcv => ?_⟩
  · by_cases ea : qq.1 = d
    · rw [ea, upd_same] at t1
      cases t1
    · rw [upd_ne ea] at t1
      exact t1
  · obtain ⟨cc, y1, y2⟩ := t3 pos cv hcv
    refine ⟨cc, y1, ?_⟩
    by_cases ea : cc = d
    · rw [ea, upd_same] at y2
      cases y2
    · rw [upd_ne ea] at y2
      exact y2
/-- both ends of a frame with the same thing locked -/
theorem lock_both {b : Fb} {H H1 : Hp} {d : Addr} {od : Obj} {u : HO} (e : Fm b H H1) (hd : H d = some u) (hd1 : H1 d = some u) (hs : solid u = true := by rfl) : Fm b (upd H d (.frz od u)) (upd H1 d (.frz od u)) := by
  refine ⟨fun a o' ha hl => ?_, fun t => ?_⟩
  · by_cases ea : a = d
    · subst ea
      rw [upd_same] at ha ⊢
      exact ha
    · rw [upd_ne ea] at ha ⊢
      exact e.kp a o' ha hl
  · exact tabs_upd (e.tb (tabs_unlock t)) fun u' hu => by
      rw [hd1] at hu
      cases hu
      exact hs
theorem nd_len {α : Type} [DecidableEq α] : ∀ {l m : List α}, l.Nodup → (∀ x ∈ l, x ∈ m) → l.length ≤ m.length
  | [], _, _, _ => Nat.zero_le _
  | a :: l, m, nd, h => by
    have h0 := List.nodup_cons.mp nd
    have ha := h a (List.mem_cons_self ..)
    have h3 := nd_len (l := l) (m := m.erase a) h0.2 fun x hx => (List.mem_erase_of_ne (fun (e : x = a) => h0.1 (by rw [← e]; exact hx))).mpr (h x (List.mem_cons_of_mem _ hx))
    rw [List.length_erase_of_mem ha] at h3
    have := List.length_pos_of_mem ha
    rw [List.length_cons]
    omega
theorem stK_nd {zs : List ((Nat × Nat) × Int)} (h : (zs.map (·.1)).Nodup) : ((stK zs).map (·.1)).Nodup := by
  unfold stK
  rw [List.map_map]
  have e : ((fun x : Key × V => x.1) ∘ fun p : (Nat × Nat) × Int => (kK p.1, V.int p.2)) = kK ∘ fun p : (Nat × Nat) × Int => p.1 := rfl
  rw [e, ← List.map_map]
  exact List.pairwise_map.mpr (List.Pairwise.imp (fun hab e => hab (kK_inj.mp e)) h)
def pl (F : Ft) (i : Nat) : Nat := (F.ws ++ [45]).getD i 0
def kRow (F : Ft) (i : Nat) : List (Nat × Nat) := (List.range (F.n + 1 - i)).map fun j => (pl F i, pl F (i + j))
def kinds (F : Ft) : List (Nat × Nat) := (List.range F.n).flatMap (kRow F)
def vK (k : Nat × Nat) : V := .str (K2 k)
theorem pl_lt {F : Ft} {i : Nat} (h : i < F.n) : pl F i = F.ws[i]'h := by
  unfold pl
  rw [List.getD_eq_getElem?_getD, List.getElem?_append_left h, List.getElem?_eq_getElem h]
  rfl
theorem pl_n (F : Ft) : pl F F.n = 45 := by
  unfold pl Ft.n
  rw [List.getD_eq_getElem?_getD, List.getElem?_append_right (Nat.le_refl _), Nat.sub_self]
  rfl
theorem pl_rk {F : Ft} {c : Nat} (h : c ∈ F.ws) : pl F (F.rk c) = c := by
  have h1 : F.rk c < F.n := List.idxOf_lt_length_of_mem h
  rw [pl_lt h1]
  exact List.getElem_idxOf h1
theorem rk_pl {F : Ft} (o : F.Ok) {i : Nat} (h : i < F.n) : F.rk (pl F i) = i := by
  rw [pl_lt h]
  exact o.nd.idxOf_getElem i h
theorem pl_mem {F : Ft} {i : Nat} (h : i < F.n) : pl F i ∈ F.ws := by
  rw [pl_lt h]
  exact List.getElem_mem _
theorem pl_inj {F : Ft} (o : F.Ok) {a b : Nat} (ha : a ≤ F.n) (hb : b ≤ F.n) (e : pl F a = pl F b) : a = b := by
  rcases Nat.lt_or_eq_of_le ha with h1 | h1
  · rcases Nat.lt_or_eq_of_le hb with h2 | h2
    · have := congrArg F.rk e
      rwa [rk_pl o h1, rk_pl o h2] at this
    · subst h2
      rw [pl_n] at e
      exact absurd e (Ft.ne45 o (pl_mem h1))
  · subst h1
    rcases Nat.lt_or_eq_of_le hb with h2 | h2
    · rw [pl_n] at e
      exact absurd e.symm (Ft.ne45 o (pl_mem h2))
    · exact h2.symm
theorem kinds_mem {F : Ft} (o : F.Ok) {k : Nat × Nat} : k ∈ kinds F ↔ F.kOk k := by
  unfold kinds
  rw [List.mem_flatMap]
  constructor
  · rintro ⟨i, hi, hk⟩
    have hi := List.mem_range.mp hi
    obtain ⟨j, hj, rfl⟩ := List.mem_map.mp hk
    have hj := List.mem_range.mp hj
    refine ⟨pl_mem hi, ?_⟩
    by_cases e : i + j = F.n
    · left
      show pl F (i + j) = 45
      rw [e, pl_n]
    · right
      have h2 : i + j < F.n := by omega
      refine ⟨pl_mem h2, ?_⟩
      show F.rk (pl F i) ≤ F.rk (pl F (i + j))
      rw [rk_pl o hi, rk_pl o h2]
      omega
  · rintro ⟨h1, h2⟩
    obtain ⟨a, b⟩ := k
    dsimp only at h1 h2
    have ha : F.rk a < F.n := List.idxOf_lt_length_of_mem h1
    refine ⟨F.rk a, List.mem_range.mpr ha, List.mem_map.mpr ?_⟩
    rcases h2 with h2 | ⟨h2, h3⟩
    · refine ⟨F.n - F.rk a, List.mem_range.mpr (by omega), ?_⟩
      have e : F.rk a + (F.n - F.rk a) = F.n := by omega
      rw [e, pl_rk h1, pl_n, h2]
    · have hb : F.rk b < F.n := List.idxOf_lt_length_of_mem h2
      refine ⟨F.rk b - F.rk a, List.mem_range.mpr (by omega), ?_⟩
      have e : F.rk a + (F.rk b - F.rk a) = F.rk b := by omega
      rw [e, pl_rk h1, pl_rk h2]
theorem kinds_nd {F : Ft} (o : F.Ok) : (kinds F).Nodup := by
  unfold kinds
  refine List.pairwise_flatMap.mpr ⟨fun i hi => ?_, List.Pairwise.imp_of_mem (R := fun a b => a ≠ b) (fun {i j} hi hj hij x hx y hy e => ?_) List.nodup_range⟩
  · have hi := List.mem_range.mp hi
    refine List.pairwise_map.mpr (List.Pairwise.imp_of_mem (R := fun a b => a ≠ b) (fun {a b} ha hb hab e => ?_) List.nodup_range)
    have ha := List.mem_range.mp ha
    have hb := List.mem_range.mp hb
    have := pl_inj o (by omega) (by omega) (Prod.mk.inj e).2
    omega
  · have hi := List.mem_range.mp hi
    have hj := List.mem_range.mp hj
    obtain ⟨a, _, rfl⟩ := List.mem_map.mp hx
    obtain ⟨b, _, rfl⟩ := List.mem_map.mp hy
    exact hij (pl_inj o (by omega) (by omega) (Prod.mk.inj e).1)
theorem kinds_len {F : Ft} (o : F.Ok) : (kinds F).length ≤ 20 := by
  unfold kinds
  rw [List.length_flatMap]
  have e : (List.range F.n).map (fun i => (kRow F i).length) = (List.range F.n).map fun i => F.n + 1 - i := List.map_congr_left fun i _ => by
    unfold kRow
    rw [List.length_map, List.length_range]
  rw [e]
  rcases nOk_cases o.n with h | h | h | h <;> rw [h] <;> decide
theorem kinds_ne {F : Ft} (o : F.Ok) : kinds F ≠ [] := fun e => by
  have h : F.kOk (pl F 0, 45) := ⟨pl_mem (by have := o.n; omega), .inl rfl⟩
  have := (kinds_mem o).mpr h
  rw [e] at this
  cases this
theorem kOk_small {F : Ft} (o : F.Ok) {k : Nat × Nat} (h : F.kOk k) : k.1 < 128 ∧ k.2 < 128 := by
  refine ⟨ws_small o h.1, ?_⟩
  rcases h.2 with h | h
  · rw [h]
    decide
  · exact ws_small o h.1
theorem plain_k {K : PySem.W.Frag} {F : Ft} (o : F.Ok) {H : Hp} {k : Nat × Nat} (h : F.kOk k) : Plain K H (vK k) := by
  have := kOk_small o h
  refine plain_str ?_
  show ((#[k.1, k.2] : Array Nat).all (· < 0x110000)) = true
  simp
  omega
theorem occ_sign {F : Ft} (o : F.Ok) {c : Nat} (hc : c ∈ F.ws) : ∃ rest, Builtin.Str.occurrences F.W (S1 c) 0 F.W.length 1 = F.rk c :: rest := by
  have hget : ∀ i, PySem.Builtin.Str.subAt F.W (S1 c) i = true ↔ F.ws[i]? = some c := fun i => by
    show ((F.ws.toArray.extract i (i + 1)) == #[c]) = true ↔ _
    rw [beq_iff_eq]
    constructor
    · intro h
      have h1 : (F.ws.toArray.extract i (i + 1))[0]? = some c := by rw [h]; rfl
      simpa using h1
    · intro h
      have hi := (List.getElem?_eq_some_iff.mp h).1
      apply Array.ext
      · simp
        omega
      · intro j hj1 hj2
        have hj : j = 0 := by simp at hj2; omega
        subst hj
        have h2 := (List.getElem?_eq_some_iff.mp h).2
        simp [h2]
  have hrk : F.ws[F.rk c]? = some c := by
    have h1 : F.rk c < F.ws.length := List.idxOf_lt_length_of_mem hc
    rw [List.getElem?_eq_getElem h1]
    exact congrArg some (List.getElem_idxOf h1)
  have hlt : F.rk c < F.ws.length := List.idxOf_lt_length_of_mem hc
  have hl : F.W.length = F.ws.length := by simp [Ft.W, PySem.Str.length]
  rcases StrLaws.occ_head F.W (S1 c) 1 (Nat.le_refl _) with ⟨_, h⟩ | ⟨i, r, h1, h2, h3⟩
  · refine absurd ?_ (h (F.rk c))
    exact ⟨by rw [hl]; show F.rk c + 1 ≤ _; omega, (hget _).mpr hrk⟩
  · have h4 := (hget i).mp h2.2
    obtain ⟨h5, h6⟩ := List.getElem?_eq_some_iff.mp h4
    have : F.rk c = i := by
      show F.ws.idxOf c = i
      rw [← h6]
      exact o.nd.idxOf_getElem i h5
    exact ⟨r, by rw [h1, this]⟩
theorem r_sindex {F : Ft} (o : F.Ok) {c : Nat} (hc : c ∈ F.ws) {R : Nat → Prop} (q : R (F.rk c)) : ∃ (a b : Str) (i : Nat) (rest : List Nat), V.str F.W = .str a ∧ [vS c] = [V.str b] ∧ Builtin.Str.occurrences a b 0 a.length 1 = i :: rest ∧ R i := by
  obtain ⟨rest, h⟩ := occ_sign o hc
  exact ⟨F.W, S1 c, F.rk c, rest, rfl, rfl, h, q⟩
theorem nm_nd {F : Ft} (o : F.Ok) (n : Nat → Int) : ((nmK F n).map (·.1)).Nodup := by
  unfold nmK
  rw [List.map_map]
  exact List.pairwise_map.mpr (o.nd.imp fun hab e => hab (kS_inj.mp e))
def setNm (n : Nat → Int) (c : Nat) (z : Int) : Nat → Int := fun x => if x = c then z else n x
theorem putK_key {kvs : List (Key × V)} {k : Key} {v : V} (h : ∃ p ∈ kvs, p.1 = k) : putK kvs k v = kvs.map fun p => if p.1 = k then (p.1, v) else p := by
  unfold putK
  rw [if_pos]
  obtain ⟨p, hp, e⟩ := h
  exact List.any_eq_true.mpr ⟨p, hp, decide_eq_true e⟩
theorem nm_put {F : Ft} {n : Nat → Int} {c : Nat} (h : c ∈ F.ws) (z : Int) : putK (nmK F n) (kS c) (.int z) = nmK F (setNm n c z) := by
  rw [putK_key (kvs := nmK F n) (k := kS c) ⟨(kS c, V.int (n c)), List.mem_map.mpr ⟨c, h, rfl⟩, rfl⟩]
  unfold nmK setNm
  rw [List.map_map]
  refine List.map_congr_left fun x _ => ?_
  show (if kS x = kS c then (kS x, V.int z) else (kS x, V.int (n x))) = (kS x, V.int (if x = c then z else n x))
  by_cases e : x = c
  · subst e
    rw [if_pos rfl, if_pos rfl]
  · rw [if_neg (fun z => e (kS_inj.mp z)), if_neg e]
theorem nm_len (F : Ft) (n : Nat → Int) : (nmK F n).length = F.n := by
  unfold nmK
  rw [List.length_map]
  rfl
/-- the first i signs' numbers are made -/
def NmI (F : Ft) (B : Int) (i : Nat) (as : List (Key × V)) : Prop := ∃ n : Nat → Int, as = (F.ws.take i).map (fun c => (kS c, V.int (n c))) ∧ ∀ c, 0 ≤ n c ∧ n c ≤ B
theorem NmI.zero {F : Ft} {B : Int} (h : 0 ≤ B) : NmI F B 0 [] := ⟨fun _ => 0, rfl, fun _ => ⟨Int.le_refl _, h⟩⟩
theorem NmI.len {F : Ft} (o : F.Ok) {B : Int} {i : Nat} {as : List (Key × V)} (h : NmI F B i as) : as.length ≤ 999 := by
  obtain ⟨n, rfl, _⟩ := h
  rw [List.length_map, List.length_take]
  have := o.hi
  omega
theorem NmI.step {F : Ft} (o : F.Ok) {B : Int} {i c : Nat} {as : List (Key × V)} {z : Int} (h : NmI F B i as) (hc : F.ws[i]? = some c) (h0 : 0 ≤ z) (h1 : z ≤ B) : NmI F B (i + 1) (as ++ [(kS c, .int z)]) := by
  obtain ⟨n, rfl, hb⟩ := h
  refine ⟨setNm n c z, ?_, fun x => ?_⟩
  · rw [List.take_add_one, hc, List.map_append]
    have hi := (List.getElem?_eq_some_iff.mp hc).1
    have e1 : (F.ws.take i).map (fun x => (kS x, V.int (setNm n c z x))) = (F.ws.take i).map fun x => (kS x, V.int (n x)) := List.map_congr_left fun x hx => by
      have hne : x ≠ c := fun e => by
        have hw : F.ws = F.ws.take i ++ c :: F.ws.drop (i + 1) := by
          rw [← (List.getElem?_eq_some_iff.mp hc).2, ← List.drop_eq_getElem_cons hi, List.take_append_drop]
        have nd := o.nd
        rw [hw, List.nodup_append] at nd
        exact nd.2.2 x hx c (List.mem_cons_self ..) e
      unfold setNm
      rw [if_neg hne]
    rw [e1]
    show _ = _ ++ [(kS c, V.int (setNm n c z c))]
    unfold setNm
    rw [if_pos rfl]
  · unfold setNm
    split
    · exact ⟨h0, h1⟩
    · exact hb x
theorem NmI.done {F : Ft} {B : Int} {as : List (Key × V)} (h : NmI F B F.n as) : ∃ n : Nat → Int, as = nmK F n ∧ ∀ c, 0 ≤ n c ∧ n c ≤ B := by
  obtain ⟨n, e, hb⟩ := h
  refine ⟨n, ?_, hb⟩
  rw [e]
  unfold Ft.n nmK
  rw [List.take_length]
/-- a list of ints of a bound -/
def RInt (_ : Hp) (v : V) (z : Int) : Prop := v = .int z
theorem stb_int : Stb RInt := ⟨fun _ h => h, fun _ h => h⟩
theorem ints_of {H : Hp} : ∀ {vs : List V} {as : List Int}, Paired (RInt H) vs as → vs = as.map V.int
  | _, _, .nil => rfl
  | _, _, .cons a t => by
    rw [List.map_cons, ← ints_of t]
    rw [show _ = V.int _ from a]
def LSt (F : Ft) (st : List ((Nat × Nat) × Int)) : Prop := StOk F st ∧ (∀ p ∈ st, p.2 ≤ 10000000000000000000000000000) ∧ st.length ≤ 6
/-- a plan: pairs of a kind and a sign -/
def PlK (N : Nat) (kvs : List (List Key × V)) : Prop := (∀ q ∈ kvs, (∃ (z : Str) (c : Nat), q.1 = [.inr z, kS c]) ∧ ∃ v : Int, q.2 = .int v ∧ 0 ≤ v ∧ v ≤ 10000000000000000000000000000) ∧ kvs.length ≤ N
theorem PlK.zero : PlK 0 [] := ⟨fun q h => (by cases h), Nat.le_refl _⟩
theorem PlK.mono {N M : Nat} {kvs : List (List Key × V)} (h : PlK N kvs) (hm : N ≤ M) : PlK M kvs := ⟨h.1, Nat.le_trans h.2 hm⟩
theorem PlK.put {N : Nat} {kvs : List (List Key × V)} (h : PlK N kvs) (z : Str) (c : Nat) {v : Int} (h0 : 0 ≤ v) (h1 : v ≤ 10000000000000000000000000000) : PlK (N + 1) (putK kvs [.inr z, kS c] (.int v)) := by
  unfold putK
  by_cases e : (kvs.any fun kv => decide (kv.1 = [.inr z, kS c])) = true
  · rw [if_pos e]
    refine ⟨fun q hq => ?_, by rw [List.length_map]; exact Nat.le_succ_of_le h.2⟩
    obtain ⟨r, hr, rfl⟩ := List.mem_map.mp hq
    by_cases e2 : r.1 = [.inr z, kS c]
    · rw [if_pos e2]
      exact ⟨⟨z, c, e2⟩, v, rfl, h0, h1⟩
    · rw [if_neg e2]
      exact h.1 r hr
  · rw [if_neg e]
    refine ⟨fun q hq => ?_, by rw [List.length_append]; exact Nat.succ_le_succ h.2⟩
    rcases List.mem_append.mp hq with hq | hq
    · exact h.1 q hq
    · have : q = ([.inr z, kS c], V.int v) := by simpa using hq
      rw [this]
      exact ⟨⟨z, c, rfl⟩, v, rfl, h0, h1⟩
theorem PlK.get {N : Nat} {kvs : List (List Key × V)} (h : PlK N kvs) {k : List Key} (hk : ∃ q ∈ kvs, q.1 = k) : ∃ v : Int, valV kvs k = some (.int v) ∧ 0 ≤ v ∧ v ≤ 10000000000000000000000000000 := by
  obtain ⟨q, hq, e⟩ := hk
  unfold valV
  cases hf : kvs.find? (fun kv => decide (kv.1 = k)) with
  | none =>
    have := List.find?_eq_none.mp hf q hq
    exact absurd (decide_eq_true e) this
  | some z =>
    obtain ⟨_, v, h1, h2, h3⟩ := h.1 z (List.mem_of_find?_eq_some hf)
    exact ⟨v, by rw [← h1]; rfl, h2, h3⟩
section
variable (C : Ad) (G : List (Addr × Str))
def spLTurns : Sp := sp2 fun x y H Q => ∃ (p : PenI) (b : Nat) (lf : Addr) (F : Ft), x = .ref p.p ∧ y = .ref lf ∧ LFAt H lf F ∧ Pen H p (b + 60) ∧ ∀ H' a tl, Fr G H H' → Pen H' p b → TurnsOf F tl → TurnsL H' a tl → Q (.ref a) H'
def spMFont : Sp := sp2 fun x y H Q => ∃ (p : PenI) (b : Nat) (lf : Addr) (F : Ft), x = .ref p.p ∧ y = .ref lf ∧ LFAt H lf F ∧ Pen H p (b + 60) ∧ ∀ H' f, Fr G H H' → Pen H' p b → FontU C H' f F → Q (.ref f) H'
def spLShows : Sp := sp2 fun x y H Q => ∃ (lf : Addr) (F : Ft) (k : Nat × Nat), x = .ref lf ∧ LFAt H lf F ∧ y = vK k ∧ F.kOk k ∧ ∀ H', Fs G H H' → Q (.str ⟨(F.sh k).toArray⟩) H'
def spLKinds : Sp := sp1 fun x H Q => ∃ (lf : Addr) (F : Ft), x = .ref lf ∧ LFAt H lf F ∧ ∀ H' a, Fs G H H' → Nw ⟨false, G⟩ H a → H' a = some (.lst ((kinds F).map vK)) → Q (.ref a) H'
def spLStock : Sp := sp4 fun x y z u H Q => ∃ (p : PenI) (b : Nat) (lf : Addr) (F : Ft), x = .ref p.p ∧ y = .ref lf ∧ z = .int 6 ∧ u = .int 10000000000000000000000000000 ∧ LFAt H lf F ∧ Pen H p (b + 300) ∧
  ∀ H' d st, Fr G H H' → Pen H' p b → LSt F st → H' d = some (.dK (stK st)) → Q (.ref d) H'
def spMCase : Sp := sp3 fun x y z H Q => ∃ (p : PenI) (b : Nat) (f d : Addr) (F : Ft) (st : List ((Nat × Nat) × Int)), x = .ref p.p ∧ y = .ref f ∧ z = .ref d ∧ FontU C H f F ∧ H d = some (.dK (stK st)) ∧ StOk F st ∧ LamX.Tabs G H ∧ Pen H p (b + 300) ∧
  ∀ H' x' s2, Fr G H H' → Pen H' p b → s2.Perm st → CaseAt C H' x' f F s2 → Q (.ref x') H'
def spPlanned : Sp := sp3 fun x y z H Q => ∃ (p : PenI) (b : Nat) (lf d : Addr) (F : Ft) (st : List ((Nat × Nat) × Int)), x = .ref p.p ∧ y = .ref lf ∧ z = .ref d ∧ LFAt H lf F ∧ H d = some (.dK (stK st)) ∧ LSt F st ∧ Pen H p (b + 1000) ∧
  ∀ H' q kvs, Fr G H H' → Pen H' p b → PlK 60 kvs → H' q = some (.dT kvs) → Q (.ref q) H'
def spShown : Sp := sp2 fun x y H Q => ∃ (lf q : Addr) (F : Ft) (kvs : List (List Key × V)), x = .ref lf ∧ y = .ref q ∧ LFAt H lf F ∧ H q = some (.dT kvs) ∧ PlK 60 kvs ∧
  ∀ H' d n, Fs G H H' → Nw ⟨false, G⟩ H d → (∀ c, 0 ≤ n c ∧ n c ≤ 1000000000000000000000000000000) → H' d = some (.dK (nmK F n)) → Q (.ref d) H'
def spNeed : Sp := sp3 fun x y z H Q => ∃ (p : PenI) (b : Nat) (lf d : Addr) (F : Ft) (st : List ((Nat × Nat) × Int)), x = .ref p.p ∧ y = .ref lf ∧ z = .ref d ∧ LFAt H lf F ∧ H d = some (.dK (stK st)) ∧ LSt F st ∧ Pen H p (b + 1200) ∧
  ∀ H' q n, Fr G H H' → Pen H' p b → (∀ c, 0 ≤ n c ∧ n c ≤ 10000000000000000000000000000000) → H' q = some (.dK (nmK F n)) → Q (.ref q) H'
def spMWants : Sp := sp3 fun x y z H Q => ∃ (p : PenI) (b : Nat) (f d : Addr) (F : Ft) (n : Nat → Int), x = .ref p.p ∧ y = .ref f ∧ z = .ref d ∧ FontU C H f F ∧ H d = some (.dK (nmK F n)) ∧ (∀ c, 0 ≤ n c) ∧ Pen H p (b + 100) ∧
  ∀ H' x', Fr G H H' → Pen H' p b → WantsAt C H' x' f F n → Q (.ref x') H'
def spLSets : Sp := sp1 fun x H Q => ∃ F : Ft, x = .str F.W ∧ F.Ok ∧ LamX.Tabs G H ∧ ∀ H' a, Fs G H H' → H' a = some (.lst ((ordN F.n).map fun m => V.str (F.setT m))) → Q (.ref a) H'
def spExch : Sp := sp3 fun x y z H Q => ∃ (p : PenI) (b : Nat) (lf d : Addr) (F : Ft) (st : List ((Nat × Nat) × Int)), x = .ref p.p ∧ y = .ref lf ∧ z = .ref d ∧ LFAt H lf F ∧ H d = some (.dK (stK st)) ∧ LSt F st ∧ Pen H p (b + 300) ∧
  ∀ H' q s2, Fr G H H' → Pen H' p b → StOk F s2 → H' q = some (.dK (stK s2)) → Q (.ref q) H'
def spFilled : Sp := sp4 fun x y z u H Q => ∃ (p : PenI) (b : Nat) (lf d : Addr) (F : Ft) (st : List ((Nat × Nat) × Int)) (m : Nat), x = .ref p.p ∧ y = .ref lf ∧ z = .ref d ∧ u = .str (F.setT m) ∧ LFAt H lf F ∧ H d = some (.dK (stK st)) ∧ StOk F st ∧ Pen H p (b + 200) ∧
  ∀ H' q n, Fr G H H' → Pen H' p b → (∀ c, 0 ≤ n c) → F.want n (F.qm m) = F.bear st (F.qm m) → (∀ r, F.want n r ≤ F.bear st r) → H' q = some (.dK (nmK F n)) → Q (.ref q) H'
def spPenNew (K : PySem.W.Frag) : Sp := sp1 fun x H Q => ∃ (a : Addr) (L : List Int), x = .ref a ∧ SqL K H a (L.map V.int) ∧ ∀ H' p, Fs G H H' → Pen H' p 281474976710656 → Q (.ref p.p) H'
end
end Hy
namespace Hy
open PySem PySem.Spec PyProof.Rows L2
namespace Ft
variable {F : Ft} {s1 s2 : List ((Nat × Nat) × Int)}
theorem exF_of_bears (o : F.Ok) (h1 : StOk F s1) (h2 : StOk F s2) (h : ∀ m, m < 2 ^ F.n → F.bear s1 (F.qm m) = F.bear s2 (F.qm m)) : ∀ m, m < 2 ^ F.n → F.exF s1 m = F.exF s2 m := by
  have hp : 0 < 2 ^ F.n := Nat.two_pow_pos _
  have key : ∀ {st : List ((Nat × Nat) × Int)}, StOk F st → zt 1 F.n (F.exF st) (2 ^ F.n - 1) = F.bear st (F.qm (2 ^ F.n - 1)) := fun {st} hs => (bear_full o hs).symm
  have hz : ∀ m, m < 2 ^ F.n → zt 1 F.n (F.exF s1) m = zt 1 F.n (F.exF s2) m := fun m hm => by
    have e1 := bear_zt o s1 (m := 2 ^ F.n - 1 - m) (by omega)
    have e2 := bear_zt o s2 (m := 2 ^ F.n - 1 - m) (by omega)
    have e3 := h (2 ^ F.n - 1 - m) (by omega)
    have e4 := h (2 ^ F.n - 1) (by omega)
    have e5 : 2 ^ F.n - 1 - (2 ^ F.n - 1 - m) = m := by omega
    rw [e5, key h1] at e1
    rw [e5, key h2] at e2
    omega
  intro m hm
  rw [← zt_back o.n (F.exF s1) hm, ← zt_back o.n (F.exF s2) hm]
  exact zt_congr (-1) hz F.n m (Nat.le_refl _) hm
theorem bears_of_exF (o : F.Ok) (h : ∀ m, m < 2 ^ F.n → F.exF s1 m = F.exF s2 m) : ∀ m, m < 2 ^ F.n → F.bear s1 (F.qm m) = F.bear s2 (F.qm m) := fun m hm => by
  have hp : 0 < 2 ^ F.n := Nat.two_pow_pos _
  rw [← bear_zt o s1 hm, ← bear_zt o s2 hm, zt_congr 1 h F.n _ (Nat.le_refl _) (show 2 ^ F.n - 1 < 2 ^ F.n by omega), zt_congr 1 h F.n _ (Nat.le_refl _) (show 2 ^ F.n - 1 - m < 2 ^ F.n by omega)]
theorem exF_le (h : StOk F s1) (m : Nat) : F.exF s1 m ≤ 20000000000000000000000000000000 := by
  have := sum_bound (B := 1000000000000000000000000000000) (by decide) ((F.exP s1).map fun p => if p.1 = m then p.2 else 0) fun x hx => by
    obtain ⟨p, hp, rfl⟩ := List.mem_map.mp hx
    obtain ⟨r, hr, rfl⟩ := List.mem_map.mp hp
    have h1 := h.pos r hr
    have h2 := h.le r hr
    dsimp only
    split <;> omega
  have hl := h.len
  have e : ((F.exP s1).map fun p => if p.1 = m then p.2 else 0).length = s1.length := by
    unfold exP
    rw [List.length_map, List.length_map]
  rw [e] at this
  have hs : (s1.length : Int) ≤ 20 := by omega
  have hmul : (s1.length : Int) * 1000000000000000000000000000000 ≤ 20 * 1000000000000000000000000000000 := Int.mul_le_mul_of_nonneg_right hs (by decide)
  unfold exF exL
  omega
end Ft
theorem val_map_on {α : Type} [DecidableEq α] {key : α → Key} {val : α → V} : ∀ {l : List α} {c : α}, (∀ a ∈ l, key a = key c → a = c) → valV (l.map fun a => (key a, val a)) (key c) = if c ∈ l then some (val c) else none
  | [], c, _ => rfl
  | a :: l, c, h => by
    show valV ((key a, val a) :: l.map fun a => (key a, val a)) (key c) = _
    by_cases e : a = c
    · subst e
      rw [valV_pos rfl, if_pos (List.mem_cons_self ..)]
    · rw [valV_neg (fun z => e (h a (List.mem_cons_self ..) z)), val_map_on (l := l) (c := c) fun b hb => h b (List.mem_cons_of_mem _ hb)]
      by_cases h2 : c ∈ l
      · rw [if_pos h2, if_pos (List.mem_cons_of_mem _ h2)]
      · rw [if_neg h2, if_neg (fun z => (List.mem_cons.mp z).elim (fun z => e z.symm) h2)]
theorem kT_inj {F : Ft} (o : F.Ok) {a b : Nat} (ha : a < 2 ^ F.n) (hb : b < 2 ^ F.n) (e : kT F a = kT F b) : a = b := qm_mkp o ha hb (Sum.inr.inj e)
theorem exK_val {F : Ft} (o : F.Ok) (st : List ((Nat × Nat) × Int)) {m : Nat} (hm : m < 2 ^ F.n) : valV (exK F st) (kT F m) = if 0 < F.exF st m then some (.int (F.exF st m)) else none := by
  unfold exK
  rw [val_map_on fun a ha e => kT_inj o (ordN_mem.mp (List.mem_filter.mp ha).1) hm e]
  by_cases h : 0 < F.exF st m
  · rw [if_pos h, if_pos (List.mem_filter.mpr ⟨ordN_mem.mpr hm, decide_eq_true h⟩)]
  · rw [if_neg h, if_neg (c := m ∈ (ordN F.n).filter (fun m => decide (0 < F.exF st m))) (fun z => h (of_decide_eq_true (List.mem_filter.mp z).2))]
theorem exK_ints (F : Ft) (st : List ((Nat × Nat) × Int)) : (exK F st).all (fun p => isI p.2) = true := by
  unfold exK
  rw [List.all_map]
  exact List.all_eq_true.mpr fun _ _ => rfl
theorem eqDI_ex {F : Ft} (o : F.Ok) {s1 s2 : List ((Nat × Nat) × Int)} (h1 : StOk F s1) (h2 : StOk F s2) : eqDI (exK F s1) (exK F s2) = true ↔ ∀ m, m < 2 ^ F.n → F.exF s1 m = F.exF s2 m := by
  unfold eqDI
  rw [Bool.and_eq_true, List.all_eq_true]
  constructor
  · rintro ⟨hl, ha⟩ m hm
    have hl := beq_iff_eq.mp hl
    have sub : ∀ x, x < 2 ^ F.n → 0 < F.exF s1 x → F.exF s2 x = F.exF s1 x := fun x hx h0 => by
      have := of_decide_eq_true (ha (kT F x, V.int (F.exF s1 x)) (List.mem_map.mpr ⟨x, List.mem_filter.mpr ⟨ordN_mem.mpr hx, decide_eq_true h0⟩, rfl⟩))
      rw [exK_val o s2 hx] at this
      by_cases h3 : 0 < F.exF s2 x
      · rw [if_pos h3] at this
        exact V.int.inj (Option.some.inj this)
      · rw [if_neg h3] at this
        cases this
    have n1 := Ft.exF_nn h1 m
    have n2 := Ft.exF_nn h2 m
    by_cases h0 : 0 < F.exF s1 m
    · exact (sub m hm h0).symm
    · by_cases h3 : 0 < F.exF s2 m
      · exfalso
        unfold exK at hl
        rw [List.length_map, List.length_map] at hl
        have hn : (m :: (ordN F.n).filter fun m => decide (0 < F.exF s1 m)).Nodup := List.nodup_cons.mpr ⟨fun z => h0 (of_decide_eq_true (List.mem_filter.mp z).2), (ordN_nodup F.n).filter _⟩
        have := nd_len hn (m := (ordN F.n).filter fun m => decide (0 < F.exF s2 m)) fun x hx => by
          rcases List.mem_cons.mp hx with rfl | hx
          · exact List.mem_filter.mpr ⟨ordN_mem.mpr hm, decide_eq_true h3⟩
          · obtain ⟨y1, y2⟩ := List.mem_filter.mp hx
            have y2 := of_decide_eq_true y2
            refine List.mem_filter.mpr ⟨y1, decide_eq_true ?_⟩
            rw [sub x (ordN_mem.mp y1) y2]
            exact y2
        rw [List.length_cons] at this
        omega
      · omega
  · intro h
    have e : exK F s1 = exK F s2 := by
      unfold exK
      have e1 : (ordN F.n).filter (fun m => decide (0 < F.exF s1 m)) = (ordN F.n).filter fun m => decide (0 < F.exF s2 m) := List.filter_congr fun m hm => by rw [h m (ordN_mem.mp hm)]
      rw [e1]
      exact List.map_congr_left fun m hm => by rw [h m (ordN_mem.mp (List.mem_filter.mp hm).1)]
    rw [e]
    refine ⟨beq_self_eq_true _, fun p hp => ?_⟩
    obtain ⟨m, hm, rfl⟩ := List.mem_map.mp hp
    obtain ⟨y1, y2⟩ := List.mem_filter.mp hm
    refine decide_eq_true ?_
    show valV (exK F s2) (kT F m) = some (V.int (F.exF s2 m))
    rw [exK_val o s2 (ordN_mem.mp y1), if_pos (of_decide_eq_true y2)]
theorem wLeast_congr {g h : Nat → Int} {low : Int} {a : Nat} : ∀ N, (∀ i, i < N → g i = h i) → wLeast g low N a = wLeast h low N a
  | 0, _ => rfl
  | N + 1, e => by
    unfold wLeast
    rw [wLeast_congr N fun i hi => e i (by omega), e N (by omega)]
theorem wMost_congr {g h : Nat → Int} {low : Int} : ∀ N, (∀ i, i < N → g i = h i) → wMost g low N = wMost h low N
  | 0, _ => rfl
  | N + 1, e => by
    unfold wMost
    rw [wMost_congr N fun i hi => e i (by omega), e N (by omega)]
theorem cpF_congr {g h more : Nat → Int} : ∀ N, (∀ i, i < N → g i = h i) → cpF g more N = cpF h more N
  | 0, _ => rfl
  | N + 1, e => by
    unfold cpF
    rw [cpF_congr N fun i hi => e i (by omega), e N (by omega)]
theorem cpF_mem {g more : Nat → Int} : ∀ N k, cpF g more N = some k → ∃ i, i < N ∧ 0 < more i ∧ k = g i / more i
  | 0, k, e => by cases e
  | N + 1, k, e => by
    unfold cpF at e
    have lift : ∀ k, cpF g more N = some k → ∃ i, i < N + 1 ∧ 0 < more i ∧ k = g i / more i := fun k e => by
      obtain ⟨i, h1, h2⟩ := cpF_mem N k e
      exact ⟨i, by omega, h2⟩
    cases hc : cpF g more N with
    | none =>
      rw [hc] at e
      dsimp only at e
      by_cases h : 0 < more N
      · rw [if_pos h] at e
        exact ⟨N, by omega, h, (Option.some.inj e).symm⟩
      · rw [if_neg h] at e
        cases e
    | some b =>
      rw [hc] at e
      dsimp only at e
      by_cases h : 0 < more N
      · rw [if_pos h] at e
        by_cases h2 : g N / more N < b
        · rw [if_pos h2] at e
          exact ⟨N, by omega, h, (Option.some.inj e).symm⟩
        · rw [if_neg h2] at e
          rw [← Option.some.inj e]
          exact lift b hc
      · rw [if_neg h] at e
        rw [← Option.some.inj e]
        exact lift b hc
theorem IsMin.congr {n : Nat} {g h : Nat → Int} {low : Int} (i : IsMin n g low) (e : ∀ m, m < 2 ^ n → g m = h m) : IsMin n h low := by
  obtain ⟨⟨m, h1, h2⟩, h3⟩ := i
  exact ⟨⟨m, h1, by rw [← e m h1]; exact h2⟩, fun m hm => by rw [← e m hm]; exact h3 m hm⟩
theorem log2_ok {i : Int} (h : i.natAbs < 10 ^ 40) : i.natAbs.log2 < 1920 := by
  by_cases h0 : i.natAbs = 0
  · rw [h0]
    decide
  · have h2 : i.natAbs < 2 ^ 200 := Nat.lt_trans h (by decide)
    have := (Nat.log2_lt h0).mpr h2
    omega
theorem int_ok {i : Int} (h : i.natAbs < 10 ^ 40) : PyData.showable (.int i) = true ∧ PyData.leavesShort 60 (.int i) = true := by
  refine ⟨decide_eq_true (log2_ok h), decide_eq_true ?_⟩
  have e := int_text_length_le10 (k := 40) (by decide) h
  show (Str.ofString (toString i)).length ≤ 60
  rw [PySem.ofString_length]
  omega
theorem str_ok {l : List Nat} (h : ∀ c ∈ l, c < 128) : PyData.showable (.str ⟨l.toArray⟩) = true ∧ PyData.leavesShort 60 (.str ⟨l.toArray⟩) = true := by
  refine ⟨rfl, ?_⟩
  show (l.toArray.toList.all fun c => decide (c < 16 ^ 8)) = true
  refine List.all_eq_true.mpr fun c hc => decide_eq_true ?_
  have := h c (by simpa using hc)
  exact Nat.lt_trans this (by decide)
/-- a short text and a number -/
def EntOk (p : Key × V) : Prop := ∃ (l : List Nat) (i : Int), p.1 = .inr ⟨l.toArray⟩ ∧ p.2 = .int i ∧ l.length ≤ 5 ∧ (∀ c ∈ l, c < 128) ∧ i.natAbs < 10 ^ 40
theorem ents_ok : ∀ {kvs : List (Key × V)}, (∀ p ∈ kvs, EntOk p) → PyData.showableKv (kvs.map fun p => (kdat p.1, fdat p.2)) = true ∧ PyData.depthKv (kvs.map fun p => (kdat p.1, fdat p.2)) = 0 ∧
    PyData.leavesShortKv 60 (kvs.map fun p => (kdat p.1, fdat p.2)) = true ∧ PyData.bulkKv (kvs.map fun p => (kdat p.1, fdat p.2)) ≤ 7 * kvs.length ∧ (kvs.map (·.2)).all flatV = true
  | [], _ => ⟨rfl, rfl, rfl, Nat.le_refl _, rfl⟩
  | p :: kvs, h => by
    obtain ⟨l, i, e1, e2, h1, h2, h3⟩ := h p (List.mem_cons_self ..)
    obtain ⟨g1, g2, g3, g4, g5⟩ := ents_ok fun q hq => h q (List.mem_cons_of_mem _ hq)
    obtain ⟨p1, p2⟩ := p
    dsimp only at e1 e2
    subst e1 e2
    obtain ⟨i1, i2⟩ := int_ok h3
    obtain ⟨j1, j2⟩ := str_ok h2
    refine ⟨?_, ?_, ?_, ?_, ?_⟩
    · show (PyData.showable (.str ⟨l.toArray⟩) && PyData.showable (.int i) && PyData.showableKv _) = true
      rw [i1, j1, g1]
      rfl
    · show max (max 0 0) (PyData.depthKv _) = 0
      rw [g2]
      rfl
    · show (PyData.leavesShort 60 (.str ⟨l.toArray⟩) && PyData.leavesShort 60 (.int i) && PyData.leavesShortKv 60 _) = true
      rw [i2, j2, g3]
      rfl
    · show l.toArray.size + 0 + 2 + PyData.bulkKv _ ≤ 7 * (kvs.length + 1)
      rw [List.size_toArray]
      omega
    · exact g5
theorem setL_small {F : Ft} (o : F.Ok) (m : Nat) : (F.setL m).length ≤ 5 ∧ ∀ c ∈ F.setL m, c < 128 :=
  ⟨Nat.le_trans (List.length_filter_le _ _) o.hi, fun c hc => ws_small o (List.mem_filter.mp hc).1⟩
theorem sizeLine_big : 100000 ≤ sizeLine := by decide
theorem ex_ents {F : Ft} (o : F.Ok) {st : List ((Nat × Nat) × Int)} (h : StOk F st) : ∀ p ∈ exK F st, EntOk p := fun p hp => by
  obtain ⟨m, hm, rfl⟩ := List.mem_map.mp hp
  have h0 := Ft.exF_nn h m
  have h1 := Ft.exF_le h m
  exact ⟨F.setL m, F.exF st m, rfl, rfl, (setL_small o m).1, (setL_small o m).2, by
    have : (20000000000000000000000000000001 : Nat) ≤ 10 ^ 40 := by decide
    omega⟩
theorem shows_ex {F : Ft} (o : F.Ok) {st : List ((Nat × Nat) × Int)} (h : StOk F st) {H : Hp} {a : Addr} (ha : H a = some (.dK (exK F st))) :
    Shows H a (.dict ((exK F st).map fun p => (kdat p.1, fdat p.2))) ∧ PyData.showable (.dict ((exK F st).map fun p => (kdat p.1, fdat p.2))) = true ∧ PyData.depth (.dict ((exK F st).map fun p => (kdat p.1, fdat p.2))) ≤ 8 ∧
      (PyData.shown (.dict ((exK F st).map fun p => (kdat p.1, fdat p.2)))).length ≤ sizeLine := by
  obtain ⟨h1, h2, h3, h4, h5⟩ := ents_ok (ex_ents o h)
  refine ⟨.dct _ ha h5, h1, ?_, ?_⟩
  · show PyData.depthKv _ + 1 ≤ 8
    rw [h2]
    decide
  · have hb := PyData.shown_le_bulk 60 (by decide) (.dict ((exK F st).map fun p => (kdat p.1, fdat p.2))) (by show PyData.leavesShortKv 60 _ = true; exact h3)
    have hl : (exK F st).length ≤ 32 := by
      unfold exK
      rw [List.length_map]
      refine Nat.le_trans (List.length_filter_le _ _) ?_
      rw [ordN_len]
      exact pow32 o
    have hb2 : PyData.bulk (.dict ((exK F st).map fun p => (kdat p.1, fdat p.2))) = PyData.bulkKv ((exK F st).map fun p => (kdat p.1, fdat p.2)) := rfl
    have := sizeLine_big
    omega
theorem shows_tri {F : Ft} (o : F.Ok) {H : Hp} {a : Addr} {i : Int} {x y : Nat} (hi : i.natAbs < 10 ^ 40) (ha : H a = some (.tup [.int i, .str (F.setT x), .str (F.setT y)])) :
    Shows H a (.tuple [.int i, .str (F.setT x), .str (F.setT y)]) ∧ PyData.showable (.tuple [.int i, .str (F.setT x), .str (F.setT y)]) = true ∧ PyData.depth (.tuple [.int i, .str (F.setT x), .str (F.setT y)]) ≤ 8 ∧
      (PyData.shown (.tuple [.int i, .str (F.setT x), .str (F.setT y)])).length ≤ sizeLine := by
  obtain ⟨i1, i2⟩ := int_ok hi
  have sx := setL_small o x
  have sy := setL_small o y
  obtain ⟨j1, j2⟩ := str_ok sx.2
  obtain ⟨k1, k2⟩ := str_ok sy.2
  refine ⟨.tup _ ha rfl, ?_, ?_, ?_⟩
  · show (PyData.showable (.int i) && (PyData.showable (.str ⟨(F.setL x).toArray⟩) && (PyData.showable (.str ⟨(F.setL y).toArray⟩) && true))) = true
    rw [i1, j1, k1]
    rfl
  · show (1 : Nat) ≤ 8
    decide
  · have hb := PyData.shown_le_bulk 60 (by decide) (.tuple [.int i, .str (F.setT x), .str (F.setT y)]) (by
      show (PyData.leavesShort 60 (.int i) && (PyData.leavesShort 60 (.str ⟨(F.setL x).toArray⟩) && (PyData.leavesShort 60 (.str ⟨(F.setL y).toArray⟩) && true))) = true
      rw [i2, j2, k2]
      rfl)
    have hb2 : PyData.bulk (.tuple [.int i, .str (F.setT x), .str (F.setT y)]) = 0 + 1 + ((F.setL x).toArray.size + 1 + ((F.setL y).toArray.size + 1 + 0)) := rfl
    rw [List.size_toArray, List.size_toArray] at hb2
    have := sizeLine_big
    omega
end Hy
namespace Hy
open PySem PySem.Spec PyProof.Rows L2
local macro_rules | `(tactic| decreasing_trivial) => `(tactic| ((try (with_reducible conv => whnf)); repeat (first
    | with_reducible refine iteT ?_
    | with_reducible refine iteF ?_
    | with_reducible refine iteNT ?_
    | with_reducible refine iteNF ?_
    | with_reducible refine r_isi_int ?_
    | with_reducible refine r_isi_bool ?_
    | with_reducible refine r_isi_str ?_
    | with_reducible refine r_eqN ?_
    | with_reducible refine r_neN ?_
    | with_reducible refine r_eqS ?_
    | with_reducible refine r_neS ?_
    | with_reducible refine r_seq ?_
    | with_reducible refine r_asg ?_
    | with_reducible refine r_gname ?_
    | with_reducible refine r_ret ?_
    | with_reducible refine r_drop ?_
    | with_reducible refine r_next ?_
    | with_reducible refine r_op ?_
    | with_reducible refine r_var (by with_unfolding_all exact rfl) ?_
    | with_reducible refine r_c ?_
    | with_reducible refine r_cons ?_
    | with_reducible refine r_nil ?_
    | with_reducible refine r_un ?_
    | with_reducible refine r_I0 ?_
    | with_reducible refine r_U ?_
    | with_reducible refine r_df ?_
    | with_reducible refine r_cb ?_
    | with_reducible refine r_ifS ?_
    | with_reducible refine r_ifE ?_
    | with_reducible refine r_test ?_
    | with_reducible refine r_B ?_
    | with_reducible refine r_tand ?_
    | with_reducible refine r_tor ?_
    | with_reducible refine r_tnot ?_
    | with_reducible refine r_andV ?_
    | with_reducible refine r_orV ?_
    | with_reducible refine r_notV ?_
    | with_reducible refine r_blif ?_
    | with_reducible refine r_bl ?_
    | with_reducible refine r_chain ?_
    | with_reducible refine r_tup ?_
    | with_reducible refine r_lst ?_
    | with_reducible refine r_fld ?_
    | with_reducible refine r_dget ?_
    | with_reducible refine r_din ?_
    | with_reducible refine r_pt ?_
    | with_reducible refine r_mt ?_
    | with_reducible refine r_iEnumS ?_
    | with_reducible refine r_bm ?_
    | with_reducible refine r_iStr ?_
    | with_reducible refine r_lcT ?_
    | with_reducible refine r_dcT ?_
    | with_reducible refine r_iList ?_
    | with_reducible refine r_iTup ?_
    | with_reducible refine r_iRng1 ?_
    | with_reducible refine r_iRng2 ?_
    | with_reducible refine r_iEnum ?_
    | with_reducible refine r_iZip ?_
    | with_reducible refine r_iKeys ?_
    | with_reducible refine r_iItems ?_
    | with_reducible refine r_iVals ?_
    | with_reducible refine r_lstRg ?_
    | with_reducible refine r_rg1 ?_
    | with_reducible refine r_sortDf ?_
    | with_reducible refine r_bits ?_
    | with_reducible refine r_forT ?_
    | with_reducible refine r_augS ?_
    | with_reducible refine r_gsub ?_
    | with_reducible refine r_bm0 ?_
    | with_reducible refine r_sortLam ?_
    | with_reducible refine r_sfld ?_
    | with_reducible refine r_dput ?_
    | with_reducible refine r_dnewK ?_
    | with_reducible refine r_mk ?_
    | with_reducible refine r_con ?_
    | with_reducible refine r_lockS ?_
    | with_reducible refine r_sl ?_
    | with_reducible refine r_part ?_
    | with_reducible refine r_nopart ?_
    | with_reducible refine r_dget2 ?_
    | with_reducible refine r_isN ?_
    | with_reducible refine r_notN ?_
    | with_reducible refine r_par ?_
    | with_reducible refine r_par2 ?_
    | with_reducible refine r_yes ?_
    | with_reducible refine r_scT ?_)))
section
variable {P : Program} {w : World} {K : PySem.W.Frag} {mg : Str → Option Value} {base : Heap} {C : Ad} {G : List (Addr × Str)}
theorem sc_Pile_font : FnScope ["self"] ["self"] (defScope (inClass (top 70) 1)) := ⟨rfl, rfl, rfl, by decide +kernel, rfl, by decide +kernel, by decide +kernel⟩
theorem d_Pile_font (T : Txt K mg C)  : Pt P w K mg base C.CC "font" 1 (spFontC C) := by
  have sc := sc_Pile_font
  obtain ⟨pp, f, fd, Gf, hm⟩ := T.p_fontC.ex
  refine ⟨⟨pp, f, hm, Fun.fnr Gf sc len1 (fun _ _ _ _ _ _ us hl => match us, hl with | [_], _ => rfl) (fun cdv A outer s H vs Q E hr h => ?_)⟩, T.cC⟩
  have hu := hu_of hr
  have hu64 := hr.units
  have hu0 := Nat.lt_of_succ_lt hu
  obtain ⟨x1, rfl, h⟩ := h
  refine ⟨_, (pss_one (ps_ret (pe_fldK K (pv 0) rfl))), ?_⟩
  obtain ⟨x', f', F, st, rfl, hC, q⟩ := h
  obtain ⟨hF, so, d, dx, fs, v⟩ := id hC
  decreasing_trivial
  exact r_fld1 v.at_ T.cC T.nFontC v.font q
theorem sc_Wants_font : FnScope ["self"] ["self"] (defScope (inClass (top 83) 9)) := ⟨rfl, rfl, rfl, by decide +kernel, rfl, by decide +kernel, by decide +kernel⟩
theorem d_Wants_font (T : Txt K mg C)  : Pt P w K mg base C.CW "font" 1 (spFontW C) := by
  have sc := sc_Wants_font
  obtain ⟨pp, f, fd, Gf, hm⟩ := T.p_fontW.ex
  refine ⟨⟨pp, f, hm, Fun.fnr Gf sc len1 (fun _ _ _ _ _ _ us hl => match us, hl with | [_], _ => rfl) (fun cdv A outer s H vs Q E hr h => ?_)⟩, T.cW⟩
  have hu := hu_of hr
  have hu64 := hr.units
  have hu0 := Nat.lt_of_succ_lt hu
  obtain ⟨x1, rfl, h⟩ := h
  refine ⟨_, (pss_one (ps_ret (pe_fldK K (pv 0) rfl))), ?_⟩
  obtain ⟨x', f', F, n, rfl, hW, q⟩ := h
  obtain ⟨hF, d, dx, fs, v⟩ := id hW
  decreasing_trivial
  exact r_fld1 v.at_ T.cW T.nFontW v.font q
theorem sc_Pile_plates : FnScope ["self"] ["self"] (defScope (inClass (top 70) 2)) := ⟨rfl, rfl, rfl, by decide +kernel, rfl, by decide +kernel, by decide +kernel⟩
theorem d_Pile_plates (T : Txt K mg C)  : Pt P w K mg base C.CC "plates" 1 (spPlates C G) := by
  have sc := sc_Pile_plates
  obtain ⟨pp, f, fd, Gf, hm⟩ := T.p_plates.ex
  refine ⟨⟨pp, f, hm, Fun.fnr Gf sc len1 (fun _ _ _ _ _ _ us hl => match us, hl with | [_], _ => rfl) (fun cdv A outer s H vs Q E hr h => ?_)⟩, T.cC⟩
  have hu := hu_of hr
  have hu64 := hr.units
  have hu0 := Nat.lt_of_succ_lt hu
  obtain ⟨x1, rfl, h⟩ := h
  refine ⟨_, (pss_one (ps_ret (pe_tupItems rfl rfl T.f_tuple (pe_fldK K (pv 0) rfl)))), ?_⟩
  obtain ⟨x', f', F, st, rfl, hC, q⟩ := h
  obtain ⟨hF, so, d, dx, fs, v⟩ := id hC
  decreasing_trivial
  show tFld K (tVar 0) "stock" _ H _
  decreasing_trivial
  refine r_fld1 v.at_ T.cC T.nStock v.stock ⟨d, _, rfl, v.st, fun H' p ts e n h1 h2 => ?_⟩
  exact q H' p ts (Fm.of_ext e) h1 h2
theorem sc_Wants_getitem : FnScope ["self", "sign"] ["self", "sign"] (defScope (inClass (top 83) 6)) := ⟨rfl, rfl, rfl, by decide +kernel, rfl, by decide +kernel, by decide +kernel⟩
theorem d_Wants_getitem (T : Txt K mg C) (D_need_sign : Df P w K mg base "need_sign" 3 (spNeedSign C)) : Sl P w K mg base C.CW "__getitem__" 4 (spItem C) := by
  have sc := sc_Wants_getitem
  obtain ⟨f, fd, Gf, h1, h2, h3⟩ := T.s_item.ex
  refine ⟨⟨f, h1, h2, h3, Fun.fnr Gf sc len2 (fun _ _ _ _ _ _ us hl => match us, hl with | [_, _], _ => rfl) (fun cdv A outer s H vs Q E hr h => ?_)⟩⟩
  have hu := hu_of hr
  have hu64 := hr.units
  have hu0 := Nat.lt_of_succ_lt hu
  obtain ⟨x1, x2, rfl, h⟩ := h
  refine ⟨_, (pss_cons (ps_expr (pe_df D_need_sign (hr.mono (by decide)) rfl (pa_cons (pe_fldK K (pv 0) rfl) (pa_cons (pv 1) pa_nil))))
  (pss_one (ps_ret (pe_dget hu (pe_fldK K (pv 0) rfl) (pv 1) (fun _ _ => rfl))))), ?_⟩
  obtain ⟨x', f', F, n, c, rfl, hW, rfl, hc, q⟩ := h
  obtain ⟨hF, d, dx, fs, v⟩ := id hW
  decreasing_trivial
  refine r_fld1 v.at_ T.cW T.nFontW v.font ?_
  decreasing_trivial
  refine r_sp2 ⟨f', F, c, rfl, hF.at, rfl, hc, ?_⟩
  decreasing_trivial
  refine r_fld1 v.at_ T.cW T.nNumbers v.numbers ?_
  decreasing_trivial
  refine r_dget1 (k := kS c) (.inl v.nm) rfl (by rw [nm_get, if_pos hc]) ?_
  exact q
end
end Hy
namespace Hy
open PySem PySem.Spec PyProof.Rows L2
local macro_rules | `(tactic| decreasing_trivial) => `(tactic| ((try (with_reducible conv => whnf)); repeat (first
    | with_reducible refine iteT ?_
    | with_reducible refine iteF ?_
    | with_reducible refine iteNT ?_
    | with_reducible refine iteNF ?_
    | with_reducible refine r_isi_int ?_
    | with_reducible refine r_isi_bool ?_
    | with_reducible refine r_isi_str ?_
    | with_reducible refine r_eqN ?_
    | with_reducible refine r_neN ?_
    | with_reducible refine r_eqS ?_
    | with_reducible refine r_neS ?_
    | with_reducible refine r_seq ?_
    | with_reducible refine r_asg ?_
    | with_reducible refine r_gname ?_
    | with_reducible refine r_ret ?_
    | with_reducible refine r_drop ?_
    | with_reducible refine r_next ?_
    | with_reducible refine r_op ?_
    | with_reducible refine r_var (by with_unfolding_all exact rfl) ?_
    | with_reducible refine r_c ?_
    | with_reducible refine r_cons ?_
    | with_reducible refine r_nil ?_
    | with_reducible refine r_un ?_
    | with_reducible refine r_I0 ?_
    | with_reducible refine r_U ?_
    | with_reducible refine r_df ?_
    | with_reducible refine r_cb ?_
    | with_reducible refine r_ifS ?_
    | with_reducible refine r_ifE ?_
    | with_reducible refine r_test ?_
    | with_reducible refine r_B ?_
    | with_reducible refine r_tand ?_
    | with_reducible refine r_tor ?_
    | with_reducible refine r_tnot ?_
    | with_reducible refine r_andV ?_
    | with_reducible refine r_orV ?_
    | with_reducible refine r_notV ?_
    | with_reducible refine r_blif ?_
    | with_reducible refine r_bl ?_
    | with_reducible refine r_chain ?_
    | with_reducible refine r_tup ?_
    | with_reducible refine r_lst ?_
    | with_reducible refine r_fld ?_
    | with_reducible refine r_dget ?_
    | with_reducible refine r_din ?_
    | with_reducible refine r_pt ?_
    | with_reducible refine r_mt ?_
    | with_reducible refine r_iEnumS ?_
    | with_reducible refine r_bm ?_
    | with_reducible refine r_iStr ?_
    | with_reducible refine r_lcT ?_
    | with_reducible refine r_dcT ?_
    | with_reducible refine r_iList ?_
    | with_reducible refine r_iTup ?_
    | with_reducible refine r_iRng1 ?_
    | with_reducible refine r_iRng2 ?_
    | with_reducible refine r_iEnum ?_
    | with_reducible refine r_iZip ?_
    | with_reducible refine r_iKeys ?_
    | with_reducible refine r_iItems ?_
    | with_reducible refine r_iVals ?_
    | with_reducible refine r_lstRg ?_
    | with_reducible refine r_rg1 ?_
    | with_reducible refine r_sortDf ?_
    | with_reducible refine r_bits ?_
    | with_reducible refine r_forT ?_
    | with_reducible refine r_augS ?_
    | with_reducible refine r_gsub ?_
    | with_reducible refine r_bm0 ?_
    | with_reducible refine r_sortLam ?_
    | with_reducible refine r_sfld ?_
    | with_reducible refine r_dput ?_
    | with_reducible refine r_dnewK ?_
    | with_reducible refine r_mk ?_
    | with_reducible refine r_con ?_
    | with_reducible refine r_lockS ?_
    | with_reducible refine r_sl ?_
    | with_reducible refine r_part ?_
    | with_reducible refine r_nopart ?_
    | with_reducible refine r_dget2 ?_
    | with_reducible refine r_isN ?_
    | with_reducible refine r_notN ?_
    | with_reducible refine r_par ?_
    | with_reducible refine r_par2 ?_
    | with_reducible refine r_yes ?_
    | with_reducible refine r_scT ?_)))
section
variable {P : Program} {w : World} {K : PySem.W.Frag} {mg : Str → Option Value} {base : Heap} {C : Ad} {G : List (Addr × Str)}
theorem sc_bearings_of : FnScope ["font", "stock", "exact", "kind", "shown", "many", "inside", "mask"] ["font", "stock"] (defScope (top 41)) := ⟨rfl, rfl, rfl, by decide +kernel, rfl, by decide +kernel, by decide +kernel⟩
theorem d_bearings_of (T : Txt K mg C) (D_number_of_sets : Df P w K mg base "number_of_sets" 3 (spNSets C)) (D_subset_sums : Df P w K mg base "subset_sums" 1 (spSums1 G)) : Df P w K mg base "bearings_of" 6 (spBear C G) := by
  have sc := sc_bearings_of
  refine FnT.df (T.fn ("bearings_of", 41) (by decide)) sc len2 (fun _ _ _ _ _ _ us hl => match us, hl with | [_, _], _ => rfl) (fun f cdv A outer s H vs Q E hr h => ?_)
  have hu := hu_of hr
  have hu64 := hr.units
  have hu0 := Nat.lt_of_succ_lt hu
  obtain ⟨x1, x2, rfl, h⟩ := h
  refine ⟨_, (pss_cons (ps_set (i := 2) sc.nd rfl (by first | exact Or.inl rfl | exact Or.inr rfl) (pe_op op_rep (pe_lst (pa_cons pe_int pa_nil)) (pe_df D_number_of_sets (hr.mono (by decide)) rfl (pa_cons (pv 0) pa_nil))))
  (pss_cons (ps_for PassesOwn.never rfl (pi_listK K (pv 1)) (pg_tupK K (n := 3) rfl (pgs_cons (pg_name (i := 3) sc.nd rfl (by first | exact Or.inl rfl | exact Or.inr rfl)) (pgs_cons (pg_name (i := 4) sc.nd rfl (by first | exact Or.inl rfl | exact Or.inr rfl)) (pgs_cons (pg_name (i := 5) sc.nd rfl (by first | exact Or.inl rfl | exact Or.inr rfl)) pgs_nil)))) (pss_one (ps_augS (pv 2) (pv 4) (get_listK K) (pv 5) ip_add set_list)))
  (pss_cons (ps_set (i := 6) sc.nd rfl (by first | exact Or.inl rfl | exact Or.inr rfl) (pe_df D_subset_sums (hr.mono (by decide)) rfl (pa_cons (pv 2) pa_nil)))
  (pss_one (ps_ret (pe_lc (own := [("mask", 7)]) rfl sc.nd (pi_range1 rfl T.f_range (pa_cons (pe_callB (call_len_seqK K) (by rfl) T.f_len PySem.boot_len (pa_cons (pv 6) pa_nil)) pa_nil)) (blkOk_by (N := ["font", "stock", "exact", "kind", "shown", "many", "inside", "mask"]) (sc := defScope (top 41)) (by decide +kernel)) (fun _ _ _ _ _ => (pg_name (i := 7) sc.nd rfl (by first | exact Or.inl rfl | exact Or.inr rfl))) (fun _ _ _ _ _ => pts_nil) (fun _ _ _ _ _ => (pe_op op_sub (pe_ix (ix_listK K) (pv 6) (pe_un un_neg pe_int) (fun _ _ => rfl)) (pe_ix (ix_listK K) (pv 6) (pe_op op_sub (pe_op op_sub (pe_callB (call_len_seqK K) (by rfl) T.f_len PySem.boot_len (pa_cons (pv 6) pa_nil)) pe_int) (pv 7)) (fun _ _ => rfl)))))))))), ?_⟩
  obtain ⟨f', F, a, st, rfl, hF, rfl, ha, q⟩ := h
  have hn := hF.1.n
  have h32 : 2 ^ F.n ≤ 32 := Nat.le_trans (Nat.pow_le_pow_right (by decide) hn.2) (by decide)
  decreasing_trivial
  refine ⟨by show 1 ≤ sizeLine; decide, fun l0 hl0 => ?_⟩
  decreasing_trivial
  refine r_sp1 ⟨f', F, rfl, hF.mono (Fm.new (b := ⟨false, G⟩) hl0), ?_⟩
  refine ⟨l0, _, _, rfl, rfl, upd_same, (rep_ok h32).1, (rep_ok h32).2.1, (rep_ok h32).2.2, fun l hl => ?_⟩
  rw [rep_byM]
  have e0 : Fs G H (upd (upd H l0 (.lst [.int 0])) l (.lst (byM F.n fun _ => 0))) := (Fm.new hl0).trans (Fm.new hl)
  have nl : Nw ⟨false, G⟩ H l := (Fm.new (b := ⟨false, G⟩) hl0).nw hl
  have ha1 := ha.mono e0
  obtain ⟨vs, hv, hp0⟩ := ha1
  decreasing_trivial
  refine ⟨a, rfl, ⟨_, SqL.of hv⟩, ?_⟩
  refine for_it (walk_list (xs := vs)) (fun i σ H1 => ∃ v3 v4 v5, σ = [some (.ref f'), some (.ref a), some (.ref l), v3, v4, v5, none, none] ∧ Fs G H H1 ∧ StkL F H1 a st ∧ H1 a = some (.lst vs) ∧ H1 l = some (.lst (byM F.n (F.exF (st.take i))))) ⟨none, none, none, rfl, e0, ⟨vs, hv, hp0⟩, hv, upd_same⟩ (fun i σ H1 _ hp => ?_) (fun i x σ H1 H2 hi hp hx => ?_) (fun σ H1 hp => ?_)
  · obtain ⟨v3, v4, v5, rfl, e1, hs, h1, h2⟩ := hp
    exact SqL.of h1
  · obtain ⟨rfl, hx⟩ := hx
    obtain ⟨v3, v4, v5, rfl, e1, hs, h1, h2⟩ := hp
    obtain ⟨vs2, hv2, hp2⟩ := hs
    rw [h1] at hv2
    cases hv2
    obtain ⟨p, hp3, t, rfl, ht⟩ := paired_at hp2 hx
    refine ⟨t, _, rfl, SqT.of ht, rfl, _, _, rfl, _, _, rfl, _, _, rfl, rfl, ?_⟩
    decreasing_trivial
    have hm := F.mkp_lt fun c => decide (c ∈ F.shl p.1)
    refine r_ixN (SqL.of h2) (byM_get hm) ?_
    decreasing_trivial
    refine ⟨_, _, rfl, rfl, ?_⟩
    refine r_setN h2 (by rw [byM_len]; exact hm) ?_
    have e2 : Fs G H (upd H2 l (.lst ((byM F.n (F.exF (st.take i))).set (F.mks p.1) (.int (F.exF (st.take i) (F.mks p.1) + p.2))))) := e1.edit nl h2 rfl
    have nal : a ≠ l := fun z => by
      subst z
      have := nl _ ha.choose_spec.1
      cases this
    refine ⟨_, _, _, rfl, e2, ⟨vs, (upd_ne nal).trans h1, paired_imp hp2 fun _ _ r => (stb_tri F).lst h2 r⟩, (upd_ne nal).trans h1, ?_⟩
    rw [upd_same, byM_set]
    refine congrArg (fun z => some (HO.lst z)) (byM_congr fun m hm => ?_)
    rw [exP_take hp3]
    by_cases z : m = F.mks p.1
    · rw [if_pos z, if_pos z.symm, z]
    · rw [if_neg z, if_neg (fun y => z y.symm)]
      omega
  · obtain ⟨v3, v4, v5, rfl, e1, hs, h1, h2⟩ := hp
    rw [Paired.length hp0, List.take_length] at h2
    decreasing_trivial
    refine r_sp1 ⟨l, F.n, _, rfl, hn, h2, fun H2 p e2 n2 h3 => ?_⟩
    decreasing_trivial
    refine ⟨p, _, rfl, .inl (SqL.of h3), ?_⟩
    rw [byM_len]
    decreasing_trivial
    refine ⟨_, rfl, (rgOk_small h32).2.2.1, (rgOk_small h32).2.2.2.1, fun D hD => ?_⟩
    rw [Int.toNat_natCast]
    refine cp_it walk_rg0 (Lp ⟨false, G⟩ H2 D (fun i => (List.range i).map fun m => V.int (F.bear st (F.qm m)))) (Lp.start hD rfl) (fun _ _ _ _ => trivial) (fun i x H3 H4 hi hp hx => ?_) (fun H3 hp => ?_)
    · obtain ⟨rfl, rfl⟩ := hx
      have h4 := hp.1.lst h3
      decreasing_trivial
      refine ⟨rfl, ?_⟩
      decreasing_trivial
      have hp2' : 0 < 2 ^ F.n := Nat.two_pow_pos _
      refine ⟨p, _, -1, _, rfl, rfl, SqL.of h4, atI_neg1 (v := .int (zt 1 F.n (F.exF st) (2 ^ F.n - 1))) ?_, ?_⟩
      · rw [List.getLast?_eq_getElem?, byM_len]
        exact byM_get (by omega)
      decreasing_trivial
      refine ⟨p, _, rfl, .inl (SqL.of h4), ?_⟩
      rw [byM_len]
      decreasing_trivial
      have e6 : ((2 ^ F.n : Nat) : Int) - 1 - ((i : Nat) : Int) = ((2 ^ F.n - 1 - i : Nat) : Int) := by
        generalize 2 ^ F.n = N at *
        omega
      rw [e6]
      refine r_ixN (SqL.of h4) (byM_get (by omega)) ?_
      decreasing_trivial
      refine hp.add hD (Fm.refl _) ?_ ?_
      · rw [List.length_map, List.length_range]
        omega
      · rw [List.range_succ, List.map_append, Ft.bear_zt hF.1 st hi]
        rfl
    · exact q _ D ((e1.trans e2).trans hp.1) ((e1.trans e2).nw hD) hp.2
end
end Hy
namespace Hy
open PySem PySem.Spec PyProof.Rows L2
local macro_rules | `(tactic| decreasing_trivial) => `(tactic| ((try (with_reducible conv => whnf)); repeat (first
    | with_reducible refine iteT ?_
    | with_reducible refine iteF ?_
    | with_reducible refine iteNT ?_
    | with_reducible refine iteNF ?_
    | with_reducible refine r_isi_int ?_
    | with_reducible refine r_isi_bool ?_
    | with_reducible refine r_isi_str ?_
    | with_reducible refine r_eqN ?_
    | with_reducible refine r_neN ?_
    | with_reducible refine r_eqS ?_
    | with_reducible refine r_neS ?_
    | with_reducible refine r_seq ?_
    | with_reducible refine r_asg ?_
    | with_reducible refine r_gname ?_
    | with_reducible refine r_ret ?_
    | with_reducible refine r_drop ?_
    | with_reducible refine r_next ?_
    | with_reducible refine r_op ?_
    | with_reducible refine r_var (by with_unfolding_all exact rfl) ?_
    | with_reducible refine r_c ?_
    | with_reducible refine r_cons ?_
    | with_reducible refine r_nil ?_
    | with_reducible refine r_un ?_
    | with_reducible refine r_I0 ?_
    | with_reducible refine r_U ?_
    | with_reducible refine r_df ?_
    | with_reducible refine r_cb ?_
    | with_reducible refine r_ifS ?_
    | with_reducible refine r_ifE ?_
    | with_reducible refine r_test ?_
    | with_reducible refine r_B ?_
    | with_reducible refine r_tand ?_
    | with_reducible refine r_tor ?_
    | with_reducible refine r_tnot ?_
    | with_reducible refine r_andV ?_
    | with_reducible refine r_orV ?_
    | with_reducible refine r_notV ?_
    | with_reducible refine r_blif ?_
    | with_reducible refine r_bl ?_
    | with_reducible refine r_chain ?_
    | with_reducible refine r_tup ?_
    | with_reducible refine r_lst ?_
    | with_reducible refine r_fld ?_
    | with_reducible refine r_dget ?_
    | with_reducible refine r_din ?_
    | with_reducible refine r_pt ?_
    | with_reducible refine r_mt ?_
    | with_reducible refine r_iEnumS ?_
    | with_reducible refine r_bm ?_
    | with_reducible refine r_iStr ?_
    | with_reducible refine r_lcT ?_
    | with_reducible refine r_dcT ?_
    | with_reducible refine r_iList ?_
    | with_reducible refine r_iTup ?_
    | with_reducible refine r_iRng1 ?_
    | with_reducible refine r_iRng2 ?_
    | with_reducible refine r_iEnum ?_
    | with_reducible refine r_iZip ?_
    | with_reducible refine r_iKeys ?_
    | with_reducible refine r_iItems ?_
    | with_reducible refine r_iVals ?_
    | with_reducible refine r_lstRg ?_
    | with_reducible refine r_rg1 ?_
    | with_reducible refine r_sortDf ?_
    | with_reducible refine r_bits ?_
    | with_reducible refine r_forT ?_
    | with_reducible refine r_augS ?_
    | with_reducible refine r_gsub ?_
    | with_reducible refine r_bm0 ?_
    | with_reducible refine r_sortLam ?_
    | with_reducible refine r_sfld ?_
    | with_reducible refine r_dput ?_
    | with_reducible refine r_dnewK ?_
    | with_reducible refine r_mk ?_
    | with_reducible refine r_con ?_
    | with_reducible refine r_lockS ?_
    | with_reducible refine r_sl ?_
    | with_reducible refine r_part ?_
    | with_reducible refine r_nopart ?_
    | with_reducible refine r_dget2 ?_
    | with_reducible refine r_isN ?_
    | with_reducible refine r_notN ?_
    | with_reducible refine r_par ?_
    | with_reducible refine r_par2 ?_
    | with_reducible refine r_yes ?_
    | with_reducible refine r_scT ?_)))
section
variable {P : Program} {w : World} {K : PySem.W.Frag} {mg : Str → Option Value} {base : Heap} {C : Ad} {G : List (Addr × Str)}
theorem sc_wants_by_mask : FnScope ["font", "amounts", "found", "at", "amount"] ["font", "amounts"] (defScope (top 42)) := ⟨rfl, rfl, rfl, by decide +kernel, rfl, by decide +kernel, by decide +kernel⟩
theorem d_wants_by_mask (T : Txt K mg C) (D_number_of_sets : Df P w K mg base "number_of_sets" 3 (spNSets C)) (D_subset_sums : Df P w K mg base "subset_sums" 1 (spSums1 G)) : Df P w K mg base "wants_by_mask" 6 (spWantM C G) := by
  have sc := sc_wants_by_mask
  refine FnT.df (T.fn ("wants_by_mask", 42) (by decide)) sc len2 (fun _ _ _ _ _ _ us hl => match us, hl with | [_, _], _ => rfl) (fun f cdv A outer s H vs Q E hr h => ?_)
  have hu := hu_of hr
  have hu64 := hr.units
  have hu0 := Nat.lt_of_succ_lt hu
  obtain ⟨x1, x2, rfl, h⟩ := h
  refine ⟨_, (pss_cons (ps_set (i := 2) sc.nd rfl (by first | exact Or.inl rfl | exact Or.inr rfl) (pe_op op_rep (pe_lst (pa_cons pe_int pa_nil)) (pe_df D_number_of_sets (hr.mono (by decide)) rfl (pa_cons (pv 0) pa_nil))))
  (pss_cons (ps_for PassesOwn.never rfl (pi_enumK K rfl T.f_enumerate (pa_cons (pv 1) pa_nil)) (pg_tupK K (n := 2) rfl (pgs_cons (pg_name (i := 3) sc.nd rfl (by first | exact Or.inl rfl | exact Or.inr rfl)) (pgs_cons (pg_name (i := 4) sc.nd rfl (by first | exact Or.inl rfl | exact Or.inr rfl)) pgs_nil))) (pss_one (ps_asg (pv 4) (pg_sub (pv 2) (pe_op op_shl pe_int (pv 3)) set_list (by intro _; rfl)))))
  (pss_one (ps_ret (pe_df D_subset_sums (hr.mono (by decide)) rfl (pa_cons (pv 2) pa_nil)))))), ?_⟩
  obtain ⟨f', F, a, nm, rfl, hF, rfl, ha, q⟩ := h
  have hn := hF.1.n
  have h32 : 2 ^ F.n ≤ 32 := Nat.le_trans (Nat.pow_le_pow_right (by decide) hn.2) (by decide)
  decreasing_trivial
  refine ⟨by show 1 ≤ sizeLine; decide, fun l0 hl0 => ?_⟩
  decreasing_trivial
  refine r_sp1 ⟨f', F, rfl, hF.mono (Fm.new (b := ⟨false, G⟩) hl0), ?_⟩
  refine ⟨l0, _, _, rfl, rfl, upd_same, (rep_ok h32).1, (rep_ok h32).2.1, (rep_ok h32).2.2, fun l hl => ?_⟩
  rw [rep_byM]
  have e0 : Fs G H (upd (upd H l0 (.lst [.int 0])) l (.lst (byM F.n fun _ => 0))) := (Fm.new hl0).trans (Fm.new hl)
  have nl : Nw ⟨false, G⟩ H l := (Fm.new (b := ⟨false, G⟩) hl0).nw hl
  have hv := e0.lst ha
  decreasing_trivial
  refine ⟨a, _, rfl, SqL.of hv, ?_⟩
  refine for_it (walk_enum (xs := amK F nm)) (fun i σ H1 => ∃ v3 v4, σ = [some (.ref f'), some (.ref a), some (.ref l), v3, v4] ∧ Fs G H H1 ∧ H1 l = some (.lst (byM F.n (exL ((F.wtP nm).take i))))) ⟨none, none, rfl, e0, upd_same⟩ (fun i σ H1 _ hp => ?_) (fun i x σ H1 H2 hi hp hx => ?_) (fun σ H1 hp => ?_)
  · obtain ⟨v3, v4, rfl, e1, h2⟩ := hp
    exact SqL.of (e1.lst ha)
  · obtain ⟨v3, v4, rfl, e1, h2⟩ := hp
    obtain ⟨T', x1, x2, rfl, hT', rfl, hx1, hx2⟩ := hx
    refine ⟨T', _, rfl, SqT.of upd_same, rfl, _, _, rfl, _, _, rfl, rfl, ?_⟩
    cases hx1
    unfold amK at hx2
    dsimp only at hx2
    rw [List.getElem?_map] at hx2
    cases hc : F.ws[i]? with
    | none =>
      rw [hc] at hx2
      cases hx2
    | some c =>
    rw [hc] at hx2
    cases hx2
    have hi5 : i < F.n := by
      have := (List.getElem?_eq_some_iff.mp hc).1
      exact this
    have h2' := (Fm.new (b := ⟨false, G⟩) (o := .tup [V.int ((i : Nat) : Int), V.int (nm c)]) hT').lst h2
    decreasing_trivial
    refine r_I ⟨by omega, by omega, by decide⟩ ?_
    have e4 : (1 : Int) * 2 ^ ((i : Nat) : Int).toNat = ((2 ^ i : Nat) : Int) := by
      rw [Int.one_mul, Int.toNat_natCast]
      simp
    rw [e4]
    refine r_setN h2' (by rw [byM_len]; exact Nat.pow_lt_pow_right (by decide) hi5) ?_
    decreasing_trivial
    refine ⟨_, _, rfl, (e1.trans (Fm.new hT')).edit nl h2' rfl, ?_⟩
    rw [upd_same, byM_set]
    exact congrArg (fun z => some (HO.lst z)) (byM_congr fun m hm => wt_take hF.1 hc m)
  · obtain ⟨v3, v4, rfl, e1, h2⟩ := hp
    have e5 : (amK F nm).length = (F.wtP nm).length := by simp [amK, Ft.wtP]
    rw [e5, List.take_length] at h2
    decreasing_trivial
    refine r_sp1 ⟨l, F.n, _, rfl, hn, h2, fun H2 p e2 n2 h3 => ?_⟩
    refine q _ p (e1.trans e2) (e1.nw' n2) ?_
    rw [h3]
    exact congrArg (fun z => some (HO.lst z)) (byM_congr fun m hm => Ft.want_zt hF.1 nm hm)
end
end Hy
namespace Hy
open PySem PySem.Spec PyProof.Rows L2
local macro_rules | `(tactic| decreasing_trivial) => `(tactic| ((try (with_reducible conv => whnf)); repeat (first
    | with_reducible refine iteT ?_
    | with_reducible refine iteF ?_
    | with_reducible refine iteNT ?_
    | with_reducible refine iteNF ?_
    | with_reducible refine r_isi_int ?_
    | with_reducible refine r_isi_bool ?_
    | with_reducible refine r_isi_str ?_
    | with_reducible refine r_eqN ?_
    | with_reducible refine r_neN ?_
    | with_reducible refine r_eqS ?_
    | with_reducible refine r_neS ?_
    | with_reducible refine r_seq ?_
    | with_reducible refine r_asg ?_
    | with_reducible refine r_gname ?_
    | with_reducible refine r_ret ?_
    | with_reducible refine r_drop ?_
    | with_reducible refine r_next ?_
    | with_reducible refine r_op ?_
    | with_reducible refine r_var (by with_unfolding_all exact rfl) ?_
    | with_reducible refine r_c ?_
    | with_reducible refine r_cons ?_
    | with_reducible refine r_nil ?_
    | with_reducible refine r_un ?_
    | with_reducible refine r_I0 ?_
    | with_reducible refine r_U ?_
    | with_reducible refine r_df ?_
    | with_reducible refine r_cb ?_
    | with_reducible refine r_ifS ?_
    | with_reducible refine r_ifE ?_
    | with_reducible refine r_test ?_
    | with_reducible refine r_B ?_
    | with_reducible refine r_tand ?_
    | with_reducible refine r_tor ?_
    | with_reducible refine r_tnot ?_
    | with_reducible refine r_andV ?_
    | with_reducible refine r_orV ?_
    | with_reducible refine r_notV ?_
    | with_reducible refine r_blif ?_
    | with_reducible refine r_bl ?_
    | with_reducible refine r_chain ?_
    | with_reducible refine r_tup ?_
    | with_reducible refine r_lst ?_
    | with_reducible refine r_fld ?_
    | with_reducible refine r_dget ?_
    | with_reducible refine r_din ?_
    | with_reducible refine r_pt ?_
    | with_reducible refine r_mt ?_
    | with_reducible refine r_iEnumS ?_
    | with_reducible refine r_bm ?_
    | with_reducible refine r_iStr ?_
    | with_reducible refine r_lcT ?_
    | with_reducible refine r_dcT ?_
    | with_reducible refine r_iList ?_
    | with_reducible refine r_iTup ?_
    | with_reducible refine r_iRng1 ?_
    | with_reducible refine r_iRng2 ?_
    | with_reducible refine r_iEnum ?_
    | with_reducible refine r_iZip ?_
    | with_reducible refine r_iKeys ?_
    | with_reducible refine r_iItems ?_
    | with_reducible refine r_iVals ?_
    | with_reducible refine r_lstRg ?_
    | with_reducible refine r_rg1 ?_
    | with_reducible refine r_sortDf ?_
    | with_reducible refine r_bits ?_
    | with_reducible refine r_forT ?_
    | with_reducible refine r_augS ?_
    | with_reducible refine r_gsub ?_
    | with_reducible refine r_bm0 ?_
    | with_reducible refine r_sortLam ?_
    | with_reducible refine r_sfld ?_
    | with_reducible refine r_dput ?_
    | with_reducible refine r_dnewK ?_
    | with_reducible refine r_mk ?_
    | with_reducible refine r_con ?_
    | with_reducible refine r_lockS ?_
    | with_reducible refine r_sl ?_
    | with_reducible refine r_part ?_
    | with_reducible refine r_nopart ?_
    | with_reducible refine r_dget2 ?_
    | with_reducible refine r_isN ?_
    | with_reducible refine r_notN ?_
    | with_reducible refine r_par ?_
    | with_reducible refine r_par2 ?_
    | with_reducible refine r_yes ?_
    | with_reducible refine r_scT ?_)))
section
variable {P : Program} {w : World} {K : PySem.W.Frag} {mg : Str → Option Value} {base : Heap} {C : Ad} {G : List (Addr × Str)}
theorem sc_stock_of : FnScope ["case", "font", "kind", "many"] ["case"] (defScope (top 43)) := ⟨rfl, rfl, rfl, by decide +kernel, rfl, by decide +kernel, by decide +kernel⟩
theorem d_stock_of (T : Txt K mg C) (D_Pile_font : Pt P w K mg base C.CC "font" 1 (spFontC C)) (D_Pile_plates : Pt P w K mg base C.CC "plates" 1 (spPlates C G)) (D_Font_seen : Mt P w K mg base C.CF "seen" 3 (spSeen C G)) (D_mask_of : Df P w K mg base "mask_of" 1 (spMaskOf C G)) : Df P w K mg base "stock_of" 6 (spStockOf C G) := by
  have sc := sc_stock_of
  refine FnT.df (T.fn ("stock_of", 43) (by decide)) sc len1 (fun _ _ _ _ _ _ us hl => match us, hl with | [_], _ => rfl) (fun f cdv A outer s H vs Q E hr h => ?_)
  have hu := hu_of hr
  have hu64 := hr.units
  have hu0 := Nat.lt_of_succ_lt hu
  obtain ⟨x1, rfl, h⟩ := h
  refine ⟨_, (pss_cons (ps_set (i := 1) sc.nd rfl (by first | exact Or.inl rfl | exact Or.inr rfl) (pe_prp D_Pile_font (hr.mono (by decide)) (pv 0) rfl))
  (pss_one (ps_ret (pe_lc (own := [("kind", 2), ("many", 3)]) rfl sc.nd (pi_tupK K (pe_prp D_Pile_plates (hr.mono (by decide)) (pv 0) rfl)) (blkOk_by (N := ["case", "font", "kind", "many"]) (sc := defScope (top 43)) (by decide +kernel)) (fun _ _ _ _ _ => (pg_tupK K (n := 2) rfl (pgs_cons (pg_name (i := 2) sc.nd rfl (by first | exact Or.inl rfl | exact Or.inr rfl)) (pgs_cons (pg_name (i := 3) sc.nd rfl (by first | exact Or.inl rfl | exact Or.inr rfl)) pgs_nil)))) (fun _ _ _ _ _ => pts_nil) (fun _ _ _ _ _ => (pe_tup (pa_cons (pv 2) (pa_cons (pe_df D_mask_of (hr.mono (by decide)) rfl (pa_cons (pv 1) (pa_cons (pe_mth D_Font_seen (hr.mono (by decide)) (pv 1) (pa_cons (pv 2) pa_nil)) pa_nil))) (pa_cons (pv 3) pa_nil))))))))), ?_⟩
  obtain ⟨x', f', F, st, rfl, hC, q⟩ := h
  obtain ⟨hF, so, d, dx, fs, v⟩ := id hC
  decreasing_trivial
  refine ⟨x', dx, fs, rfl, v.at_, r_sp1 ⟨x', f', F, st, rfl, hC, ?_⟩⟩
  decreasing_trivial
  refine ⟨x', dx, fs, rfl, v.at_, r_sp1 ⟨x', f', F, st, rfl, hC, fun H1 p ts e1 hp hts => ?_⟩⟩
  refine ⟨p, rfl, ⟨_, SqT.of hp⟩, fun D hD => ?_⟩
  refine cp_it walk_tup (Lr ⟨false, G⟩ (RTri F) H1 D (fun i => st.take i)) (Lr.start hD rfl) (fun i H2 _ hp2 => SqT.of (hp2.1.tup hp)) (fun i x H2 H3 hi hp2 hx => ?_) (fun H2 hp2 => ?_)
  · obtain ⟨rfl, hx⟩ := hx
    obtain ⟨p0, hp0, rfl⟩ : ∃ t, ts[i]? = some t ∧ x = .ref t := by
      rw [List.getElem?_map] at hx
      cases ht : ts[i]? with
      | none =>
        rw [ht] at hx
        cases hx
      | some t =>
        rw [ht] at hx
        cases hx
        exact ⟨t, rfl, rfl⟩
    obtain ⟨kv, hkv, ht⟩ := paired_at hts hp0
    unfold stK at hkv
    rw [List.getElem?_map] at hkv
    cases hst : st[i]? with
    | none =>
      rw [hst] at hkv
      cases hkv
    | some pr =>
    rw [hst] at hkv
    cases hkv
    have hk0 := so.ok _ (List.mem_of_getElem? hst)
    have hF1 := hF.mono (e1.trans hp2.1)
    have hF1' := hF1.at
    obtain ⟨o, dx1, fs1, r1, hh1, hk1, v1⟩ := id hF1'
    refine ⟨p0, _, rfl, SqT.of (hp2.1.tup ht), rfl, _, _, rfl, _, _, rfl, rfl, rfl, ?_⟩
    decreasing_trivial
    refine ⟨f', dx1, fs1, rfl, v1.at_, v1.no _ (by decide), ?_⟩
    decreasing_trivial
    refine r_sp2 ?_
    refine ⟨f', F, pr.1, rfl, hF1', hk0, rfl, fun H4 e4 => ?_⟩
    decreasing_trivial
    refine r_sp2 ?_
    refine ⟨f', F, fun c => decide (c ∈ F.shl pr.1), rfl, hF1'.mono e4, rfl, fun H5 e5 => ?_⟩
    decreasing_trivial
    refine ⟨by show 3 ≤ sizeLine; decide, fun t ht => ?_⟩
    refine hp2.add (a := pr) (stb_tri F) hD ((e4.trans e5).trans (Fm.new ht)) ⟨t, rfl, upd_same⟩ (by rw [List.length_take]; have := so.len; omega) ?_
    rw [List.take_add_one, hst]
    rfl
  · obtain ⟨e2, vs, h1, h2⟩ := hp2
    have e3 : (ts.map V.ref).length = st.length := by
      rw [List.length_map, Paired.length hts]
      simp [stK]
    dsimp only at h2
    rw [e3, List.take_length] at h2
    exact q _ D (e1.trans e2) ⟨vs, h1, h2⟩
theorem sc_amounts_of : FnScope ["wants", "sign"] ["wants"] (defScope (top 44)) := ⟨rfl, rfl, rfl, by decide +kernel, rfl, by decide +kernel, by decide +kernel⟩
theorem d_amounts_of (T : Txt K mg C) (D_Wants_font : Pt P w K mg base C.CW "font" 1 (spFontW C)) (D_Font_signs : Pt P w K mg base C.CF "signs" 1 (spSigns C)) (D_Wants_getitem : Sl P w K mg base C.CW "__getitem__" 4 (spItem C)) : Df P w K mg base "amounts_of" 7 (spAmounts C G) := by
  have sc := sc_amounts_of
  refine FnT.df (T.fn ("amounts_of", 44) (by decide)) sc len1 (fun _ _ _ _ _ _ us hl => match us, hl with | [_], _ => rfl) (fun f cdv A outer s H vs Q E hr h => ?_)
  have hu := hu_of hr
  have hu64 := hr.units
  have hu0 := Nat.lt_of_succ_lt hu
  obtain ⟨x1, rfl, h⟩ := h
  refine ⟨_, (pss_one (ps_ret (pe_lc (own := [("sign", 1)]) rfl sc.nd (pi_str (pe_prp D_Font_signs (hr.mono (by decide)) (pe_prp D_Wants_font (hr.mono (by decide)) (pv 0) rfl) rfl)) (blkOk_by (N := ["wants", "sign"]) (sc := defScope (top 44)) (by decide +kernel)) (fun _ _ _ _ _ => (pg_name (i := 1) sc.nd rfl (by first | exact Or.inl rfl | exact Or.inr rfl))) (fun _ _ _ _ _ => pts_nil) (fun _ _ _ _ _ => (ix_ownSl T.seqW D_Wants_getitem (hr.mono (by decide)) (pv 0) (pv 1)))))), ?_⟩
  obtain ⟨x', f', F, n, rfl, hW, q⟩ := h
  obtain ⟨hF, d, dx, fs, v⟩ := id hW
  decreasing_trivial
  refine ⟨x', dx, fs, rfl, v.at_, r_sp1 ⟨x', f', F, n, rfl, hW, ?_⟩⟩
  refine r_signs hF.at ?_
  refine ⟨_, rfl, fun D hD => ?_⟩
  refine cp_it walk_str (Lp ⟨false, G⟩ H D (giv (fun _ => true) (fun c => V.int (n c)) F.ws)) (Lp.start hD (giv_zero _ _ _)) (fun _ _ _ _ => trivial) (fun i x H1 H2 hi hp hx => ?_) (fun H1 hp => ?_)
  · obtain ⟨rfl, c, hc, rfl⟩ := hx
    have hc' : F.ws[i]? = some c := by simpa [Ft.W] using hc
    decreasing_trivial
    refine ⟨rfl, ?_⟩
    decreasing_trivial
    obtain ⟨hF2, d2, dx2, fs2, v2⟩ := id (hW.mono hp.1)
    refine ⟨x', dx2, fs2, rfl, v2.at_, r_sp2 ⟨x', f', F, n, c, rfl, hW.mono hp.1, rfl, List.mem_of_getElem? hc', ?_⟩⟩
    exact hp.add hD (Fm.refl _) (Nat.le_trans (giv_len _ _ _ _) (by have := hF.1.hi; omega)) (giv_yes hc' rfl)
  · have e1 : F.W.cps.size = F.ws.length := by simp [Ft.W]
    have h2 := hp.2
    rw [e1, giv_all, List.filter_eq_self.mpr (fun _ _ => rfl)] at h2
    exact q _ D hp.1 h2
end
end Hy
namespace Hy
open PySem PySem.Spec PyProof.Rows L2
local macro_rules | `(tactic| decreasing_trivial) => `(tactic| ((try (with_reducible conv => whnf)); repeat (first
    | with_reducible refine iteT ?_
    | with_reducible refine iteF ?_
    | with_reducible refine iteNT ?_
    | with_reducible refine iteNF ?_
    | with_reducible refine r_isi_int ?_
    | with_reducible refine r_isi_bool ?_
    | with_reducible refine r_isi_str ?_
    | with_reducible refine r_eqN ?_
    | with_reducible refine r_neN ?_
    | with_reducible refine r_eqS ?_
    | with_reducible refine r_neS ?_
    | with_reducible refine r_seq ?_
    | with_reducible refine r_asg ?_
    | with_reducible refine r_gname ?_
    | with_reducible refine r_ret ?_
    | with_reducible refine r_drop ?_
    | with_reducible refine r_next ?_
    | with_reducible refine r_op ?_
    | with_reducible refine r_var (by with_unfolding_all exact rfl) ?_
    | with_reducible refine r_c ?_
    | with_reducible refine r_cons ?_
    | with_reducible refine r_nil ?_
    | with_reducible refine r_un ?_
    | with_reducible refine r_I0 ?_
    | with_reducible refine r_U ?_
    | with_reducible refine r_df ?_
    | with_reducible refine r_cb ?_
    | with_reducible refine r_ifS ?_
    | with_reducible refine r_ifE ?_
    | with_reducible refine r_test ?_
    | with_reducible refine r_B ?_
    | with_reducible refine r_tand ?_
    | with_reducible refine r_tor ?_
    | with_reducible refine r_tnot ?_
    | with_reducible refine r_andV ?_
    | with_reducible refine r_orV ?_
    | with_reducible refine r_notV ?_
    | with_reducible refine r_blif ?_
    | with_reducible refine r_bl ?_
    | with_reducible refine r_chain ?_
    | with_reducible refine r_tup ?_
    | with_reducible refine r_lst ?_
    | with_reducible refine r_fld ?_
    | with_reducible refine r_dget ?_
    | with_reducible refine r_din ?_
    | with_reducible refine r_pt ?_
    | with_reducible refine r_mt ?_
    | with_reducible refine r_iEnumS ?_
    | with_reducible refine r_bm ?_
    | with_reducible refine r_iStr ?_
    | with_reducible refine r_lcT ?_
    | with_reducible refine r_dcT ?_
    | with_reducible refine r_iList ?_
    | with_reducible refine r_iTup ?_
    | with_reducible refine r_iRng1 ?_
    | with_reducible refine r_iRng2 ?_
    | with_reducible refine r_iEnum ?_
    | with_reducible refine r_iZip ?_
    | with_reducible refine r_iKeys ?_
    | with_reducible refine r_iItems ?_
    | with_reducible refine r_iVals ?_
    | with_reducible refine r_lstRg ?_
    | with_reducible refine r_rg1 ?_
    | with_reducible refine r_sortDf ?_
    | with_reducible refine r_bits ?_
    | with_reducible refine r_forT ?_
    | with_reducible refine r_augS ?_
    | with_reducible refine r_gsub ?_
    | with_reducible refine r_bm0 ?_
    | with_reducible refine r_sortLam ?_
    | with_reducible refine r_sfld ?_
    | with_reducible refine r_dput ?_
    | with_reducible refine r_dnewK ?_
    | with_reducible refine r_mk ?_
    | with_reducible refine r_con ?_
    | with_reducible refine r_lockS ?_
    | with_reducible refine r_sl ?_
    | with_reducible refine r_part ?_
    | with_reducible refine r_nopart ?_
    | with_reducible refine r_dget2 ?_
    | with_reducible refine r_isN ?_
    | with_reducible refine r_notN ?_
    | with_reducible refine r_par ?_
    | with_reducible refine r_par2 ?_
    | with_reducible refine r_yes ?_
    | with_reducible refine r_scT ?_)))
section
variable {P : Program} {w : World} {K : PySem.W.Frag} {mg : Str → Option Value} {base : Heap} {C : Ad} {G : List (Addr × Str)}
theorem sc_slacks : FnScope ["font", "stock", "amounts", "much", "less"] ["font", "stock", "amounts"] (defScope (top 45)) := ⟨rfl, rfl, rfl, by decide +kernel, rfl, by decide +kernel, by decide +kernel⟩
theorem d_slacks (T : Txt K mg C) (D_bearings_of : Df P w K mg base "bearings_of" 6 (spBear C G)) (D_wants_by_mask : Df P w K mg base "wants_by_mask" 6 (spWantM C G)) : Df P w K mg base "slacks" 8 (spSlacks C G) := by
  have sc := sc_slacks
  refine FnT.df (T.fn ("slacks", 45) (by decide)) sc len3 (fun _ _ _ _ _ _ us hl => match us, hl with | [_, _, _], _ => rfl) (fun f cdv A outer s H vs Q E hr h => ?_)
  have hu := hu_of hr
  have hu64 := hr.units
  have hu0 := Nat.lt_of_succ_lt hu
  obtain ⟨x1, x2, x3, rfl, h⟩ := h
  refine ⟨_, (pss_one (ps_ret (pe_lc (own := [("much", 3), ("less", 4)]) rfl sc.nd (pi_zipK K rfl T.f_zip (pa_cons (pe_df D_bearings_of (hr.mono (by decide)) rfl (pa_cons (pv 0) (pa_cons (pv 1) pa_nil))) (pa_cons (pe_df D_wants_by_mask (hr.mono (by decide)) rfl (pa_cons (pv 0) (pa_cons (pv 2) pa_nil))) pa_nil))) (blkOk_by (N := ["font", "stock", "amounts", "much", "less"]) (sc := defScope (top 45)) (by decide +kernel)) (fun _ _ _ _ _ => (pg_tupK K (n := 2) rfl (pgs_cons (pg_name (i := 3) sc.nd rfl (by first | exact Or.inl rfl | exact Or.inr rfl)) (pgs_cons (pg_name (i := 4) sc.nd rfl (by first | exact Or.inl rfl | exact Or.inr rfl)) pgs_nil)))) (fun _ _ _ _ _ => pts_nil) (fun _ _ _ _ _ => (pe_op op_sub (pv 3) (pv 4)))))), ?_⟩
  obtain ⟨f', F, a, b, st, nm, rfl, hF, rfl, ha, rfl, hb, q⟩ := h
  decreasing_trivial
  refine r_sp2 ⟨f', F, a, st, rfl, hF, rfl, ha, fun H1 p1 e1 n1 h1 => ?_⟩
  decreasing_trivial
  refine r_sp2 ⟨f', F, b, nm, rfl, hF.mono e1, rfl, e1.lst hb, fun H2 p2 e2 n2 h2 => ?_⟩
  decreasing_trivial
  have h1' := e2.lst h1
  refine ⟨p1, p2, _, _, rfl, SqL.of h1', SqL.of h2, fun D hD => ?_⟩
  refine cp_it (walk_zip (n := 2 ^ F.n) (by rw [byM_len, byM_len]; omega)) (Lp ⟨false, G⟩ H2 D (fun i => (List.range i).map fun m => V.int (slk F st nm m))) (Lp.start hD rfl) (fun i H3 _ hp => ⟨SqL.of (hp.1.lst h1'), SqL.of (hp.1.lst h2)⟩) (fun i x H3 H4 hi hp hx => ?_) (fun H3 hp => ?_)
  · obtain ⟨T', x1, x2, rfl, hT', rfl, hx1, hx2⟩ := hx
    refine ⟨T', _, rfl, SqT.of upd_same, rfl, _, _, rfl, _, _, rfl, rfl, rfl, ?_⟩
    dsimp only at hx1 hx2
    rw [byM_get hi] at hx1 hx2
    cases hx1
    cases hx2
    decreasing_trivial
    refine hp.add hD (Fm.new hT') ?_ ?_
    · rw [List.length_map, List.length_range]
      have := pow32 hF.1
      omega
    · rw [List.range_succ, List.map_append]
      rfl
  · exact q _ D ((e1.trans e2).trans hp.1) hp.2
theorem sc_slacks_of : FnScope ["case", "wants"] ["case", "wants"] (defScope (top 46)) := ⟨rfl, rfl, rfl, by decide +kernel, rfl, by decide +kernel, by decide +kernel⟩
theorem d_slacks_of (T : Txt K mg C) (D_Pile_font : Pt P w K mg base C.CC "font" 1 (spFontC C)) (D_stock_of : Df P w K mg base "stock_of" 6 (spStockOf C G)) (D_amounts_of : Df P w K mg base "amounts_of" 7 (spAmounts C G)) (D_slacks : Df P w K mg base "slacks" 8 (spSlacks C G)) : Df P w K mg base "slacks_of" 9 (spSlacksOf C G) := by
  have sc := sc_slacks_of
  refine FnT.df (T.fn ("slacks_of", 46) (by decide)) sc len2 (fun _ _ _ _ _ _ us hl => match us, hl with | [_, _], _ => rfl) (fun f cdv A outer s H vs Q E hr h => ?_)
  have hu := hu_of hr
  have hu64 := hr.units
  have hu0 := Nat.lt_of_succ_lt hu
  obtain ⟨x1, x2, rfl, h⟩ := h
  refine ⟨_, (pss_one (ps_ret (pe_df D_slacks (hr.mono (by decide)) rfl (pa_cons (pe_prp D_Pile_font (hr.mono (by decide)) (pv 0) rfl) (pa_cons (pe_df D_stock_of (hr.mono (by decide)) rfl (pa_cons (pv 0) pa_nil)) (pa_cons (pe_df D_amounts_of (hr.mono (by decide)) rfl (pa_cons (pv 1) pa_nil)) pa_nil)))))), ?_⟩
  obtain ⟨x', y', f', F, st, nm, rfl, rfl, hC, hW, q⟩ := h
  obtain ⟨hF, so, d, dx, fs, v⟩ := id hC
  decreasing_trivial
  refine ⟨x', dx, fs, rfl, v.at_, r_sp1 ⟨x', f', F, st, rfl, hC, ?_⟩⟩
  decreasing_trivial
  refine r_sp1 ⟨x', f', F, st, rfl, hC, fun H1 p1 e1 h1 => ?_⟩
  decreasing_trivial
  refine r_sp1 ⟨y', f', F, nm, rfl, hW.mono e1, fun H2 p2 e2 h2 => ?_⟩
  decreasing_trivial
  refine r_sp3 ⟨f', F, p1, p2, st, nm, rfl, (hF.mono (e1.trans e2)).at, rfl, h1.mono e2, rfl, h2, fun H3 p3 e3 h3 => ?_⟩
  exact q _ p3 ((e1.trans e2).trans e3) h3
end
end Hy
namespace Hy
open PySem PySem.Spec PyProof.Rows L2
local macro_rules | `(tactic| decreasing_trivial) => `(tactic| ((try (with_reducible conv => whnf)); repeat (first
    | with_reducible refine iteT ?_
    | with_reducible refine iteF ?_
    | with_reducible refine iteNT ?_
    | with_reducible refine iteNF ?_
    | with_reducible refine r_isi_int ?_
    | with_reducible refine r_isi_bool ?_
    | with_reducible refine r_isi_str ?_
    | with_reducible refine r_eqN ?_
    | with_reducible refine r_neN ?_
    | with_reducible refine r_eqS ?_
    | with_reducible refine r_neS ?_
    | with_reducible refine r_seq ?_
    | with_reducible refine r_asg ?_
    | with_reducible refine r_gname ?_
    | with_reducible refine r_ret ?_
    | with_reducible refine r_drop ?_
    | with_reducible refine r_next ?_
    | with_reducible refine r_op ?_
    | with_reducible refine r_var (by with_unfolding_all exact rfl) ?_
    | with_reducible refine r_c ?_
    | with_reducible refine r_cons ?_
    | with_reducible refine r_nil ?_
    | with_reducible refine r_un ?_
    | with_reducible refine r_I0 ?_
    | with_reducible refine r_U ?_
    | with_reducible refine r_df ?_
    | with_reducible refine r_cb ?_
    | with_reducible refine r_ifS ?_
    | with_reducible refine r_ifE ?_
    | with_reducible refine r_test ?_
    | with_reducible refine r_B ?_
    | with_reducible refine r_tand ?_
    | with_reducible refine r_tor ?_
    | with_reducible refine r_tnot ?_
    | with_reducible refine r_andV ?_
    | with_reducible refine r_orV ?_
    | with_reducible refine r_notV ?_
    | with_reducible refine r_blif ?_
    | with_reducible refine r_bl ?_
    | with_reducible refine r_chain ?_
    | with_reducible refine r_tup ?_
    | with_reducible refine r_lst ?_
    | with_reducible refine r_fld ?_
    | with_reducible refine r_dget ?_
    | with_reducible refine r_din ?_
    | with_reducible refine r_pt ?_
    | with_reducible refine r_mt ?_
    | with_reducible refine r_iEnumS ?_
    | with_reducible refine r_bm ?_
    | with_reducible refine r_iStr ?_
    | with_reducible refine r_lcT ?_
    | with_reducible refine r_dcT ?_
    | with_reducible refine r_iList ?_
    | with_reducible refine r_iTup ?_
    | with_reducible refine r_iRng1 ?_
    | with_reducible refine r_iRng2 ?_
    | with_reducible refine r_iEnum ?_
    | with_reducible refine r_iZip ?_
    | with_reducible refine r_iKeys ?_
    | with_reducible refine r_iItems ?_
    | with_reducible refine r_iVals ?_
    | with_reducible refine r_lstRg ?_
    | with_reducible refine r_rg1 ?_
    | with_reducible refine r_sortDf ?_
    | with_reducible refine r_bits ?_
    | with_reducible refine r_forT ?_
    | with_reducible refine r_augS ?_
    | with_reducible refine r_gsub ?_
    | with_reducible refine r_bm0 ?_
    | with_reducible refine r_sortLam ?_
    | with_reducible refine r_sfld ?_
    | with_reducible refine r_dput ?_
    | with_reducible refine r_dnewK ?_
    | with_reducible refine r_mk ?_
    | with_reducible refine r_con ?_
    | with_reducible refine r_lockS ?_
    | with_reducible refine r_sl ?_
    | with_reducible refine r_part ?_
    | with_reducible refine r_nopart ?_
    | with_reducible refine r_dget2 ?_
    | with_reducible refine r_isN ?_
    | with_reducible refine r_notN ?_
    | with_reducible refine r_par ?_
    | with_reducible refine r_par2 ?_
    | with_reducible refine r_yes ?_
    | with_reducible refine r_scT ?_)))
section
variable {P : Program} {w : World} {K : PySem.W.Frag} {mg : Str → Option Value} {base : Heap} {C : Ad} {G : List (Addr × Str)}
theorem sc_Font_eq : FnScope ["self", "other"] ["self", "other"] (defScope (inClass (top 57) 4)) := ⟨rfl, rfl, rfl, by decide +kernel, rfl, by decide +kernel, by decide +kernel⟩
theorem d_Font_eq (T : Txt K mg C) (tyF : ∀ {H : Hp} {a dx : Addr} {fs : List (Str × V)}, H a = some (.ins C.CF dx fs) → TyOf K H (.ref a) (.ref C.CF)) : Sl P w K mg base C.CF "__eq__" 1 (spFontEq C) := by
  have sc := sc_Font_eq
  obtain ⟨f, fd, Gf, h1, h2, h3⟩ := T.s_eq.ex
  refine ⟨⟨f, h1, h2, h3, Fun.fnr Gf sc len2 (fun _ _ _ _ _ _ us hl => match us, hl with | [_, _], _ => rfl) (fun cdv A outer s H vs Q E hr h => ?_)⟩⟩
  have hu := hu_of hr
  have hu64 := hr.units
  have hu0 := Nat.lt_of_succ_lt hu
  obtain ⟨x1, x2, rfl, h⟩ := h
  refine ⟨_, (pss_one (ps_ret (pe_and (pe_callB (call_isi_ K) (by rfl) T.f_isinstance (by decide +kernel) (pa_cons (pv 1) (pa_cons (pe_gc (v := .ref C.CF) ⟨_, T.mF, rfl⟩ rfl) pa_nil))) (pe_and (pe_cmpR op_eq (pe_fldK K (pv 0) rfl) (pe_fldK K (pv 1) rfl) (nomark _)) (pe_one (pe_cmpR (op_eqDS hu0) (pe_fldK K (pv 0) rfl) (pe_fldK K (pv 1) rfl) (nomark _))))))), ?_⟩
  obtain ⟨f', F, rfl, rfl, hF, q⟩ := h
  obtain ⟨o, dx, fs, r, hh, hk, v, hu2⟩ := id hF
  decreasing_trivial
  refine ⟨_, _, _, _, true, rfl, ClsV.own _, TyX.base (tyF v.at_), T.isF, ?_⟩
  decreasing_trivial
  refine r_fld1 v.at_ T.cF T.nWord v.word ?_
  decreasing_trivial
  refine r_fld1 v.at_ T.cF T.nWord v.word ?_
  decreasing_trivial
  rw [decide_eq_true rfl]
  decreasing_trivial
  refine r_fld1 v.at_ T.cF T.nHeads v.heads ?_
  decreasing_trivial
  refine r_fld1 v.at_ T.cF T.nHeads v.heads ?_
  have hs : hk.all (fun p => isSt p.2) = true := List.all_eq_true.mpr fun p hp => by
    obtain ⟨_, c, e⟩ := v.hk.2.1 p hp
    rw [e]
    rfl
  refine ⟨hh, hh, hk, hk, rfl, rfl, hu2, hu2, hs, hs, ?_⟩
  have e : eqDI hk hk = true := by
    unfold eqDI
    rw [beq_self_eq_true, Bool.true_and, List.all_eq_true]
    intro p hp
    exact decide_eq_true (valV_self v.hk.2.2 hp)
  rw [e]
  exact q
theorem sc_need_one_font : FnScope ["one", "others", "other"] ["one", "others"] (defScope (top 32)) := ⟨rfl, rfl, rfl, by decide +kernel, rfl, by decide +kernel, by decide +kernel⟩

theorem d_need_one_font (T : Txt K mg C) (TF : FnT K mg "need_one_font" (top 32)) (D_Pile_font : Pt P w K mg base C.CC "font" 1 (spFontC C)) (D_Wants_font : Pt P w K mg base C.CW "font" 1 (spFontW C)) (D_Font_eq : Sl P w K mg base C.CF "__eq__" 1 (spFontEq C)) : Df P w K mg base "need_one_font" 4 (spOneFont C G) := by
  have sc := sc_need_one_font
  obtain ⟨f, fd, F, hm⟩ := TF.ex
  obtain ⟨oc, od, kV, doc, pm, an, cdv, ct, osl, rfl, lk, hcd⟩ := F.ex
  refine ⟨f, ?_, hm, F.kp⟩
  have R := StX.fn_star (P := P) (w := w) (mg := mg) (base := base) (k := 3) (CX := CX0) (sp := fun vs H Q E => ∃ x' y' p f F st, vs = [.ref x', .ref p] ∧ H p = some (.tup [.ref y']) ∧ CaseAt C H x' f F st ∧ OfFont C H y' f F ∧ ∀ H', Fs G H H' → Q .non H') lk hcd sc StX.cxUp_none (ps := ["one"]) (fun us rest hl => match us, rest, hl with | [_], [], _ => rfl | [_], _ :: _, _ => rfl) (fun A outer s H vs Q E hr h => ?_)
  · refine R.imp fun vs H Q E h => ?_
    obtain ⟨_, _, rfl, x', y', f, F, st, rfl, rfl, hC, hO, q⟩ := h
    refine ⟨[.ref x'], [.ref y'], rfl, rfl, by show 1 ≤ sizeLine; decide, fun p hp => ⟨x', y', p, f, F, st, rfl, upd_same, hC.mono (Fm.new (b := ⟨false, G⟩) hp), ?_, fun H' e => q H' ((Fm.new hp).trans e)⟩⟩
    rcases hO with ⟨st, h⟩ | ⟨n, h⟩
    · exact .inl ⟨st, h.mono (Fm.new (b := ⟨false, G⟩) hp)⟩
    · exact .inr ⟨n, h.mono (Fm.new (b := ⟨false, G⟩) hp)⟩
  · have hu := hu_of hr
    obtain ⟨x', y', p, f', F', st, rfl, hp, hC, hO, q⟩ := h
    rcases hO with ⟨s2, hO⟩ | ⟨n, hO⟩
    · suffices z : ∃ t, PSs (cxOf CX0 P w K mg base ["one", "others", "other"] "need_one_font" (defScope (top 32)) f cdv A outer s H E).nox (defBody (top 32)) t ∧ t { nx := fun _ H' => Q .non H', rt := Q } (L2.start ["one", "others", "other"] [.ref x', .ref p]) H by
        obtain ⟨t, h1, h2⟩ := z
        exact ⟨t, h1.nox, h2⟩
      refine ⟨_, (pss_one (ps_for PassesOwn.never rfl (pi_tupK K (pv 1)) (pg_name (i := 2) sc.nd rfl (by first | exact Or.inl rfl | exact Or.inr rfl)) (pss_one (ps_if (pt_cmpR (op_neSl T.neF T.objF D_Font_eq (hr.mono (by decide))) (pe_prp D_Pile_font (hr.mono (by decide)) (pv 2) rfl) (pe_prp D_Pile_font (hr.mono (by decide)) (pv 0) rfl) (nomark _)) (pss_one ps_never) pss_nil)))), ?_⟩
      decreasing_trivial
      have hn : ∀ (i : Nat) (v : V), [V.ref y'][i]? = some v → v = V.ref y' := fun i v e => by
        cases i with
        | zero => cases e; rfl
        | succ i => cases e
      refine ⟨p, rfl, ⟨_, SqT.of hp⟩, ?_⟩
      refine for_it (walk_tup (xs := [V.ref y'])) (fun i σ H1 => ∃ v2, σ = [some (.ref x'), some (.ref p), v2] ∧ H1 = H) ⟨_, rfl, rfl⟩ (fun i σ H1 _ hp2 => by obtain ⟨_, _, rfl⟩ := hp2; exact SqT.of hp) (fun i x σ H1 H2 hi hp2 hx => ?_) (fun σ H1 hp2 => ?_)
      · obtain ⟨_, rfl, rfl⟩ := hp2
        obtain ⟨rfl, hx⟩ := hx
        have hx := hn _ _ hx
        subst hx
        decreasing_trivial
        refine r_fontC hO ?_
        decreasing_trivial
        refine r_fontC hC ?_
        have hF := hC.1
        obtain ⟨o, dx, fs, r, hh, hk, v, hu2⟩ := id hF
        refine ⟨_, _, _, _, _, _, rfl, rfl, v.at_, v.at_, r_sp2 ⟨f', F', rfl, rfl, hF, ?_⟩⟩
        decreasing_trivial
        exact ⟨_, rfl, rfl⟩
      · obtain ⟨_, rfl, rfl⟩ := hp2
        exact q _ (Fm.refl _)
    · suffices z : ∃ t, PSs (cxOf CX0 P w K mg base ["one", "others", "other"] "need_one_font" (defScope (top 32)) f cdv A outer s H E).nox (defBody (top 32)) t ∧ t { nx := fun _ H' => Q .non H', rt := Q } (L2.start ["one", "others", "other"] [.ref x', .ref p]) H by
        obtain ⟨t, h1, h2⟩ := z
        exact ⟨t, h1.nox, h2⟩
      refine ⟨_, (pss_one (ps_for PassesOwn.never rfl (pi_tupK K (pv 1)) (pg_name (i := 2) sc.nd rfl (by first | exact Or.inl rfl | exact Or.inr rfl)) (pss_one (ps_if (pt_cmpR (op_neSl T.neF T.objF D_Font_eq (hr.mono (by decide))) (pe_prp D_Wants_font (hr.mono (by decide)) (pv 2) rfl) (pe_prp D_Pile_font (hr.mono (by decide)) (pv 0) rfl) (nomark _)) (pss_one ps_never) pss_nil)))), ?_⟩
      decreasing_trivial
      have hn : ∀ (i : Nat) (v : V), [V.ref y'][i]? = some v → v = V.ref y' := fun i v e => by
        cases i with
        | zero => cases e; rfl
        | succ i => cases e
      refine ⟨p, rfl, ⟨_, SqT.of hp⟩, ?_⟩
      refine for_it (walk_tup (xs := [V.ref y'])) (fun i σ H1 => ∃ v2, σ = [some (.ref x'), some (.ref p), v2] ∧ H1 = H) ⟨_, rfl, rfl⟩ (fun i σ H1 _ hp2 => by obtain ⟨_, _, rfl⟩ := hp2; exact SqT.of hp) (fun i x σ H1 H2 hi hp2 hx => ?_) (fun σ H1 hp2 => ?_)
      · obtain ⟨_, rfl, rfl⟩ := hp2
        obtain ⟨rfl, hx⟩ := hx
        have hx := hn _ _ hx
        subst hx
        decreasing_trivial
        refine r_fontW hO ?_
        decreasing_trivial
        refine r_fontC hC ?_
        have hF := hC.1
        obtain ⟨o, dx, fs, r, hh, hk, v, hu2⟩ := id hF
        refine ⟨_, _, _, _, _, _, rfl, rfl, v.at_, v.at_, r_sp2 ⟨f', F', rfl, rfl, hF, ?_⟩⟩
        decreasing_trivial
        exact ⟨_, rfl, rfl⟩
      · obtain ⟨_, rfl, rfl⟩ := hp2
        exact q _ (Fm.refl _)
end
end Hy
namespace Hy
open PySem PySem.Spec PyProof.Rows L2
local macro_rules | `(tactic| decreasing_trivial) => `(tactic| ((try (with_reducible conv => whnf)); repeat (first
    | with_reducible refine iteT ?_
    | with_reducible refine iteF ?_
    | with_reducible refine iteNT ?_
    | with_reducible refine iteNF ?_
    | with_reducible refine r_isi_int ?_
    | with_reducible refine r_isi_bool ?_
    | with_reducible refine r_isi_str ?_
    | with_reducible refine r_eqN ?_
    | with_reducible refine r_neN ?_
    | with_reducible refine r_eqS ?_
    | with_reducible refine r_neS ?_
    | with_reducible refine r_seq ?_
    | with_reducible refine r_asg ?_
    | with_reducible refine r_gname ?_
    | with_reducible refine r_ret ?_
    | with_reducible refine r_drop ?_
    | with_reducible refine r_next ?_
    | with_reducible refine r_op ?_
    | with_reducible refine r_var (by with_unfolding_all exact rfl) ?_
    | with_reducible refine r_c ?_
    | with_reducible refine r_cons ?_
    | with_reducible refine r_nil ?_
    | with_reducible refine r_un ?_
    | with_reducible refine r_I0 ?_
    | with_reducible refine r_U ?_
    | with_reducible refine r_df ?_
    | with_reducible refine r_cb ?_
    | with_reducible refine r_ifS ?_
    | with_reducible refine r_ifE ?_
    | with_reducible refine r_test ?_
    | with_reducible refine r_B ?_
    | with_reducible refine r_tand ?_
    | with_reducible refine r_tor ?_
    | with_reducible refine r_tnot ?_
    | with_reducible refine r_andV ?_
    | with_reducible refine r_orV ?_
    | with_reducible refine r_notV ?_
    | with_reducible refine r_blif ?_
    | with_reducible refine r_bl ?_
    | with_reducible refine r_chain ?_
    | with_reducible refine r_tup ?_
    | with_reducible refine r_lst ?_
    | with_reducible refine r_fld ?_
    | with_reducible refine r_dget ?_
    | with_reducible refine r_din ?_
    | with_reducible refine r_pt ?_
    | with_reducible refine r_mt ?_
    | with_reducible refine r_iEnumS ?_
    | with_reducible refine r_bm ?_
    | with_reducible refine r_iStr ?_
    | with_reducible refine r_lcT ?_
    | with_reducible refine r_dcT ?_
    | with_reducible refine r_iList ?_
    | with_reducible refine r_iTup ?_
    | with_reducible refine r_iRng1 ?_
    | with_reducible refine r_iRng2 ?_
    | with_reducible refine r_iEnum ?_
    | with_reducible refine r_iZip ?_
    | with_reducible refine r_iKeys ?_
    | with_reducible refine r_iItems ?_
    | with_reducible refine r_iVals ?_
    | with_reducible refine r_lstRg ?_
    | with_reducible refine r_rg1 ?_
    | with_reducible refine r_sortDf ?_
    | with_reducible refine r_bits ?_
    | with_reducible refine r_forT ?_
    | with_reducible refine r_augS ?_
    | with_reducible refine r_gsub ?_
    | with_reducible refine r_bm0 ?_
    | with_reducible refine r_sortLam ?_
    | with_reducible refine r_sfld ?_
    | with_reducible refine r_dput ?_
    | with_reducible refine r_dnewK ?_
    | with_reducible refine r_mk ?_
    | with_reducible refine r_con ?_
    | with_reducible refine r_lockS ?_
    | with_reducible refine r_sl ?_
    | with_reducible refine r_part ?_
    | with_reducible refine r_nopart ?_
    | with_reducible refine r_dget2 ?_
    | with_reducible refine r_isN ?_
    | with_reducible refine r_notN ?_
    | with_reducible refine r_par ?_
    | with_reducible refine r_par2 ?_
    | with_reducible refine r_yes ?_
    | with_reducible refine r_scT ?_)))
section
variable {P : Program} {w : World} {K : PySem.W.Frag} {mg : Str → Option Value} {base : Heap} {C : Ad} {G : List (Addr × Str)}
theorem sc_exact : FnScope ["case", "found", "kind", "shown", "many", "mask"] ["case"] (defScope (top 49)) := ⟨rfl, rfl, rfl, by decide +kernel, rfl, by decide +kernel, by decide +kernel⟩
theorem d_exact (T : Txt K mg C) (D_Pile_font : Pt P w K mg base C.CC "font" 1 (spFontC C)) (D_number_of_sets : Df P w K mg base "number_of_sets" 3 (spNSets C)) (D_stock_of : Df P w K mg base "stock_of" 6 (spStockOf C G)) (D_all_masks : Df P w K mg base "all_masks" 6 (spMasks C G)) (D_set_of : Df P w K mg base "set_of" 3 (spSetOf C G)) : Df P w K mg base "exact" 9 (spExact C G) := by
  have sc := sc_exact
  refine FnT.df (T.fn ("exact", 49) (by decide)) sc len1 (fun _ _ _ _ _ _ us hl => match us, hl with | [_], _ => rfl) (fun f cdv A outer s H vs Q E hr h => ?_)
  have hu := hu_of hr
  have hu64 := hr.units
  have hu0 := Nat.lt_of_succ_lt hu
  obtain ⟨x1, rfl, h⟩ := h
  refine ⟨_, (pss_cons (ps_set (i := 1) sc.nd rfl (by first | exact Or.inl rfl | exact Or.inr rfl) (pe_op op_rep (pe_lst (pa_cons pe_int pa_nil)) (pe_df D_number_of_sets (hr.mono (by decide)) rfl (pa_cons (pe_prp D_Pile_font (hr.mono (by decide)) (pv 0) rfl) pa_nil))))
  (pss_cons (ps_for PassesOwn.never rfl (pi_listK K (pe_df D_stock_of (hr.mono (by decide)) rfl (pa_cons (pv 0) pa_nil))) (pg_tupK K (n := 3) rfl (pgs_cons (pg_name (i := 2) sc.nd rfl (by first | exact Or.inl rfl | exact Or.inr rfl)) (pgs_cons (pg_name (i := 3) sc.nd rfl (by first | exact Or.inl rfl | exact Or.inr rfl)) (pgs_cons (pg_name (i := 4) sc.nd rfl (by first | exact Or.inl rfl | exact Or.inr rfl)) pgs_nil)))) (pss_one (ps_augS (pv 1) (pv 3) (get_listK K) (pv 4) ip_add set_list)))
  (pss_one (ps_ret (pe_dc (own := [("mask", 5)]) rfl sc.nd (pi_listK K (pe_df D_all_masks (hr.mono (by decide)) rfl (pa_cons (pe_prp D_Pile_font (hr.mono (by decide)) (pv 0) rfl) pa_nil))) (blkOk_by (N := ["case", "found", "kind", "shown", "many", "mask"]) (sc := defScope (top 49)) (by decide +kernel)) (fun _ _ _ _ _ => (pg_name (i := 5) sc.nd rfl (by first | exact Or.inl rfl | exact Or.inr rfl))) (fun _ _ _ _ _ => pts_one (pt_cmpR op_gt (pe_ix (ix_listK K) (pv 1) (pv 5) (fun _ _ => rfl)) pe_int (nomark _))) (fun _ _ _ _ _ => (pe_df D_set_of (hr.mono (by decide)) rfl (pa_cons (pe_prp D_Pile_font (hr.mono (by decide)) (pv 0) rfl) (pa_cons (pv 5) pa_nil)))) (fun _ _ _ _ _ => (pe_ix (ix_listK K) (pv 1) (pv 5) (fun _ _ => rfl)))))))), ?_⟩
  obtain ⟨x', f', F, st, rfl, hC, q⟩ := h
  obtain ⟨hF, so, d, dx, fs, v⟩ := id hC
  have hn := hF.1.n
  have h32 := pow32 hF.1
  decreasing_trivial
  refine ⟨by show 1 ≤ sizeLine; decide, fun l0 hl0 => ?_⟩
  have hC0 := hC.mono (Fm.new (b := ⟨false, G⟩) (o := .lst [.int 0]) hl0)
  decreasing_trivial
  refine r_fontC hC0 ?_
  decreasing_trivial
  refine r_sp1 ⟨f', F, rfl, hC0.1.at, ?_⟩
  refine ⟨l0, _, _, rfl, rfl, upd_same, (rep_ok h32).1, (rep_ok h32).2.1, (rep_ok h32).2.2, fun l hl => ?_⟩
  rw [rep_byM]
  have e0 : Fs G H (upd (upd H l0 (.lst [.int 0])) l (.lst (byM F.n fun _ => 0))) := (Fm.new hl0).trans (Fm.new hl)
  have nl : Nw ⟨false, G⟩ H l := (Fm.new (b := ⟨false, G⟩) hl0).nw hl
  decreasing_trivial
  refine r_sp1 ⟨x', f', F, st, rfl, hC.mono e0, fun H1 a e1 ha => ?_⟩
  obtain ⟨vs, hv, hp0⟩ := ha
  have hl1 := e1.lst (show upd (upd H l0 (.lst [.int 0])) l (.lst (byM F.n fun _ => 0)) l = some (.lst (byM F.n fun _ => 0)) from upd_same)
  have nal : a ≠ l := fun z => by
    subst z
    rw [hv] at hl1
    cases hl1
    obtain ⟨_, _, t, ht, _⟩ := paired_at hp0 (byM_get (f := fun _ => 0) (Nat.two_pow_pos F.n))
    cases ht
  refine ⟨a, rfl, ⟨_, SqL.of hv⟩, ?_⟩
  refine for_it (walk_list (xs := vs)) (fun i σ H1 => ∃ v2 v3 v4, σ = [some (.ref x'), some (.ref l), v2, v3, v4, none] ∧ Fs G H H1 ∧ StkL F H1 a st ∧ H1 a = some (.lst vs) ∧ H1 l = some (.lst (byM F.n (F.exF (st.take i))))) ⟨none, none, none, rfl, e0.trans e1, ⟨vs, hv, hp0⟩, hv, hl1⟩ (fun i σ H1 _ hp => ?_) (fun i x σ H1 H2 hi hp hx => ?_) (fun σ H1 hp => ?_)
  · obtain ⟨v3, v4, v5, rfl, e1, hs, h1, h2⟩ := hp
    exact SqL.of h1
  · obtain ⟨rfl, hx⟩ := hx
    obtain ⟨v3, v4, v5, rfl, e1, hs, h1, h2⟩ := hp
    obtain ⟨vs2, hv2, hp2⟩ := hs
    rw [h1] at hv2
    cases hv2
    obtain ⟨p, hp3, t, rfl, ht⟩ := paired_at hp2 hx
    refine ⟨t, _, rfl, SqT.of ht, rfl, _, _, rfl, _, _, rfl, _, _, rfl, rfl, ?_⟩
    decreasing_trivial
    have hm := F.mkp_lt fun c => decide (c ∈ F.shl p.1)
    refine r_ixN (SqL.of h2) (byM_get hm) ?_
    decreasing_trivial
    refine ⟨_, _, rfl, rfl, ?_⟩
    refine r_setN h2 (by rw [byM_len]; exact hm) ?_
    have e2 : Fs G H (upd H2 l (.lst ((byM F.n (F.exF (st.take i))).set (F.mks p.1) (.int (F.exF (st.take i) (F.mks p.1) + p.2))))) := e1.edit nl h2 rfl
    refine ⟨_, _, _, rfl, e2, ⟨vs, (upd_ne nal).trans h1, paired_imp hp2 fun _ _ r => (stb_tri F).lst h2 r⟩, (upd_ne nal).trans h1, ?_⟩
    rw [upd_same, byM_set]
    refine congrArg (fun z => some (HO.lst z)) (byM_congr fun m hm => ?_)
    rw [exP_take hp3]
    by_cases z : m = F.mks p.1
    · rw [if_pos z, if_pos z.symm, z]
    · rw [if_neg z, if_neg (fun y => z y.symm)]
      omega
  · obtain ⟨v3, v4, v5, rfl, e1, hs, h1, h2⟩ := hp
    rw [Paired.length hp0, List.take_length] at h2
    decreasing_trivial
    refine r_fontC (hC.mono e1) ?_
    decreasing_trivial
    refine r_sp1 ⟨f', F, rfl, (hF.mono e1).at, fun H2 p6 e2 n6 h6 => ?_⟩
    rw [ordV_eq h32] at h6
    refine ⟨p6, rfl, ⟨_, SqL.of h6⟩, fun D hD => ?_⟩
    have e02 := e1.trans e2
    refine cp_it (walk_list (xs := (ordN F.n).map fun m => V.int ((m : Nat) : Int))) (Dq ⟨false, G⟩ H2 D (giv (fun m => decide (0 < F.exF st m)) (fun m => (kT F m, V.int (F.exF st m))) (ordN F.n))) (Dq.start hD (giv_zero _ _ _)) (fun i H3 _ hp => SqL.of (hp.1.lst h6)) (fun i x H3 H4 hi hp hx => ?_) (fun H3 hp => ?_)
    · obtain ⟨rfl, hx⟩ := hx
      rw [List.getElem?_map] at hx
      cases hc : (ordN F.n)[i]? with
      | none =>
        rw [hc] at hx
        cases hx
      | some m =>
      rw [hc] at hx
      cases hx
      have hm := ordN_mem.mp (List.mem_of_getElem? hc)
      have dk : dOk (giv (fun m => decide (0 < F.exF st m)) (fun m => (kT F m, V.int (F.exF st m))) (ordN F.n) i) := dOk_nd fun p hp => by
        unfold giv at hp
        obtain ⟨m', _, rfl⟩ := List.mem_map.mp hp
        exact ⟨F.setL m', rfl, setL_nd hF.1 m'⟩
      have h2' := (e2.trans hp.1).lst h2
      decreasing_trivial
      refine ⟨rfl, ?_⟩
      decreasing_trivial
      refine r_ixN (SqL.of h2') (byM_get hm) ?_
      decreasing_trivial
      refine iteD (fun e => ?_) (fun e => ?_)
      · decreasing_trivial
        refine r_fontC (hC.mono (e02.trans hp.1)) ?_
        decreasing_trivial
        refine r_sp2 ⟨f', F, m, rfl, rfl, (hF.mono (e02.trans hp.1)).at, hm, fun H5 e5 => ?_⟩
        decreasing_trivial
        refine r_ixN (SqL.of (e5.lst h2')) (byM_get hm) ?_
        refine hp.add hD e5 dk rfl ?_ (giv_put (ordN_nodup _) (fun a ha b hb e => ?_) hc e)
        · refine Nat.le_trans (giv_len _ _ _ _) ?_
          rw [ordN_len]
          omega
        · exact qm_mkp hF.1 (ordN_mem.mp ha) (ordN_mem.mp hb) (Sum.inr.inj e)
      · exact hp.skip (Fm.refl _) dk (giv_no hc e)
    · have h3 := hp.2
      rw [List.length_map, giv_all] at h3
      exact q _ D (e02.trans hp.1) (e02.nw hD) h3
end
end Hy
namespace Hy
open PySem PySem.Spec PyProof.Rows L2
local macro_rules | `(tactic| decreasing_trivial) => `(tactic| ((try (with_reducible conv => whnf)); repeat (first
    | with_reducible refine iteT ?_
    | with_reducible refine iteF ?_
    | with_reducible refine iteNT ?_
    | with_reducible refine iteNF ?_
    | with_reducible refine r_isi_int ?_
    | with_reducible refine r_isi_bool ?_
    | with_reducible refine r_isi_str ?_
    | with_reducible refine r_eqN ?_
    | with_reducible refine r_neN ?_
    | with_reducible refine r_eqS ?_
    | with_reducible refine r_neS ?_
    | with_reducible refine r_seq ?_
    | with_reducible refine r_asg ?_
    | with_reducible refine r_gname ?_
    | with_reducible refine r_ret ?_
    | with_reducible refine r_drop ?_
    | with_reducible refine r_next ?_
    | with_reducible refine r_op ?_
    | with_reducible refine r_var (by with_unfolding_all exact rfl) ?_
    | with_reducible refine r_c ?_
    | with_reducible refine r_cons ?_
    | with_reducible refine r_nil ?_
    | with_reducible refine r_un ?_
    | with_reducible refine r_I0 ?_
    | with_reducible refine r_U ?_
    | with_reducible refine r_df ?_
    | with_reducible refine r_cb ?_
    | with_reducible refine r_ifS ?_
    | with_reducible refine r_ifE ?_
    | with_reducible refine r_test ?_
    | with_reducible refine r_B ?_
    | with_reducible refine r_tand ?_
    | with_reducible refine r_tor ?_
    | with_reducible refine r_tnot ?_
    | with_reducible refine r_andV ?_
    | with_reducible refine r_orV ?_
    | with_reducible refine r_notV ?_
    | with_reducible refine r_blif ?_
    | with_reducible refine r_bl ?_
    | with_reducible refine r_chain ?_
    | with_reducible refine r_tup ?_
    | with_reducible refine r_lst ?_
    | with_reducible refine r_fld ?_
    | with_reducible refine r_dget ?_
    | with_reducible refine r_din ?_
    | with_reducible refine r_pt ?_
    | with_reducible refine r_mt ?_
    | with_reducible refine r_iEnumS ?_
    | with_reducible refine r_bm ?_
    | with_reducible refine r_iStr ?_
    | with_reducible refine r_lcT ?_
    | with_reducible refine r_dcT ?_
    | with_reducible refine r_iList ?_
    | with_reducible refine r_iTup ?_
    | with_reducible refine r_iRng1 ?_
    | with_reducible refine r_iRng2 ?_
    | with_reducible refine r_iEnum ?_
    | with_reducible refine r_iZip ?_
    | with_reducible refine r_iKeys ?_
    | with_reducible refine r_iItems ?_
    | with_reducible refine r_iVals ?_
    | with_reducible refine r_lstRg ?_
    | with_reducible refine r_rg1 ?_
    | with_reducible refine r_sortDf ?_
    | with_reducible refine r_bits ?_
    | with_reducible refine r_forT ?_
    | with_reducible refine r_augS ?_
    | with_reducible refine r_gsub ?_
    | with_reducible refine r_bm0 ?_
    | with_reducible refine r_sortLam ?_
    | with_reducible refine r_sfld ?_
    | with_reducible refine r_dput ?_
    | with_reducible refine r_dnewK ?_
    | with_reducible refine r_mk ?_
    | with_reducible refine r_con ?_
    | with_reducible refine r_lockS ?_
    | with_reducible refine r_sl ?_
    | with_reducible refine r_part ?_
    | with_reducible refine r_nopart ?_
    | with_reducible refine r_dget2 ?_
    | with_reducible refine r_isN ?_
    | with_reducible refine r_notN ?_
    | with_reducible refine r_par ?_
    | with_reducible refine r_par2 ?_
    | with_reducible refine r_yes ?_
    | with_reducible refine r_scT ?_)))
section
variable {P : Program} {w : World} {K : PySem.W.Frag} {mg : Str → Option Value} {base : Heap} {C : Ad} {G : List (Addr × Str)}
theorem sc_alike : FnScope ["case", "other", "font", "mine", "their", "mask"] ["case", "other"] (defScope (top 50)) := ⟨rfl, rfl, rfl, by decide +kernel, rfl, by decide +kernel, by decide +kernel⟩
theorem d_alike (T : Txt K mg C) (D_Pile_font : Pt P w K mg base C.CC "font" 1 (spFontC C)) (D_need_one_font : Df P w K mg base "need_one_font" 4 (spOneFont C G)) (D_stock_of : Df P w K mg base "stock_of" 6 (spStockOf C G)) (D_bearings_of : Df P w K mg base "bearings_of" 6 (spBear C G)) (D_all_masks : Df P w K mg base "all_masks" 6 (spMasks C G)) (D_set_of : Df P w K mg base "set_of" 3 (spSetOf C G)) : Df P w K mg base "alike" 9 (spAlike C G) := by
  have sc := sc_alike
  refine FnT.df (T.fn ("alike", 50) (by decide)) sc len2 (fun _ _ _ _ _ _ us hl => match us, hl with | [_, _], _ => rfl) (fun f cdv A outer s H vs Q E hr h => ?_)
  have hu := hu_of hr
  have hu64 := hr.units
  have hu0 := Nat.lt_of_succ_lt hu
  obtain ⟨x1, x2, rfl, h⟩ := h
  refine ⟨_, (pss_cons (ps_set (i := 2) sc.nd rfl (by first | exact Or.inl rfl | exact Or.inr rfl) (pe_prp D_Pile_font (hr.mono (by decide)) (pv 0) rfl))
  (pss_cons (ps_expr (pe_df D_need_one_font (hr.mono (by decide)) rfl (pa_cons (pv 0) (pa_cons (pv 1) pa_nil))))
  (pss_cons (ps_parA (i := 3) (j := 4) sc.nd (pa_cons (pe_df D_bearings_of (hr.mono (by decide)) rfl (pa_cons (pv 2) (pa_cons (pe_df D_stock_of (hr.mono (by decide)) rfl (pa_cons (pv 0) pa_nil)) pa_nil))) (pa_cons (pe_df D_bearings_of (hr.mono (by decide)) rfl (pa_cons (pv 2) (pa_cons (pe_df D_stock_of (hr.mono (by decide)) rfl (pa_cons (pv 1) pa_nil)) pa_nil))) pa_nil)))
  (pss_cons (ps_for PassesOwn.never rfl (pi_listK K (pe_df D_all_masks (hr.mono (by decide)) rfl (pa_cons (pv 2) pa_nil))) (pg_name (i := 5) sc.nd rfl (by first | exact Or.inl rfl | exact Or.inr rfl)) (pss_one (ps_if (pt_cmpR op_ne (pe_ix (ix_listK K) (pv 3) (pv 5) (fun _ _ => rfl)) (pe_ix (ix_listK K) (pv 4) (pv 5) (fun _ _ => rfl)) (nomark _)) (pss_one (ps_ret (pe_tup (pa_cons (pe_df D_set_of (hr.mono (by decide)) rfl (pa_cons (pv 2) (pa_cons (pv 5) pa_nil))) (pa_cons (pe_ix (ix_listK K) (pv 3) (pv 5) (fun _ _ => rfl)) (pa_cons (pe_ix (ix_listK K) (pv 4) (pv 5) (fun _ _ => rfl)) pa_nil)))))) pss_nil)))
  (pss_one (ps_ret pe_non)))))), ?_⟩
  obtain ⟨x', y', f', F, s1, s2, rfl, rfl, hC, hD, q1, q2⟩ := h
  have h32 := pow32 hC.1.1
  decreasing_trivial
  refine r_fontC hC ?_
  decreasing_trivial
  refine r_sp2 ⟨x', y', f', F, s1, rfl, rfl, hC, .inl ⟨s2, hD⟩, fun H1 e1 => ?_⟩
  decreasing_trivial
  refine r_sp1 ?_
  refine ⟨x', f', F, s1, rfl, hC.mono e1, fun H2 p1 e2 h1 => ?_⟩
  have e12 := e1.trans e2
  decreasing_trivial
  refine r_sp2 ⟨f', F, p1, s1, rfl, (hC.1.mono e12).at, rfl, h1, fun H3 a1 e3 _ ha1 => ?_⟩
  have e13 := e12.trans e3
  decreasing_trivial
  refine r_sp1 ⟨y', f', F, s2, rfl, hD.mono e13, fun H4 p2 e4 h2 => ?_⟩
  have e14 := e13.trans e4
  decreasing_trivial
  refine r_sp2 ⟨f', F, p2, s2, rfl, (hC.1.mono e14).at, rfl, h2, fun H5 a2 e5 _ ha2 => ?_⟩
  have e15 := e14.trans e5
  have ha1' := e5.lst (e4.lst ha1)
  decreasing_trivial
  refine r_sp1 ⟨f', F, rfl, (hC.1.mono e15).at, fun H6 p6 e6 n6 h6 => ?_⟩
  rw [ordV_eq h32] at h6
  have e16 := e15.trans e6
  have hm1 := e6.lst ha1'
  have hm2 := e6.lst ha2
  refine ⟨p6, rfl, ⟨_, SqL.of h6⟩, ?_⟩
  refine for_it (walk_list (xs := (ordN F.n).map fun m => V.int ((m : Nat) : Int))) (fun i σ H1 => (∃ v5, σ = [some (.ref x'), some (.ref y'), some (.ref f'), some (.ref a1), some (.ref a2), v5]) ∧ H1 = H6 ∧ ∀ m ∈ (ordN F.n).take i, F.bear s1 (F.qm m) = F.bear s2 (F.qm m)) ⟨⟨_, rfl⟩, rfl, by simp⟩ (fun i σ H1 _ hp => by obtain ⟨_, rfl, _⟩ := hp; exact SqL.of h6) (fun i x σ H7 H8 hi hp hx => ?_) (fun σ H7 hp => ?_)
  · obtain ⟨⟨v5, rfl⟩, rfl, hall⟩ := hp
    obtain ⟨rfl, hx⟩ := hx
    rw [List.getElem?_map] at hx
    cases hc : (ordN F.n)[i]? with
    | none =>
      rw [hc] at hx
      cases hx
    | some m =>
    rw [hc] at hx
    cases hx
    have hm := ordN_mem.mp (List.mem_of_getElem? hc)
    decreasing_trivial
    refine r_ixN (SqL.of hm1) (byM_get hm) ?_
    decreasing_trivial
    refine r_ixN (SqL.of hm2) (byM_get hm) ?_
    decreasing_trivial
    refine iteD (fun e => ?_) (fun e => ?_)
    · have hne : F.bear s1 (F.qm m) ≠ F.bear s2 (F.qm m) := fun z => by
        rw [decide_eq_true z] at e
        cases e
      decreasing_trivial
      refine r_sp2 ⟨f', F, m, rfl, rfl, (hC.1.mono e16).at, hm, fun H9 e9 => ?_⟩
      decreasing_trivial
      refine r_ixN (SqL.of (e9.lst hm1)) (byM_get hm) ?_
      decreasing_trivial
      refine r_ixN (SqL.of (e9.lst hm2)) (byM_get hm) ?_
      decreasing_trivial
      refine ⟨by show 3 ≤ sizeLine; decide, fun t ht => ?_⟩
      exact q2 _ t m ((e16.trans e9).trans (Fm.new ht)) hm hne upd_same
    · have heq : F.bear s1 (F.qm m) = F.bear s2 (F.qm m) := by
        by_cases z : F.bear s1 (F.qm m) = F.bear s2 (F.qm m)
        · exact z
        · rw [decide_eq_false z] at e
          cases e
      decreasing_trivial
      refine ⟨⟨_, rfl⟩, rfl, fun m' hm' => ?_⟩
      rw [List.take_add_one, hc] at hm'
      rcases List.mem_append.mp hm' with z | z
      · exact hall m' z
      · have : m' = m := by simpa using z
        rw [this]
        exact heq
  · obtain ⟨⟨v5, rfl⟩, rfl, hall⟩ := hp
    rw [List.length_map, List.take_length] at hall
    decreasing_trivial
    exact q1 _ e16 fun m hm => hall m (ordN_mem.mpr hm)
end
end Hy
namespace Hy
open PySem PySem.Spec PyProof.Rows L2
local macro_rules | `(tactic| decreasing_trivial) => `(tactic| ((try (with_reducible conv => whnf)); repeat (first
    | with_reducible refine iteT ?_
    | with_reducible refine iteF ?_
    | with_reducible refine iteNT ?_
    | with_reducible refine iteNF ?_
    | with_reducible refine r_isi_int ?_
    | with_reducible refine r_isi_bool ?_
    | with_reducible refine r_isi_str ?_
    | with_reducible refine r_eqN ?_
    | with_reducible refine r_neN ?_
    | with_reducible refine r_eqS ?_
    | with_reducible refine r_neS ?_
    | with_reducible refine r_seq ?_
    | with_reducible refine r_asg ?_
    | with_reducible refine r_gname ?_
    | with_reducible refine r_ret ?_
    | with_reducible refine r_drop ?_
    | with_reducible refine r_next ?_
    | with_reducible refine r_op ?_
    | with_reducible refine r_var (by with_unfolding_all exact rfl) ?_
    | with_reducible refine r_c ?_
    | with_reducible refine r_cons ?_
    | with_reducible refine r_nil ?_
    | with_reducible refine r_un ?_
    | with_reducible refine r_I0 ?_
    | with_reducible refine r_U ?_
    | with_reducible refine r_df ?_
    | with_reducible refine r_cb ?_
    | with_reducible refine r_ifS ?_
    | with_reducible refine r_ifE ?_
    | with_reducible refine r_test ?_
    | with_reducible refine r_B ?_
    | with_reducible refine r_tand ?_
    | with_reducible refine r_tor ?_
    | with_reducible refine r_tnot ?_
    | with_reducible refine r_andV ?_
    | with_reducible refine r_orV ?_
    | with_reducible refine r_notV ?_
    | with_reducible refine r_blif ?_
    | with_reducible refine r_bl ?_
    | with_reducible refine r_chain ?_
    | with_reducible refine r_tup ?_
    | with_reducible refine r_lst ?_
    | with_reducible refine r_fld ?_
    | with_reducible refine r_dget ?_
    | with_reducible refine r_din ?_
    | with_reducible refine r_pt ?_
    | with_reducible refine r_mt ?_
    | with_reducible refine r_iEnumS ?_
    | with_reducible refine r_bm ?_
    | with_reducible refine r_iStr ?_
    | with_reducible refine r_lcT ?_
    | with_reducible refine r_dcT ?_
    | with_reducible refine r_iList ?_
    | with_reducible refine r_iTup ?_
    | with_reducible refine r_iRng1 ?_
    | with_reducible refine r_iRng2 ?_
    | with_reducible refine r_iEnum ?_
    | with_reducible refine r_iZip ?_
    | with_reducible refine r_iKeys ?_
    | with_reducible refine r_iItems ?_
    | with_reducible refine r_iVals ?_
    | with_reducible refine r_lstRg ?_
    | with_reducible refine r_rg1 ?_
    | with_reducible refine r_sortDf ?_
    | with_reducible refine r_bits ?_
    | with_reducible refine r_forT ?_
    | with_reducible refine r_augS ?_
    | with_reducible refine r_gsub ?_
    | with_reducible refine r_bm0 ?_
    | with_reducible refine r_sortLam ?_
    | with_reducible refine r_sfld ?_
    | with_reducible refine r_dput ?_
    | with_reducible refine r_dnewK ?_
    | with_reducible refine r_mk ?_
    | with_reducible refine r_con ?_
    | with_reducible refine r_lockS ?_
    | with_reducible refine r_sl ?_
    | with_reducible refine r_part ?_
    | with_reducible refine r_nopart ?_
    | with_reducible refine r_dget2 ?_
    | with_reducible refine r_isN ?_
    | with_reducible refine r_notN ?_
    | with_reducible refine r_par ?_
    | with_reducible refine r_par2 ?_
    | with_reducible refine r_yes ?_
    | with_reducible refine r_scT ?_)))
section
variable {P : Program} {w : World} {K : PySem.W.Frag} {mg : Str → Option Value} {base : Heap} {C : Ad} {G : List (Addr × Str)}
theorem setN {N m : Nat} (h1 : 0 < N) (h2 : m < N) : ixN N (-1 - ((m : Nat) : Int)) = some (N - 1 - m) := by
  unfold ixN
  rw [if_neg (by omega), if_pos (by omega)]
  congr 1
  omega
theorem sc_exact_of : FnScope ["font", "bearings", "masks", "inside", "mask", "size", "numbers"] ["font", "bearings"] (defScope (top 51)) := ⟨rfl, rfl, rfl, by decide +kernel, rfl, by decide +kernel, by decide +kernel⟩
theorem d_exact_of (T : Txt K mg C) (D_all_masks : Df P w K mg base "all_masks" 6 (spMasks C G)) (D_number_of_sets : Df P w K mg base "number_of_sets" 3 (spNSets C)) (D_set_of : Df P w K mg base "set_of" 3 (spSetOf C G)) (D_is_between : Df P w K mg base "is_between" 2 spIsBetween) (D_Font_signs : Pt P w K mg base C.CF "signs" 1 (spSigns C)) (D_ssKw : SsK P w K mg base 1 (spSums G)) : Df P w K mg base "exact_of" 9 (spExactOf C G) := by
  have sc := sc_exact_of
  refine FnT.df (T.fn ("exact_of", 51) (by decide)) sc len2 (fun _ _ _ _ _ _ us hl => match us, hl with | [_, _], _ => rfl) (fun f cdv A outer s H vs Q E hr h => ?_)
  have hu := hu_of hr
  have hu64 := hr.units
  have hu0 := Nat.lt_of_succ_lt hu
  obtain ⟨x1, x2, rfl, h⟩ := h
  refine ⟨_, (pss_cons (ps_set (i := 2) sc.nd rfl (by first | exact Or.inl rfl | exact Or.inr rfl) (pe_slice (sl_listK K) (pe_df D_all_masks (hr.mono (by decide)) rfl (pa_cons (pv 0) pa_nil)) (po_some pe_int) po_none))
  (pss_cons (ps_if (PW.pt (pw_or (pt_not (pt_val (pe_callB (call_isi_ K) (by rfl) T.f_isinstance (by decide +kernel) (pa_cons (pv 1) (pa_cons (pe_bltn (v := .ty "dict") (u := .type "dict") rfl T.f_dict (by decide +kernel) rfl) pa_nil))))) (pw_or1 (pt_cmpR op_ne (pe_callB call_lenD (by rfl) T.f_len PySem.boot_len (pa_cons (pv 1) pa_nil)) (pe_callB (call_len_seqK K) (by rfl) T.f_len PySem.boot_len (pa_cons (pv 2) pa_nil)) (nomark _))))) (pss_one ps_never) pss_nil)
  (pss_cons (ps_set (i := 3) sc.nd rfl (by first | exact Or.inl rfl | exact Or.inr rfl) (pe_op op_rep (pe_lst (pa_cons pe_int pa_nil)) (pe_df D_number_of_sets (hr.mono (by decide)) rfl (pa_cons (pv 0) pa_nil))))
  (pss_cons (ps_for PassesOwn.never rfl (pi_listK K (pv 2)) (pg_name (i := 4) sc.nd rfl (by first | exact Or.inl rfl | exact Or.inr rfl)) (pss_one (ps_if (pt_not (pt_val (pe_df D_is_between (hr.mono (by decide)) rfl (pa_cons (pe_dget2 hu (pv 1) (pe_df D_set_of (hr.mono (by decide)) rfl (pa_cons (pv 0) (pa_cons (pv 4) pa_nil))) pe_non ⟨rfl, rfl, rfl, rfl⟩) (pa_cons pe_int (pa_cons (pe_gc T.g_MOST rfl) pa_nil)))))) (pss_one ps_never) pss_nil)))
  (pss_cons (ps_set (i := 5) sc.nd rfl (by first | exact Or.inl rfl | exact Or.inr rfl) (pe_dget hu (pv 1) (pe_prp D_Font_signs (hr.mono (by decide)) (pv 0) rfl) (fun _ _ => rfl)))
  (pss_cons (ps_for PassesOwn.never rfl (pi_listK K (pv 2)) (pg_name (i := 4) sc.nd rfl (by first | exact Or.inl rfl | exact Or.inr rfl)) (pss_one (ps_asg (pe_op op_sub (pv 5) (pe_dget hu (pv 1) (pe_df D_set_of (hr.mono (by decide)) rfl (pa_cons (pv 0) (pa_cons (pv 4) pa_nil))) (fun _ _ => rfl))) (pg_sub (pv 3) (pe_op op_sub (pe_un un_neg pe_int) (pv 4)) set_list (by intro _; rfl)))))
  (pss_cons (ps_asg (pv 5) (pg_sub (pv 3) (pe_un un_neg pe_int) set_list (by intro _; rfl)))
  (pss_cons (ps_set (i := 6) sc.nd rfl (by first | exact Or.inl rfl | exact Or.inr rfl) (pe_ssKw D_ssKw (hr.mono (by decide)) rfl (pv 3) (pe_un un_neg pe_int)))
  (pss_cons (ps_for PassesOwn.never rfl (pi_listK K (pv 2)) (pg_name (i := 4) sc.nd rfl (by first | exact Or.inl rfl | exact Or.inr rfl)) (pss_one (ps_if (pt_cmpR op_lt (pe_ix (ix_listK K) (pv 6) (pv 4) (fun _ _ => rfl)) pe_int (nomark _)) (pss_one ps_never) pss_nil)))
  (pss_one (ps_ret (pe_dc (own := [("mask", 4)]) rfl sc.nd (pi_listK K (pv 2)) (blkOk_by (N := ["font", "bearings", "masks", "inside", "mask", "size", "numbers"]) (sc := defScope (top 51)) (by decide +kernel)) (fun _ _ _ _ _ => (pg_name (i := 4) sc.nd rfl (by first | exact Or.inl rfl | exact Or.inr rfl))) (fun _ _ _ _ _ => pts_one (pt_cmpR op_gt (pe_ix (ix_listK K) (pv 6) (pv 4) (fun _ _ => rfl)) pe_int (nomark _))) (fun _ _ _ _ _ => (pe_df D_set_of (hr.mono (by decide)) rfl (pa_cons (pv 0) (pa_cons (pv 4) pa_nil)))) (fun _ _ _ _ _ => (pe_ix (ix_listK K) (pv 6) (pv 4) (fun _ _ => rfl))))))))))))))), ?_⟩
  obtain ⟨f', F, d, kvs, st, rfl, hF, rfl, hd, dk0, hlen, so, hv, q⟩ := h
  have hn := hF.1.n
  have h32 := pow32 hF.1
  have hp0 : 0 < 2 ^ F.n := Nat.two_pow_pos _
  obtain ⟨l, hl1, hl2, hl3, hl4⟩ := ordN_cons h32
  decreasing_trivial
  refine r_sp1 ⟨f', F, rfl, hF, fun H1 p1 e1 _ h1 => ?_⟩
  rw [ordV_eq h32, hl1] at h1
  decreasing_trivial
  refine ⟨1, rfl, ?_⟩
  decreasing_trivial
  refine ⟨p1, _, rfl, SqL.of h1, fun pm hpm => ?_⟩
  have e0 : cutV ((0 :: l).map fun m => V.int ((m : Nat) : Int)) (some 1) none = l.map fun m => V.int ((m : Nat) : Int) := cut_tail _ _
  rw [e0]
  have e2 : Fs G H (upd H1 pm (.lst (l.map fun m => V.int ((m : Nat) : Int)))) := e1.trans (Fm.new hpm)
  have hd2 := e2.dct hd dk0
  decreasing_trivial
  refine r_isi_dict hd2 ?_
  decreasing_trivial
  refine ⟨d, kvs, rfl, hd2, ?_⟩
  decreasing_trivial
  refine ⟨pm, _, rfl, .inl (SqL.of upd_same), ?_⟩
  decreasing_trivial
  rw [List.length_map, hlen, hl3]
  refine iteN (by rw [decide_eq_true rfl]; rfl) ?_
  decreasing_trivial
  refine ⟨by show 1 ≤ sizeLine; decide, fun l0 hl0 => ?_⟩
  have e3 := e2.trans (Fm.new (o := .lst [.int 0]) hl0)
  decreasing_trivial
  refine r_sp1 ⟨f', F, rfl, hF.mono e3, ?_⟩
  refine ⟨l0, _, _, rfl, rfl, upd_same, (rep_ok h32).1, (rep_ok h32).2.1, (rep_ok h32).2.2, fun li hli => ?_⟩
  rw [rep_byM]
  have n4 : Nw ⟨false, G⟩ H li := e3.nw hli
  have hpm4 : upd (upd (upd H1 pm (.lst (l.map fun m => V.int ((m : Nat) : Int)))) l0 (.lst [.int 0])) li (.lst (byM F.n fun _ => 0)) pm = some (.lst (l.map fun m => V.int ((m : Nat) : Int))) :=
    (Fm.new (b := ⟨false, G⟩) hli).lst ((Fm.new (b := ⟨false, G⟩) hl0).lst upd_same)
  have e4 := e3.trans (Fm.new (o := .lst (byM F.n fun _ => 0)) hli)
  have hli4 : upd (upd (upd H1 pm (.lst (l.map fun m => V.int ((m : Nat) : Int)))) l0 (.lst [.int 0])) li (.lst (byM F.n fun _ => 0)) li = some (.lst (byM F.n fun _ => 0)) := upd_same
  generalize hH4 : upd (upd (upd H1 pm (.lst (l.map fun m => V.int ((m : Nat) : Int)))) l0 (.lst [.int 0])) li (.lst (byM F.n fun _ => 0)) = H4 at *
  have nml : pm ≠ li := fun z => by
    subst z
    rw [hpm4] at hli4
    have h5 := congrArg (fun o => match o with | some (HO.lst xs) => xs.length | _ => 0) hli4
    dsimp only at h5
    rw [byM_len, List.length_map, hl3] at h5
    omega
  have hat : ∀ {i : Nat} {x : V}, (l.map fun m => V.int ((m : Nat) : Int))[i]? = some x → ∃ m, l[i]? = some m ∧ x = .int ((m : Nat) : Int) := fun {i x} hx => by
    rw [List.getElem?_map] at hx
    cases hc : l[i]? with
    | none =>
      rw [hc] at hx
      cases hx
    | some m =>
      rw [hc] at hx
      cases hx
      exact ⟨m, rfl, rfl⟩
  decreasing_trivial
  refine ⟨pm, rfl, ⟨_, SqL.of hpm4⟩, ?_⟩
  refine for_it (walk_list (xs := l.map fun m => V.int ((m : Nat) : Int))) (fun i σ H5 => (∃ v4, σ = [some (.ref f'), some (.ref d), some (.ref pm), some (.ref li), v4, none, none]) ∧ Fs G H4 H5) ⟨⟨none, rfl⟩, Fm.refl _⟩ (fun i σ H5 _ hp => SqL.of (hp.2.lst hpm4)) (fun i x σ H5 H6 hi hp hx => ?_) (fun σ H5 hp => ?_)
  · obtain ⟨⟨v4, rfl⟩, e5⟩ := hp
    obtain ⟨rfl, hx⟩ := hx
    obtain ⟨m, hm, rfl⟩ := hat hx
    obtain ⟨hm0, hm1⟩ := (hl4 m).mp (List.mem_of_getElem? hm)
    have e45 := e4.trans e5
    decreasing_trivial
    refine ⟨d, rfl, .inl ⟨kvs, .inl (e45.dct hd dk0)⟩, ?_⟩
    decreasing_trivial
    refine r_sp2 ⟨f', F, m, rfl, rfl, hF.mono e45, hm1, fun H7 e7 => ?_⟩
    decreasing_trivial
    refine ⟨_, .inl ⟨kvs, kT F m, .inl ((e45.trans e7).dct hd dk0), rfl, rfl⟩, ?_⟩
    rw [hv m hm0 hm1]
    decreasing_trivial
    have hb := Ft.bear_bd (F := F) so (F.qm m)
    refine r_sp3 ⟨_, _, _, rfl, rfl, rfl, hb.1, by omega, ?_⟩
    decreasing_trivial
    exact ⟨⟨_, rfl⟩, e5.trans e7⟩
  · obtain ⟨⟨v4, rfl⟩, e5⟩ := hp
    have e45 := e4.trans e5
    have hpm5 := e5.lst hpm4
    have hli5 := e5.lst hli4
    have hfull := Ft.full_T hF.1
    have hbf := Ft.bear_full hF.1 so
    decreasing_trivial
    refine r_signs (hF.mono e45) ?_
    decreasing_trivial
    refine r_dget1 (k := kT F (2 ^ F.n - 1)) (v := .int (zt 1 F.n (F.exF st) (2 ^ F.n - 1))) (.inl (e45.dct hd dk0)) (by rw [hfull]; rfl) (by rw [hv _ (by have := hn.1; have : 2 ^ 2 ≤ 2 ^ F.n := Nat.pow_le_pow_right (by decide) hn.1; omega) (by omega), hbf]) ?_
    decreasing_trivial
    refine ⟨pm, rfl, ⟨_, SqL.of hpm5⟩, ?_⟩
    refine for_it (walk_list (xs := l.map fun m => V.int ((m : Nat) : Int))) (fun i σ H6 => (∃ v4, σ = [some (.ref f'), some (.ref d), some (.ref pm), some (.ref li), v4, some (.int (zt 1 F.n (F.exF st) (2 ^ F.n - 1))), none]) ∧ Fs G H H6 ∧ H6 pm = some (.lst (l.map fun m => V.int ((m : Nat) : Int))) ∧ H6 li = some (.lst (byM F.n fun j => if 2 ^ F.n - 1 - j ∈ l.take i then zt 1 F.n (F.exF st) j else 0))) ⟨⟨v4, rfl⟩, e45, hpm5, by rw [hli5]; simp⟩ (fun i σ H6 _ hp => SqL.of hp.2.2.1) (fun i x σ H6 H7 hi hp hx => ?_) (fun σ H6 hp => ?_)
    · obtain ⟨⟨v4, rfl⟩, e6, hpm6, hli6⟩ := hp
      obtain ⟨rfl, hx⟩ := hx
      obtain ⟨m, hm, rfl⟩ := hat hx
      obtain ⟨hm0, hm1⟩ := (hl4 m).mp (List.mem_of_getElem? hm)
      decreasing_trivial
      refine r_sp2 ⟨f', F, m, rfl, rfl, hF.mono e6, hm1, fun H7 e7 => ?_⟩
      decreasing_trivial
      refine r_dget1 (k := kT F m) (v := .int (F.bear st (F.qm m))) (.inl ((e6.trans e7).dct hd dk0)) rfl (hv m hm0 hm1) ?_
      decreasing_trivial
      have hli7 := e7.lst hli6
      refine ⟨li, _, _, 2 ^ F.n - 1 - m, rfl, rfl, hli7, by rw [byM_len]; exact setN hp0 hm1, ?_⟩
      decreasing_trivial
      refine ⟨⟨_, rfl⟩, (e6.trans e7).edit n4 hli7 rfl, (upd_ne nml).trans (e7.lst hpm6), ?_⟩
      rw [upd_same, byM_set]
      refine congrArg (fun z => some (HO.lst z)) (byM_congr fun j hj => ?_)
      have hz := Ft.bear_zt hF.1 st hm1
      rw [List.take_add_one, hm]
      by_cases e : j = 2 ^ F.n - 1 - m
      · subst e
        rw [if_pos rfl, if_pos (List.mem_append_right _ (by
          have : 2 ^ F.n - 1 - (2 ^ F.n - 1 - m) = m := by omega
          rw [this]
          exact List.mem_cons_self ..))]
        omega
      · rw [if_neg e]
        have hne : 2 ^ F.n - 1 - j ≠ m := by omega
        have hiff : (2 ^ F.n - 1 - j ∈ l.take i) ↔ (2 ^ F.n - 1 - j ∈ l.take i ++ (some m).toList) := by
          rw [List.mem_append]
          simp [hne]
        by_cases hin : 2 ^ F.n - 1 - j ∈ l.take i
        · rw [if_pos hin, if_pos (hiff.mp hin)]
        · rw [if_neg hin, if_neg (fun z => hin (hiff.mpr z))]
    · obtain ⟨⟨v4, rfl⟩, e6, hpm6, hli6⟩ := hp
      rw [List.length_map, List.take_length] at hli6
      decreasing_trivial
      refine ⟨li, _, _, 2 ^ F.n - 1, rfl, rfl, hli6, by rw [byM_len]; have := setN (m := 0) hp0 hp0; simpa using this, ?_⟩
      rw [byM_set]
      have e7 : Fs G H (upd H6 li (.lst (byM F.n (zt 1 F.n (F.exF st))))) := e6.edit n4 hli6 rfl
      have hb : (byM F.n fun k => if k = 2 ^ F.n - 1 then zt 1 F.n (F.exF st) (2 ^ F.n - 1) else if 2 ^ F.n - 1 - k ∈ l then zt 1 F.n (F.exF st) k else 0) = byM F.n (zt 1 F.n (F.exF st)) := by
        refine byM_congr fun j hj => ?_
        by_cases e : j = 2 ^ F.n - 1
        · rw [if_pos e, e]
        · rw [if_neg e, if_pos ((hl4 _).mpr ⟨by omega, by omega⟩)]
      rw [hb]
      have hpm7 : upd H6 li (.lst (byM F.n (zt 1 F.n (F.exF st)))) pm = some (.lst (l.map fun m => V.int ((m : Nat) : Int))) := (upd_ne nml).trans hpm6
      have hli7 : upd H6 li (.lst (byM F.n (zt 1 F.n (F.exF st)))) li = some (.lst (byM F.n (zt 1 F.n (F.exF st)))) := upd_same
      generalize upd H6 li (.lst (byM F.n (zt 1 F.n (F.exF st)))) = H7 at *
      decreasing_trivial
      refine r_ssKw ?_
      decreasing_trivial
      refine r_sp2 ⟨li, F.n, _, -1, rfl, rfl, .inr rfl, hn, hli7, fun H8 pn e8 _ h8 => ?_⟩
      have hb8 : byM F.n (zt (-1) F.n (zt 1 F.n (F.exF st))) = byM F.n (F.exF st) := byM_congr fun m hm => zt_back hn _ hm
      rw [hb8] at h8
      have hpm8 := e8.lst hpm7
      decreasing_trivial
      refine ⟨pm, rfl, ⟨_, SqL.of hpm8⟩, ?_⟩
      refine for_it (walk_list (xs := l.map fun m => V.int ((m : Nat) : Int))) (fun i σ H9 => (∃ v4, σ = [some (.ref f'), some (.ref d), some (.ref pm), some (.ref li), v4, some (.int (zt 1 F.n (F.exF st) (2 ^ F.n - 1))), some (.ref pn)]) ∧ H9 = H8) ⟨⟨v4, rfl⟩, rfl⟩ (fun i σ H9 _ hp => by obtain ⟨_, rfl⟩ := hp; exact SqL.of hpm8) (fun i x σ H9 H10 hi hp hx => ?_) (fun σ H9 hp => ?_)
      · obtain ⟨⟨v4, rfl⟩, rfl⟩ := hp
        obtain ⟨rfl, hx⟩ := hx
        obtain ⟨m, hm, rfl⟩ := hat hx
        obtain ⟨hm0, hm1⟩ := (hl4 m).mp (List.mem_of_getElem? hm)
        decreasing_trivial
        refine r_ixN (SqL.of h8) (byM_get hm1) ?_
        decreasing_trivial
        refine iteN (decide_eq_false (by have := Ft.exF_nn (F := F) so m; omega)) ?_
        decreasing_trivial
        exact ⟨⟨_, rfl⟩, rfl⟩
      · obtain ⟨⟨v4, rfl⟩, rfl⟩ := hp
        have e78 := e7.trans e8
        decreasing_trivial
        refine ⟨pm, rfl, ⟨_, SqL.of hpm8⟩, fun D hD => ?_⟩
        refine cp_it (walk_list (xs := l.map fun m => V.int ((m : Nat) : Int))) (Dq ⟨false, G⟩ H9 D (giv (fun m => decide (0 < F.exF st m)) (fun m => (kT F m, V.int (F.exF st m))) l)) (Dq.start hD (giv_zero _ _ _)) (fun i H3 _ hp => SqL.of (hp.1.lst hpm8)) (fun i x H10 H11 hi hp hx => ?_) (fun H10 hp => ?_)
        · obtain ⟨rfl, hx⟩ := hx
          obtain ⟨m, hm, rfl⟩ := hat hx
          obtain ⟨hm0, hm1⟩ := (hl4 m).mp (List.mem_of_getElem? hm)
          have dk : dOk (giv (fun m => decide (0 < F.exF st m)) (fun m => (kT F m, V.int (F.exF st m))) l i) := dOk_nd fun p hp => by
            unfold giv at hp
            obtain ⟨m', _, rfl⟩ := List.mem_map.mp hp
            exact ⟨F.setL m', rfl, setL_nd hF.1 m'⟩
          have h8' := hp.1.lst h8
          decreasing_trivial
          refine ⟨rfl, ?_⟩
          decreasing_trivial
          refine r_ixN (SqL.of h8') (byM_get hm1) ?_
          decreasing_trivial
          refine iteD (fun e => ?_) (fun e => ?_)
          · decreasing_trivial
            refine r_sp2 ⟨f', F, m, rfl, rfl, hF.mono (e78.trans hp.1), hm1, fun H12 e12 => ?_⟩
            decreasing_trivial
            refine r_ixN (SqL.of (e12.lst h8')) (byM_get hm1) ?_
            refine hp.add hD e12 dk rfl ?_ (giv_put hl2 (fun a ha b hb e => ?_) hm e)
            · refine Nat.le_trans (giv_len _ _ _ _) ?_
              omega
            · exact qm_mkp hF.1 ((hl4 a).mp ha).2 ((hl4 b).mp hb).2 (Sum.inr.inj e)
          · exact hp.skip (Fm.refl _) dk (giv_no hm e)
        · have h9 := hp.2
          rw [List.length_map, giv_all] at h9
          have e0 : exK F st = (l.filter fun m => decide (0 < F.exF st m)).map fun m => (kT F m, V.int (F.exF st m)) := by
            unfold exK
            rw [hl1, List.filter_cons, if_neg]
            rw [Ft.exF_zero hF.1 so]
            decide
          rw [← e0] at h9
          exact q _ D (e78.trans hp.1) h9
end
end Hy
namespace Hy
open PySem PySem.Spec PyProof.Rows L2
local macro_rules | `(tactic| decreasing_trivial) => `(tactic| ((try (with_reducible conv => whnf)); repeat (first
    | with_reducible refine iteT ?_
    | with_reducible refine iteF ?_
    | with_reducible refine iteNT ?_
    | with_reducible refine iteNF ?_
    | with_reducible refine r_isi_int ?_
    | with_reducible refine r_isi_bool ?_
    | with_reducible refine r_isi_str ?_
    | with_reducible refine r_eqN ?_
    | with_reducible refine r_neN ?_
    | with_reducible refine r_eqS ?_
    | with_reducible refine r_neS ?_
    | with_reducible refine r_seq ?_
    | with_reducible refine r_asg ?_
    | with_reducible refine r_gname ?_
    | with_reducible refine r_ret ?_
    | with_reducible refine r_drop ?_
    | with_reducible refine r_next ?_
    | with_reducible refine r_op ?_
    | with_reducible refine r_var (by with_unfolding_all exact rfl) ?_
    | with_reducible refine r_c ?_
    | with_reducible refine r_cons ?_
    | with_reducible refine r_nil ?_
    | with_reducible refine r_un ?_
    | with_reducible refine r_I0 ?_
    | with_reducible refine r_U ?_
    | with_reducible refine r_df ?_
    | with_reducible refine r_cb ?_
    | with_reducible refine r_ifS ?_
    | with_reducible refine r_ifE ?_
    | with_reducible refine r_test ?_
    | with_reducible refine r_B ?_
    | with_reducible refine r_tand ?_
    | with_reducible refine r_tor ?_
    | with_reducible refine r_tnot ?_
    | with_reducible refine r_andV ?_
    | with_reducible refine r_orV ?_
    | with_reducible refine r_notV ?_
    | with_reducible refine r_blif ?_
    | with_reducible refine r_bl ?_
    | with_reducible refine r_chain ?_
    | with_reducible refine r_tup ?_
    | with_reducible refine r_lst ?_
    | with_reducible refine r_fld ?_
    | with_reducible refine r_dget ?_
    | with_reducible refine r_din ?_
    | with_reducible refine r_pt ?_
    | with_reducible refine r_mt ?_
    | with_reducible refine r_iEnumS ?_
    | with_reducible refine r_bm ?_
    | with_reducible refine r_iStr ?_
    | with_reducible refine r_lcT ?_
    | with_reducible refine r_dcT ?_
    | with_reducible refine r_iList ?_
    | with_reducible refine r_iTup ?_
    | with_reducible refine r_iRng1 ?_
    | with_reducible refine r_iRng2 ?_
    | with_reducible refine r_iEnum ?_
    | with_reducible refine r_iZip ?_
    | with_reducible refine r_iKeys ?_
    | with_reducible refine r_iItems ?_
    | with_reducible refine r_iVals ?_
    | with_reducible refine r_lstRg ?_
    | with_reducible refine r_rg1 ?_
    | with_reducible refine r_sortDf ?_
    | with_reducible refine r_bits ?_
    | with_reducible refine r_forT ?_
    | with_reducible refine r_augS ?_
    | with_reducible refine r_gsub ?_
    | with_reducible refine r_bm0 ?_
    | with_reducible refine r_sortLam ?_
    | with_reducible refine r_sfld ?_
    | with_reducible refine r_dput ?_
    | with_reducible refine r_dnewK ?_
    | with_reducible refine r_mk ?_
    | with_reducible refine r_con ?_
    | with_reducible refine r_lockS ?_
    | with_reducible refine r_sl ?_
    | with_reducible refine r_part ?_
    | with_reducible refine r_nopart ?_
    | with_reducible refine r_dget2 ?_
    | with_reducible refine r_isN ?_
    | with_reducible refine r_notN ?_
    | with_reducible refine r_par ?_
    | with_reducible refine r_par2 ?_
    | with_reducible refine r_yes ?_
    | with_reducible refine r_scT ?_)))
section
variable {P : Program} {w : World} {K : PySem.W.Frag} {mg : Str → Option Value} {base : Heap} {C : Ad} {G : List (Addr × Str)}
theorem sc_meets : FnScope ["font", "kind", "signs", "sign"] ["font", "kind", "signs"] (defScope (top 72)) := ⟨rfl, rfl, rfl, by decide +kernel, rfl, by decide +kernel, by decide +kernel⟩
theorem d_meets (T : Txt K mg C) (D_Font_seen : Mt P w K mg base C.CF "seen" 3 (spSeen C G)) : Df P w K mg base "meets" 5 (spMeets C G) := by
  have sc := sc_meets
  refine FnT.df (T.fn ("meets", 72) (by decide)) sc len3 (fun _ _ _ _ _ _ us hl => match us, hl with | [_, _, _], _ => rfl) (fun f cdv A outer s H vs Q E hr h => ?_)
  have hu := hu_of hr
  have hu64 := hr.units
  have hu0 := Nat.lt_of_succ_lt hu
  obtain ⟨x1, x2, x3, rfl, h⟩ := h
  refine ⟨_, (pss_one (ps_ret (pe_callB (cr_anyK K) (by rfl) T.f_any (by decide +kernel) (pa_cons (pe_lc (own := [("sign", 3)]) rfl sc.nd (pi_str (pe_mth D_Font_seen (hr.mono (by decide)) (pv 0) (pa_cons (pv 1) pa_nil))) (blkOk_by (N := ["font", "kind", "signs", "sign"]) (sc := defScope (top 72)) (by decide +kernel)) (fun _ _ _ _ _ => (pg_name (i := 3) sc.nd rfl (by first | exact Or.inl rfl | exact Or.inr rfl))) (fun _ _ _ _ _ => pts_nil) (fun _ _ _ _ _ => (pe_cmpR op_in_sign (pv 3) (pv 2) (by rfl)))) pa_nil)))), ?_⟩
  obtain ⟨f', F, k, qq, rfl, hF, hk0, rfl, rfl, q⟩ := h
  obtain ⟨o, dx, fs, r, hh, hk, v⟩ := id hF
  decreasing_trivial
  refine ⟨f', dx, fs, rfl, v.at_, v.no _ (by decide), ?_⟩
  decreasing_trivial
  refine r_sp2 ⟨f', F, k, rfl, hF, hk0, rfl, fun H1 e1 => ?_⟩
  refine ⟨_, rfl, fun D hD => ?_⟩
  refine cp_it walk_str (Lp ⟨false, G⟩ H1 D (giv (fun _ => true) (fun c => V.bl (qq c)) (F.sh k))) (Lp.start hD (giv_zero _ _ _)) (fun _ _ _ _ => trivial) (fun i x H2 H3 hi hp hx => ?_) (fun H2 hp => ?_)
  · obtain ⟨rfl, c, hc, rfl⟩ := hx
    have hc' : (F.sh k)[i]? = some c := by simpa using hc
    have hcw : c ∈ F.ws := (List.mem_filter.mp (List.mem_of_getElem? hc')).1
    decreasing_trivial
    refine ⟨rfl, ?_⟩
    decreasing_trivial
    refine ⟨c, _, rfl, rfl, ?_⟩
    have e3 : decide (c ∈ (⟨(F.ws.filter qq).toArray⟩ : Str).cps.toList) = qq c := by
      have e4 : (⟨(F.ws.filter qq).toArray⟩ : Str).cps.toList = F.ws.filter qq := by simp
      rw [e4]
      cases hq : qq c with
      | true => exact decide_eq_true (List.mem_filter.mpr ⟨hcw, hq⟩)
      | false => exact decide_eq_false fun z => by rw [(List.mem_filter.mp z).2] at hq; cases hq
    rw [e3]
    exact hp.add hD (Fm.refl _) (Nat.le_trans (giv_len _ _ _ _) (Nat.le_trans (List.length_filter_le _ _) (by have := o.hi; omega))) (giv_yes hc' rfl)
  · decreasing_trivial
    have e1' : (⟨(F.sh k).toArray⟩ : Str).cps.size = (F.sh k).length := by simp
    have h2 := hp.2
    rw [e1', giv_all, List.filter_eq_self.mpr (fun _ _ => rfl)] at h2
    refine ⟨D, (F.sh k).map qq, rfl, SqL.of (by rw [h2, List.map_map]; rfl), ?_⟩
    have e5 : ((F.sh k).map qq).any id = (F.sh k).any qq := by
      rw [List.any_map]
      rfl
    rw [e5]
    exact q _ (e1.trans hp.1)
theorem sc_Pile_bearing : FnScope ["self", "signs", "wanted", "kind", "count"] ["self", "signs"] (defScope (inClass (top 70) 5)) := ⟨rfl, rfl, rfl, by decide +kernel, rfl, by decide +kernel, by decide +kernel⟩
theorem d_Pile_bearing (T : Txt K mg C) (D_need_signs : Df P w K mg base "need_signs" 3 (spNeedSigns C G)) (D_meets : Df P w K mg base "meets" 5 (spMeets C G)) : Mt P w K mg base C.CC "bearing" 6 (spBearing C G) := by
  have sc := sc_Pile_bearing
  obtain ⟨f, fd, Gf, hm⟩ := T.m_bearing.ex
  refine ⟨⟨f, hm, Fun.fnr Gf sc len2 (fun _ _ _ _ _ _ us hl => match us, hl with | [_, _], _ => rfl) (fun cdv A outer s H vs Q E hr h => ?_)⟩, T.cC⟩
  have hu := hu_of hr
  have hu64 := hr.units
  have hu0 := Nat.lt_of_succ_lt hu
  obtain ⟨x1, x2, rfl, h⟩ := h
  refine ⟨_, (pss_cons (ps_set (i := 2) sc.nd rfl (by first | exact Or.inl rfl | exact Or.inr rfl) (pe_df D_need_signs (hr.mono (by decide)) rfl (pa_cons (pe_fldK K (pv 0) rfl) (pa_cons (pv 1) pa_nil))))
  (pss_one (ps_ret (pe_callB (cr_sumK K) (by rfl) T.f_sum (by decide +kernel) (pa_cons (pe_lock (pe_lc (own := [("kind", 3), ("count", 4)]) rfl sc.nd (pi_items (pe_fldK K (pv 0) rfl)) (blkOk_by (N := ["self", "signs", "wanted", "kind", "count"]) (sc := defScope (inClass (top 70) 5)) (by decide +kernel)) (fun _ _ _ _ _ => (pg_tupK K (n := 2) rfl (pgs_cons (pg_name (i := 3) sc.nd rfl (by first | exact Or.inl rfl | exact Or.inr rfl)) (pgs_cons (pg_name (i := 4) sc.nd rfl (by first | exact Or.inl rfl | exact Or.inr rfl)) pgs_nil)))) (fun _ _ _ _ _ => pts_one (pt_val (pe_df D_meets (hr.mono (by decide)) rfl (pa_cons (pe_fldK K (pv 0) rfl) (pa_cons (pv 3) (pa_cons (pv 2) pa_nil)))))) (fun _ _ _ _ _ => (pv 4)))) pa_nil))))), ?_⟩
  obtain ⟨x', f', F, st, qq, rfl, hC, rfl, q⟩ := h
  obtain ⟨hF, so, d, dx, fs, v⟩ := id hC
  decreasing_trivial
  refine r_fld1 v.at_ T.cC T.nFontC v.font ?_
  decreasing_trivial
  refine r_sp2 ⟨f', F, qq, rfl, hF.at, rfl, fun H1 e1 => ?_⟩
  decreasing_trivial
  have v1 := v.mono e1
  have hF1 := hF.mono e1
  refine ⟨d, .dK (stK st), v1.st, trivial, fun od => ?_⟩
  have v1' : upd H1 d (.frz od (.dK (stK st))) x' = some (.ins C.CC dx fs) := (upd_ne (ne_of v1.at_ v1.st (by intro z; cases z))).trans v1.at_
  decreasing_trivial
  refine r_fld1 v1' T.cC T.nStock v.stock ⟨d, od, stK st, rfl, upd_same, fun D hD => ?_⟩
  have dD : d ≠ D := ne_of_none upd_same hD
  refine cp_it walk_items (Lp ⟨false, G⟩ (upd H1 d (.frz od (.dK (stK st)))) D (giv (fun p => (F.sh p.1).any qq) (fun p => V.int p.2) st)) (Lp.start hD (giv_zero _ _ _)) (fun i H2 _ hp => hp.1.kp _ _ upd_same rfl) (fun i x H2 H3 hi hp hx => ?_) (fun H2 hp => ?_)
  · obtain ⟨T', x1, x2, rfl, hT', rfl, hx1, hx2⟩ := hx
    dsimp only at hx1 hx2
    unfold stK at hx1 hx2
    rw [List.getElem?_map] at hx1 hx2
    cases hst : st[i]? with
    | none =>
      rw [hst] at hx1
      cases hx1
    | some pr =>
    rw [hst] at hx1 hx2
    cases hx1
    cases hx2
    have hk0 := so.ok _ (List.mem_of_getElem? hst)
    have hFl : FontAt C (upd H1 d (.frz od (.dK (stK st)))) f' F := hF1.at.lock v1.st
    have e2 := hp.1.trans (Fm.new (o := .tup [kV (kK pr.1), V.int pr.2]) hT')
    refine ⟨T', _, rfl, SqT.of upd_same, rfl, _, _, rfl, _, _, rfl, rfl, rfl, ?_⟩
    decreasing_trivial
    refine r_fld1 (e2.ins v1') T.cC T.nFontC v.font ?_
    decreasing_trivial
    refine r_sp3 ⟨f', F, pr.1, qq, rfl, hFl.mono e2, hk0, rfl, rfl, fun H4 e4 => ?_⟩
    decreasing_trivial
    refine iteD (fun e => ?_) (fun e => ?_)
    · decreasing_trivial
      exact hp.add hD ((Fm.new hT').trans e4) (Nat.le_trans (giv_len _ _ _ _) (by have := so.len; omega)) (giv_yes hst e)
    · exact hp.skip ((Fm.new hT').trans e4) (giv_no hst e)
  · have h2 := hp.2
    have e3 : (stK st).length = st.length := by simp [stK]
    rw [e3, giv_all] at h2
    obtain ⟨l1, l2⟩ := Fm.lock v1.st rfl hp.1
    refine ⟨l1, ?_⟩
    decreasing_trivial
    refine ⟨D, (st.filter fun p => (F.sh p.1).any qq).map (·.2), rfl, SqL.of ?_, ?_⟩
    · rw [upd_ne dD.symm, h2, List.map_map]
      rfl
    · have e5 : ((st.filter fun p => (F.sh p.1).any qq).map (·.2)).sum = F.bear st qq := by
        unfold Ft.bear
        exact sum_filter _ _ _
      rw [e5]
      exact q _ (e1.trans l2)
end
end Hy
namespace Hy
open PySem PySem.Spec PyProof.Rows L2
local macro_rules | `(tactic| decreasing_trivial) => `(tactic| ((try (with_reducible conv => whnf)); repeat (first
    | with_reducible refine iteT ?_
    | with_reducible refine iteF ?_
    | with_reducible refine iteNT ?_
    | with_reducible refine iteNF ?_
    | with_reducible refine r_isi_int ?_
    | with_reducible refine r_isi_bool ?_
    | with_reducible refine r_isi_str ?_
    | with_reducible refine r_eqN ?_
    | with_reducible refine r_neN ?_
    | with_reducible refine r_eqS ?_
    | with_reducible refine r_neS ?_
    | with_reducible refine r_seq ?_
    | with_reducible refine r_asg ?_
    | with_reducible refine r_gname ?_
    | with_reducible refine r_ret ?_
    | with_reducible refine r_drop ?_
    | with_reducible refine r_next ?_
    | with_reducible refine r_op ?_
    | with_reducible refine r_var (by with_unfolding_all exact rfl) ?_
    | with_reducible refine r_c ?_
    | with_reducible refine r_cons ?_
    | with_reducible refine r_nil ?_
    | with_reducible refine r_un ?_
    | with_reducible refine r_I0 ?_
    | with_reducible refine r_U ?_
    | with_reducible refine r_df ?_
    | with_reducible refine r_cb ?_
    | with_reducible refine r_ifS ?_
    | with_reducible refine r_ifE ?_
    | with_reducible refine r_test ?_
    | with_reducible refine r_B ?_
    | with_reducible refine r_tand ?_
    | with_reducible refine r_tor ?_
    | with_reducible refine r_tnot ?_
    | with_reducible refine r_andV ?_
    | with_reducible refine r_orV ?_
    | with_reducible refine r_notV ?_
    | with_reducible refine r_blif ?_
    | with_reducible refine r_bl ?_
    | with_reducible refine r_chain ?_
    | with_reducible refine r_tup ?_
    | with_reducible refine r_lst ?_
    | with_reducible refine r_fld ?_
    | with_reducible refine r_dget ?_
    | with_reducible refine r_din ?_
    | with_reducible refine r_pt ?_
    | with_reducible refine r_mt ?_
    | with_reducible refine r_iEnumS ?_
    | with_reducible refine r_bm ?_
    | with_reducible refine r_iStr ?_
    | with_reducible refine r_lcT ?_
    | with_reducible refine r_dcT ?_
    | with_reducible refine r_iList ?_
    | with_reducible refine r_iTup ?_
    | with_reducible refine r_iRng1 ?_
    | with_reducible refine r_iRng2 ?_
    | with_reducible refine r_iEnum ?_
    | with_reducible refine r_iZip ?_
    | with_reducible refine r_iKeys ?_
    | with_reducible refine r_iItems ?_
    | with_reducible refine r_iVals ?_
    | with_reducible refine r_lstRg ?_
    | with_reducible refine r_rg1 ?_
    | with_reducible refine r_sortDf ?_
    | with_reducible refine r_bits ?_
    | with_reducible refine r_forT ?_
    | with_reducible refine r_augS ?_
    | with_reducible refine r_gsub ?_
    | with_reducible refine r_bm0 ?_
    | with_reducible refine r_sortLam ?_
    | with_reducible refine r_sfld ?_
    | with_reducible refine r_dput ?_
    | with_reducible refine r_dnewK ?_
    | with_reducible refine r_mk ?_
    | with_reducible refine r_con ?_
    | with_reducible refine r_lockS ?_
    | with_reducible refine r_sl ?_
    | with_reducible refine r_part ?_
    | with_reducible refine r_nopart ?_
    | with_reducible refine r_dget2 ?_
    | with_reducible refine r_isN ?_
    | with_reducible refine r_notN ?_
    | with_reducible refine r_par ?_
    | with_reducible refine r_par2 ?_
    | with_reducible refine r_yes ?_
    | with_reducible refine r_scT ?_)))
section
variable {P : Program} {w : World} {K : PySem.W.Frag} {mg : Str → Option Value} {base : Heap} {C : Ad} {G : List (Addr × Str)}
theorem sc_least_worst : FnScope ["numbers", "found", "least", "mask", "number"] ["numbers"] (defScope (top 75)) := ⟨rfl, rfl, rfl, by decide +kernel, rfl, by decide +kernel, by decide +kernel⟩
theorem d_least_worst (T : Txt K mg C)  : Df P w K mg base "least_worst" 1 (spLeast G) := by
  have sc := sc_least_worst
  refine FnT.df (T.fn ("least_worst", 75) (by decide)) sc len1 (fun _ _ _ _ _ _ us hl => match us, hl with | [_], _ => rfl) (fun f cdv A outer s H vs Q E hr h => ?_)
  have hu := hu_of hr
  have hu64 := hr.units
  have hu0 := Nat.lt_of_succ_lt hu
  obtain ⟨x1, rfl, h⟩ := h
  refine ⟨_, (pss_cons (ps_parA (i := 1) (j := 2) sc.nd (pa_cons (pe_op op_sub (pe_callB (call_len_seqK K) (by rfl) T.f_len PySem.boot_len (pa_cons (pv 0) pa_nil)) pe_int) (pa_cons (pe_callB (cr_minK K) (by rfl) T.f_min (by decide +kernel) (pa_cons (pv 0) pa_nil)) pa_nil)))
  (pss_cons (ps_for PassesOwn.never rfl (pi_enumK K rfl T.f_enumerate (pa_cons (pv 0) pa_nil)) (pg_tupK K (n := 2) rfl (pgs_cons (pg_name (i := 3) sc.nd rfl (by first | exact Or.inl rfl | exact Or.inr rfl)) (pgs_cons (pg_name (i := 4) sc.nd rfl (by first | exact Or.inl rfl | exact Or.inr rfl)) pgs_nil))) (pss_one (ps_if (pt_cmpR op_eq (pv 4) (pv 2) (nomark _)) (pss_one (ps_set (i := 1) sc.nd rfl (by first | exact Or.inl rfl | exact Or.inr rfl) (pe_op op_and (pv 1) (pv 3)))) pss_nil)))
  (pss_one (ps_ret (pv 1))))), ?_⟩
  obtain ⟨a, n, g, rfl, hn, ha, q⟩ := h
  have h32 : 2 ^ n ≤ 32 := Nat.le_trans (Nat.pow_le_pow_right (by decide) hn.2) (by decide)
  have hp0 : 0 < 2 ^ n := Nat.two_pow_pos _
  decreasing_trivial
  refine ⟨a, _, rfl, .inl (SqL.of ha), ?_⟩
  rw [byM_len]
  decreasing_trivial
  refine ⟨a, (List.range (2 ^ n)).map g, rfl, SqL.of (by rw [ha, List.map_map]; rfl), by rw [List.length_map, List.length_range]; omega, fun low hl1 hl2 => ?_⟩
  have hmin : IsMin n g low := isMin_of hl1 hl2
  decreasing_trivial
  have e6 : ((2 ^ n : Nat) : Int) - 1 = ((2 ^ n - 1 : Nat) : Int) := by
    generalize 2 ^ n = N at *
    omega
  rw [e6]
  refine ⟨a, _, rfl, SqL.of ha, ?_⟩
  refine for_it (walk_enum (xs := byM n g)) (fun i σ H1 => ∃ v3 v4, σ = [some (.ref a), some (.int ((wLeast g low i (2 ^ n - 1) : Nat) : Int)), some (.int low), v3, v4] ∧ Fs G H H1 ∧ wLeast g low i (2 ^ n - 1) < 2 ^ n) ⟨none, none, rfl, Fm.refl _, by show 2 ^ n - 1 < 2 ^ n; omega⟩ (fun i σ H1 _ hp => ?_) (fun i x σ H1 H2 hi hp hx => ?_) (fun σ H1 hp => ?_)
  · obtain ⟨_, _, _, e1, _⟩ := hp
    exact SqL.of (e1.lst ha)
  · obtain ⟨v3, v4, rfl, e1, hlt⟩ := hp
    obtain ⟨T', x1, x2, rfl, hT', rfl, hx1, hx2⟩ := hx
    rw [byM_len] at hi
    dsimp only at hx1 hx2
    rw [byM_get hi] at hx2
    cases hx1
    cases hx2
    refine ⟨T', _, rfl, SqT.of upd_same, rfl, _, _, rfl, _, _, rfl, rfl, ?_⟩
    decreasing_trivial
    refine iteD (fun e => ?_) (fun e => ?_)
    · have e2 := of_decide_eq_true e
      decreasing_trivial
      rw [bitand_nat _ (by omega) _ (by omega)]
      refine ⟨some (.int ((i : Nat) : Int)), some (.int (g i)), ?_, e1.trans (Fm.new hT'), ?_⟩
      · have e7 : wLeast g low (i + 1) (2 ^ n - 1) = wLeast g low i (2 ^ n - 1) &&& i := by
          show (if g i = low then wLeast g low i (2 ^ n - 1) &&& i else wLeast g low i (2 ^ n - 1)) = _
          rw [if_pos e2]
        rw [e7]
        rfl
      · show (if g i = low then wLeast g low i (2 ^ n - 1) &&& i else wLeast g low i (2 ^ n - 1)) < 2 ^ n
        rw [if_pos e2]
        exact Nat.lt_of_le_of_lt Nat.and_le_left hlt
    · have e2 := of_decide_eq_false e
      decreasing_trivial
      refine ⟨some (.int ((i : Nat) : Int)), some (.int (g i)), ?_, e1.trans (Fm.new hT'), ?_⟩
      · have e7 : wLeast g low (i + 1) (2 ^ n - 1) = wLeast g low i (2 ^ n - 1) := by
          show (if g i = low then wLeast g low i (2 ^ n - 1) &&& i else wLeast g low i (2 ^ n - 1)) = _
          rw [if_neg e2]
        rw [e7]
        rfl
      · show (if g i = low then wLeast g low i (2 ^ n - 1) &&& i else wLeast g low i (2 ^ n - 1)) < 2 ^ n
        rw [if_neg e2]
        exact hlt
  · obtain ⟨_, _, rfl, e1, hlt⟩ := hp
    rw [byM_len]
    decreasing_trivial
    exact q _ low e1 hmin
theorem sc_greatest_worst : FnScope ["numbers", "found", "least", "mask", "number"] ["numbers"] (defScope (top 76)) := ⟨rfl, rfl, rfl, by decide +kernel, rfl, by decide +kernel, by decide +kernel⟩
theorem d_greatest_worst (T : Txt K mg C)  : Df P w K mg base "greatest_worst" 1 (spGreat G) := by
  have sc := sc_greatest_worst
  refine FnT.df (T.fn ("greatest_worst", 76) (by decide)) sc len1 (fun _ _ _ _ _ _ us hl => match us, hl with | [_], _ => rfl) (fun f cdv A outer s H vs Q E hr h => ?_)
  have hu := hu_of hr
  have hu64 := hr.units
  have hu0 := Nat.lt_of_succ_lt hu
  obtain ⟨x1, rfl, h⟩ := h
  refine ⟨_, (pss_cons (ps_parA (i := 1) (j := 2) sc.nd (pa_cons pe_int (pa_cons (pe_callB (cr_minK K) (by rfl) T.f_min (by decide +kernel) (pa_cons (pv 0) pa_nil)) pa_nil)))
  (pss_cons (ps_for PassesOwn.never rfl (pi_enumK K rfl T.f_enumerate (pa_cons (pv 0) pa_nil)) (pg_tupK K (n := 2) rfl (pgs_cons (pg_name (i := 3) sc.nd rfl (by first | exact Or.inl rfl | exact Or.inr rfl)) (pgs_cons (pg_name (i := 4) sc.nd rfl (by first | exact Or.inl rfl | exact Or.inr rfl)) pgs_nil))) (pss_one (ps_if (pt_cmpR op_eq (pv 4) (pv 2) (nomark _)) (pss_one (ps_set (i := 1) sc.nd rfl (by first | exact Or.inl rfl | exact Or.inr rfl) (pe_op op_or (pv 1) (pv 3)))) pss_nil)))
  (pss_one (ps_ret (pv 1))))), ?_⟩
  obtain ⟨a, n, g, rfl, hn, ha, q⟩ := h
  have h32 : 2 ^ n ≤ 32 := Nat.le_trans (Nat.pow_le_pow_right (by decide) hn.2) (by decide)
  have hp0 : 0 < 2 ^ n := Nat.two_pow_pos _
  decreasing_trivial
  refine ⟨a, (List.range (2 ^ n)).map g, rfl, SqL.of (by rw [ha, List.map_map]; rfl), by rw [List.length_map, List.length_range]; omega, fun low hl1 hl2 => ?_⟩
  have hmin : IsMin n g low := isMin_of hl1 hl2
  decreasing_trivial
  refine ⟨a, _, rfl, SqL.of ha, ?_⟩
  refine for_it (walk_enum (xs := byM n g)) (fun i σ H1 => ∃ v3 v4, σ = [some (.ref a), some (.int ((wMost g low i : Nat) : Int)), some (.int low), v3, v4] ∧ Fs G H H1 ∧ wMost g low i < 2 ^ n) ⟨none, none, rfl, Fm.refl _, hp0⟩ (fun i σ H1 _ hp => ?_) (fun i x σ H1 H2 hi hp hx => ?_) (fun σ H1 hp => ?_)
  · obtain ⟨_, _, _, e1, _⟩ := hp
    exact SqL.of (e1.lst ha)
  · obtain ⟨v3, v4, rfl, e1, hlt⟩ := hp
    obtain ⟨T', x1, x2, rfl, hT', rfl, hx1, hx2⟩ := hx
    rw [byM_len] at hi
    dsimp only at hx1 hx2
    rw [byM_get hi] at hx2
    cases hx1
    cases hx2
    refine ⟨T', _, rfl, SqT.of upd_same, rfl, _, _, rfl, _, _, rfl, rfl, ?_⟩
    decreasing_trivial
    refine iteD (fun e => ?_) (fun e => ?_)
    · have e2 := of_decide_eq_true e
      decreasing_trivial
      rw [bitor_nat _ (by omega) _ (by omega)]
      refine ⟨some (.int ((i : Nat) : Int)), some (.int (g i)), ?_, e1.trans (Fm.new hT'), ?_⟩
      · have e7 : wMost g low (i + 1) = wMost g low i ||| i := by
          show (if g i = low then wMost g low i ||| i else wMost g low i) = _
          rw [if_pos e2]
        rw [e7]
        rfl
      · show (if g i = low then wMost g low i ||| i else wMost g low i) < 2 ^ n
        rw [if_pos e2]
        exact Nat.or_lt_two_pow hlt hi
    · have e2 := of_decide_eq_false e
      decreasing_trivial
      refine ⟨some (.int ((i : Nat) : Int)), some (.int (g i)), ?_, e1.trans (Fm.new hT'), ?_⟩
      · have e7 : wMost g low (i + 1) = wMost g low i := by
          show (if g i = low then wMost g low i ||| i else wMost g low i) = _
          rw [if_neg e2]
        rw [e7]
        rfl
      · show (if g i = low then wMost g low i ||| i else wMost g low i) < 2 ^ n
        rw [if_neg e2]
        exact hlt
  · obtain ⟨_, _, rfl, e1, hlt⟩ := hp
    rw [byM_len]
    decreasing_trivial
    exact q _ low e1 hmin
end
end Hy
namespace Hy
open PySem PySem.Spec PyProof.Rows L2
local macro_rules | `(tactic| decreasing_trivial) => `(tactic| ((try (with_reducible conv => whnf)); repeat (first
    | with_reducible refine iteT ?_
    | with_reducible refine iteF ?_
    | with_reducible refine iteNT ?_
    | with_reducible refine iteNF ?_
    | with_reducible refine r_isi_int ?_
    | with_reducible refine r_isi_bool ?_
    | with_reducible refine r_isi_str ?_
    | with_reducible refine r_eqN ?_
    | with_reducible refine r_neN ?_
    | with_reducible refine r_eqS ?_
    | with_reducible refine r_neS ?_
    | with_reducible refine r_seq ?_
    | with_reducible refine r_asg ?_
    | with_reducible refine r_gname ?_
    | with_reducible refine r_ret ?_
    | with_reducible refine r_drop ?_
    | with_reducible refine r_next ?_
    | with_reducible refine r_op ?_
    | with_reducible refine r_var (by with_unfolding_all exact rfl) ?_
    | with_reducible refine r_c ?_
    | with_reducible refine r_cons ?_
    | with_reducible refine r_nil ?_
    | with_reducible refine r_un ?_
    | with_reducible refine r_I0 ?_
    | with_reducible refine r_U ?_
    | with_reducible refine r_df ?_
    | with_reducible refine r_cb ?_
    | with_reducible refine r_ifS ?_
    | with_reducible refine r_ifE ?_
    | with_reducible refine r_test ?_
    | with_reducible refine r_B ?_
    | with_reducible refine r_tand ?_
    | with_reducible refine r_tor ?_
    | with_reducible refine r_tnot ?_
    | with_reducible refine r_andV ?_
    | with_reducible refine r_orV ?_
    | with_reducible refine r_notV ?_
    | with_reducible refine r_blif ?_
    | with_reducible refine r_bl ?_
    | with_reducible refine r_chain ?_
    | with_reducible refine r_tup ?_
    | with_reducible refine r_lst ?_
    | with_reducible refine r_fld ?_
    | with_reducible refine r_dget ?_
    | with_reducible refine r_din ?_
    | with_reducible refine r_pt ?_
    | with_reducible refine r_mt ?_
    | with_reducible refine r_iEnumS ?_
    | with_reducible refine r_bm ?_
    | with_reducible refine r_iStr ?_
    | with_reducible refine r_lcT ?_
    | with_reducible refine r_dcT ?_
    | with_reducible refine r_iList ?_
    | with_reducible refine r_iTup ?_
    | with_reducible refine r_iRng1 ?_
    | with_reducible refine r_iRng2 ?_
    | with_reducible refine r_iEnum ?_
    | with_reducible refine r_iZip ?_
    | with_reducible refine r_iKeys ?_
    | with_reducible refine r_iItems ?_
    | with_reducible refine r_iVals ?_
    | with_reducible refine r_lstRg ?_
    | with_reducible refine r_rg1 ?_
    | with_reducible refine r_sortDf ?_
    | with_reducible refine r_bits ?_
    | with_reducible refine r_forT ?_
    | with_reducible refine r_augS ?_
    | with_reducible refine r_gsub ?_
    | with_reducible refine r_bm0 ?_
    | with_reducible refine r_sortLam ?_
    | with_reducible refine r_sfld ?_
    | with_reducible refine r_dput ?_
    | with_reducible refine r_dnewK ?_
    | with_reducible refine r_mk ?_
    | with_reducible refine r_con ?_
    | with_reducible refine r_lockS ?_
    | with_reducible refine r_sl ?_
    | with_reducible refine r_part ?_
    | with_reducible refine r_nopart ?_
    | with_reducible refine r_dget2 ?_
    | with_reducible refine r_isN ?_
    | with_reducible refine r_notN ?_
    | with_reducible refine r_par ?_
    | with_reducible refine r_par2 ?_
    | with_reducible refine r_yes ?_
    | with_reducible refine r_scT ?_)))
section
variable {P : Program} {w : World} {K : PySem.W.Frag} {mg : Str → Option Value} {base : Heap} {C : Ad} {G : List (Addr × Str)}
theorem sc_hangs : FnScope ["case", "wants"] ["case", "wants"] (defScope (top 77)) := ⟨rfl, rfl, rfl, by decide +kernel, rfl, by decide +kernel, by decide +kernel⟩
theorem d_hangs (T : Txt K mg C) (D_need_one_font : Df P w K mg base "need_one_font" 4 (spOneFont C G)) (D_slacks_of : Df P w K mg base "slacks_of" 9 (spSlacksOf C G)) : Df P w K mg base "hangs" 11 (spHangs C G) := by
  have sc := sc_hangs
  refine FnT.df (T.fn ("hangs", 77) (by decide)) sc len2 (fun _ _ _ _ _ _ us hl => match us, hl with | [_, _], _ => rfl) (fun f cdv A outer s H vs Q E hr h => ?_)
  have hu := hu_of hr
  have hu64 := hr.units
  have hu0 := Nat.lt_of_succ_lt hu
  obtain ⟨x1, x2, rfl, h⟩ := h
  refine ⟨_, (pss_cons (ps_expr (pe_df D_need_one_font (hr.mono (by decide)) rfl (pa_cons (pv 0) (pa_cons (pv 1) pa_nil))))
  (pss_one (ps_ret (pe_cmpR op_ge (pe_callB (cr_minK K) (by rfl) T.f_min (by decide +kernel) (pa_cons (pe_df D_slacks_of (hr.mono (by decide)) rfl (pa_cons (pv 0) (pa_cons (pv 1) pa_nil))) pa_nil)) pe_int (nomark _))))), ?_⟩
  obtain ⟨x', y', f', F, st, n, rfl, rfl, hC, hW, q⟩ := h
  have h32 := pow32 hC.1.1
  have hp0 : 0 < 2 ^ F.n := Nat.two_pow_pos _
  decreasing_trivial
  refine r_sp2 ⟨x', y', f', F, st, rfl, rfl, hC, .inr ⟨n, hW⟩, fun H1 e1 => ?_⟩
  decreasing_trivial
  refine r_sp2 ⟨x', y', f', F, st, n, rfl, rfl, hC.mono e1, hW.mono e1, fun H2 p e2 h2 => ?_⟩
  decreasing_trivial
  refine ⟨p, (List.range (2 ^ F.n)).map (slk F st n), rfl, SqL.of (by rw [h2, List.map_map]; rfl), by rw [List.length_map, List.length_range]; omega, fun low hl1 hl2 => ?_⟩
  decreasing_trivial
  exact q _ low (e1.trans e2) (isMin_of hl1 hl2)
theorem sc_shortage : FnScope ["case", "wants", "numbers", "font"] ["case", "wants"] (defScope (top 78)) := ⟨rfl, rfl, rfl, by decide +kernel, rfl, by decide +kernel, by decide +kernel⟩
theorem d_shortage (T : Txt K mg C) (D_need_one_font : Df P w K mg base "need_one_font" 4 (spOneFont C G)) (D_slacks_of : Df P w K mg base "slacks_of" 9 (spSlacksOf C G)) (D_Pile_font : Pt P w K mg base C.CC "font" 1 (spFontC C)) (D_least_worst : Df P w K mg base "least_worst" 1 (spLeast G)) (D_greatest_worst : Df P w K mg base "greatest_worst" 1 (spGreat G)) (D_set_of : Df P w K mg base "set_of" 3 (spSetOf C G)) : Df P w K mg base "shortage" 11 (spShort C G) := by
  have sc := sc_shortage
  refine FnT.df (T.fn ("shortage", 78) (by decide)) sc len2 (fun _ _ _ _ _ _ us hl => match us, hl with | [_, _], _ => rfl) (fun f cdv A outer s H vs Q E hr h => ?_)
  have hu := hu_of hr
  have hu64 := hr.units
  have hu0 := Nat.lt_of_succ_lt hu
  obtain ⟨x1, x2, rfl, h⟩ := h
  refine ⟨_, (pss_cons (ps_expr (pe_df D_need_one_font (hr.mono (by decide)) rfl (pa_cons (pv 0) (pa_cons (pv 1) pa_nil))))
  (pss_cons (ps_parA (i := 2) (j := 3) sc.nd (pa_cons (pe_df D_slacks_of (hr.mono (by decide)) rfl (pa_cons (pv 0) (pa_cons (pv 1) pa_nil))) (pa_cons (pe_prp D_Pile_font (hr.mono (by decide)) (pv 0) rfl) pa_nil)))
  (pss_one (ps_ret (pe_tup (pa_cons (pe_un un_neg (pe_callB (cr_minK K) (by rfl) T.f_min (by decide +kernel) (pa_cons (pv 2) pa_nil))) (pa_cons (pe_df D_set_of (hr.mono (by decide)) rfl (pa_cons (pv 3) (pa_cons (pe_df D_least_worst (hr.mono (by decide)) rfl (pa_cons (pv 2) pa_nil)) pa_nil))) (pa_cons (pe_df D_set_of (hr.mono (by decide)) rfl (pa_cons (pv 3) (pa_cons (pe_df D_greatest_worst (hr.mono (by decide)) rfl (pa_cons (pv 2) pa_nil)) pa_nil))) pa_nil)))))))), ?_⟩
  obtain ⟨x', y', f', F, st, n, rfl, rfl, hC, hW, q⟩ := h
  have h32 := pow32 hC.1.1
  have hp0 : 0 < 2 ^ F.n := Nat.two_pow_pos _
  decreasing_trivial
  refine r_sp2 ⟨x', y', f', F, st, rfl, rfl, hC, .inr ⟨n, hW⟩, fun H1 e1 => ?_⟩
  decreasing_trivial
  refine r_sp2 ⟨x', y', f', F, st, n, rfl, rfl, hC.mono e1, hW.mono e1, fun H2 p e2 h2 => ?_⟩
  decreasing_trivial
  have e12 := e1.trans e2
  refine r_fontC (hC.mono e12) ?_
  decreasing_trivial
  refine ⟨p, (List.range (2 ^ F.n)).map (slk F st n), rfl, SqL.of (by rw [h2, List.map_map]; rfl), by rw [List.length_map, List.length_range]; omega, fun low hl1 hl2 => ?_⟩
  have hmin : IsMin F.n (slk F st n) low := isMin_of hl1 hl2
  decreasing_trivial
  refine r_sp1 ⟨p, F.n, _, rfl, hC.1.1.n, h2, fun H3 low2 e3 hm2 => ?_⟩
  obtain rfl := hmin.uniq hm2
  decreasing_trivial
  have hw1 := wLeast_lt (g := slk F st n) (low := low) (n := F.n)
  refine r_sp2 ⟨f', F, _, rfl, rfl, (hC.1.mono (e12.trans e3)).at, hw1, fun H4 e4 => ?_⟩
  decreasing_trivial
  refine r_sp1 ⟨p, F.n, _, rfl, hC.1.1.n, (e3.trans e4).lst h2, fun H5 low2 e5 hm2 => ?_⟩
  obtain rfl := hmin.uniq hm2
  decreasing_trivial
  have hw2 := wMost_lt (g := slk F st n) (low := low) (n := F.n) (2 ^ F.n) (Nat.le_refl _)
  refine r_sp2 ⟨f', F, _, rfl, rfl, (hC.1.mono (((e12.trans e3).trans e4).trans e5)).at, hw2, fun H6 e6 => ?_⟩
  decreasing_trivial
  refine ⟨by show 3 ≤ sizeLine; decide, fun t ht => ?_⟩
  exact q _ low t (((((e12.trans e3).trans e4).trans e5).trans e6).trans (Fm.new ht)) hmin upd_same
theorem sc_base_of : FnScope ["case", "wants", "others", "numbers"] ["case", "wants", "others"] (defScope (top 79)) := ⟨rfl, rfl, rfl, by decide +kernel, rfl, by decide +kernel, by decide +kernel⟩
theorem d_base_of (T : Txt K mg C) (D_need_one_font : Df P w K mg base "need_one_font" 4 (spOneFont C G)) (D_slacks_of : Df P w K mg base "slacks_of" 9 (spSlacksOf C G)) (D_Pile_font : Pt P w K mg base C.CC "font" 1 (spFontC C)) (D_stock_of : Df P w K mg base "stock_of" 6 (spStockOf C G)) (D_bearings_of : Df P w K mg base "bearings_of" 6 (spBear C G)) (D_amounts_of : Df P w K mg base "amounts_of" 7 (spAmounts C G)) (D_wants_by_mask : Df P w K mg base "wants_by_mask" 6 (spWantM C G)) : Df P w K mg base "base_of" 10 (spBase C G) := by
  have sc := sc_base_of
  refine FnT.df (T.fn ("base_of", 79) (by decide)) sc len3 (fun _ _ _ _ _ _ us hl => match us, hl with | [_, _, _], _ => rfl) (fun f cdv A outer s H vs Q E hr h => ?_)
  have hu := hu_of hr
  have hu64 := hr.units
  have hu0 := Nat.lt_of_succ_lt hu
  obtain ⟨x1, x2, x3, rfl, h⟩ := h
  refine ⟨_, (pss_cons (ps_expr (pe_df D_need_one_font (hr.mono (by decide)) rfl (pa_cons (pv 0) (pa_cons (pv 1) pa_nil))))
  (pss_cons (ps_if (pt_cmpR op_isN1 (pv 2) pe_non (nomark _)) (pss_one (ps_set (i := 3) sc.nd rfl (by first | exact Or.inl rfl | exact Or.inr rfl) (pe_df D_bearings_of (hr.mono (by decide)) rfl (pa_cons (pe_prp D_Pile_font (hr.mono (by decide)) (pv 0) rfl) (pa_cons (pe_df D_stock_of (hr.mono (by decide)) rfl (pa_cons (pv 0) pa_nil)) pa_nil))))) (pss_cons (ps_expr (pe_df D_need_one_font (hr.mono (by decide)) rfl (pa_cons (pv 0) (pa_cons (pv 2) pa_nil))))
  (pss_one (ps_set (i := 3) sc.nd rfl (by first | exact Or.inl rfl | exact Or.inr rfl) (pe_df D_slacks_of (hr.mono (by decide)) rfl (pa_cons (pv 0) (pa_cons (pv 2) pa_nil)))))))
  (pss_one (ps_ret (pe_tup (pa_cons (pv 3) (pa_cons (pe_df D_wants_by_mask (hr.mono (by decide)) rfl (pa_cons (pe_prp D_Pile_font (hr.mono (by decide)) (pv 0) rfl) (pa_cons (pe_df D_amounts_of (hr.mono (by decide)) rfl (pa_cons (pv 1) pa_nil)) pa_nil))) pa_nil))))))), ?_⟩
  obtain ⟨x', y', f', F, st, n, rfl, rfl, rfl, hC, hW, q⟩ := h
  decreasing_trivial
  refine r_sp2 ⟨x', y', f', F, st, rfl, rfl, hC, .inr ⟨n, hW⟩, fun H1 e1 => ?_⟩
  decreasing_trivial
  refine iteE (decide_eq_true rfl) ?_
  decreasing_trivial
  refine r_fontC (hC.mono e1) ?_
  decreasing_trivial
  refine r_sp1 ⟨x', f', F, st, rfl, hC.mono e1, fun H2 p2 e2 h2 => ?_⟩
  decreasing_trivial
  refine r_sp2 ⟨f', F, p2, st, rfl, (hC.1.mono (e1.trans e2)).at, rfl, h2, fun H3 p3 e3 n3 h3 => ?_⟩
  decreasing_trivial
  have e13 := (e1.trans e2).trans e3
  refine r_fontC (hC.mono e13) ?_
  decreasing_trivial
  refine r_sp1 ⟨y', f', F, n, rfl, hW.mono e13, fun H4 p4 e4 h4 => ?_⟩
  decreasing_trivial
  refine r_sp2 ⟨f', F, p4, n, rfl, (hC.1.mono (e13.trans e4)).at, rfl, h4, fun H5 p5 e5 n5 h5 => ?_⟩
  decreasing_trivial
  refine ⟨by show 2 ≤ sizeLine; decide, fun t ht => ?_⟩
  have e6 : Fs G H5 (upd H5 t (.tup [.ref p3, .ref p5])) := Fm.new ht
  exact q _ t p3 p5 (((e13.trans e4).trans e5).trans e6) (e6.lst (e5.lst (e4.lst h3))) (e6.lst h5) upd_same
end
end Hy
namespace Hy
open PySem PySem.Spec PyProof.Rows L2
local macro_rules | `(tactic| decreasing_trivial) => `(tactic| ((try (with_reducible conv => whnf)); repeat (first
    | with_reducible refine iteT ?_
    | with_reducible refine iteF ?_
    | with_reducible refine iteNT ?_
    | with_reducible refine iteNF ?_
    | with_reducible refine r_isi_int ?_
    | with_reducible refine r_isi_bool ?_
    | with_reducible refine r_isi_str ?_
    | with_reducible refine r_eqN ?_
    | with_reducible refine r_neN ?_
    | with_reducible refine r_eqS ?_
    | with_reducible refine r_neS ?_
    | with_reducible refine r_seq ?_
    | with_reducible refine r_asg ?_
    | with_reducible refine r_gname ?_
    | with_reducible refine r_ret ?_
    | with_reducible refine r_drop ?_
    | with_reducible refine r_next ?_
    | with_reducible refine r_op ?_
    | with_reducible refine r_var (by with_unfolding_all exact rfl) ?_
    | with_reducible refine r_c ?_
    | with_reducible refine r_cons ?_
    | with_reducible refine r_nil ?_
    | with_reducible refine r_un ?_
    | with_reducible refine r_I0 ?_
    | with_reducible refine r_U ?_
    | with_reducible refine r_df ?_
    | with_reducible refine r_cb ?_
    | with_reducible refine r_ifS ?_
    | with_reducible refine r_ifE ?_
    | with_reducible refine r_test ?_
    | with_reducible refine r_B ?_
    | with_reducible refine r_tand ?_
    | with_reducible refine r_tor ?_
    | with_reducible refine r_tnot ?_
    | with_reducible refine r_andV ?_
    | with_reducible refine r_orV ?_
    | with_reducible refine r_notV ?_
    | with_reducible refine r_blif ?_
    | with_reducible refine r_bl ?_
    | with_reducible refine r_chain ?_
    | with_reducible refine r_tup ?_
    | with_reducible refine r_lst ?_
    | with_reducible refine r_fld ?_
    | with_reducible refine r_dget ?_
    | with_reducible refine r_din ?_
    | with_reducible refine r_pt ?_
    | with_reducible refine r_mt ?_
    | with_reducible refine r_iEnumS ?_
    | with_reducible refine r_bm ?_
    | with_reducible refine r_iStr ?_
    | with_reducible refine r_lcT ?_
    | with_reducible refine r_dcT ?_
    | with_reducible refine r_iList ?_
    | with_reducible refine r_iTup ?_
    | with_reducible refine r_iRng1 ?_
    | with_reducible refine r_iRng2 ?_
    | with_reducible refine r_iEnum ?_
    | with_reducible refine r_iZip ?_
    | with_reducible refine r_iKeys ?_
    | with_reducible refine r_iItems ?_
    | with_reducible refine r_iVals ?_
    | with_reducible refine r_lstRg ?_
    | with_reducible refine r_rg1 ?_
    | with_reducible refine r_sortDf ?_
    | with_reducible refine r_bits ?_
    | with_reducible refine r_forT ?_
    | with_reducible refine r_augS ?_
    | with_reducible refine r_gsub ?_
    | with_reducible refine r_bm0 ?_
    | with_reducible refine r_sortLam ?_
    | with_reducible refine r_sfld ?_
    | with_reducible refine r_dput ?_
    | with_reducible refine r_dnewK ?_
    | with_reducible refine r_mk ?_
    | with_reducible refine r_con ?_
    | with_reducible refine r_lockS ?_
    | with_reducible refine r_sl ?_
    | with_reducible refine r_part ?_
    | with_reducible refine r_nopart ?_
    | with_reducible refine r_dget2 ?_
    | with_reducible refine r_isN ?_
    | with_reducible refine r_notN ?_
    | with_reducible refine r_par ?_
    | with_reducible refine r_par2 ?_
    | with_reducible refine r_yes ?_
    | with_reducible refine r_scT ?_)))
section
variable {P : Program} {w : World} {K : PySem.W.Frag} {mg : Str → Option Value} {base : Heap} {C : Ad} {G : List (Addr × Str)}
theorem sc_copies : FnScope ["case", "wants", "others", "numbers", "more", "found", "mask", "number"] ["case", "wants", "others"] (defScope (top 80)) := ⟨rfl, rfl, rfl, by decide +kernel, rfl, by decide +kernel, by decide +kernel⟩

def FoundAt (H : Hp) (o : Option Int) (v : V) : Prop := match o with
  | none => v = .non
  | some b => ∃ t s, v = .ref t ∧ H t = some (.tup [.int b, .str s])
theorem FoundAt.mono {b : Fb} {H H' : Hp} {o : Option Int} {v : V} (e : Fm b H H') (h : FoundAt H o v) : FoundAt H' o v := by
  cases o with
  | none => exact h
  | some x =>
    obtain ⟨t, s, h1, h2⟩ := h
    exact ⟨t, s, h1, e.tup h2⟩
theorem cpF_some {num more : Nat → Int} : ∀ (N : Nat), (∃ m, m < N ∧ 0 < more m) → ∃ k, cpF num more N = some k
  | 0, ⟨m, h, _⟩ => by omega
  | N + 1, ⟨m, h, h2⟩ => by
    unfold cpF
    cases hc : cpF num more N with
    | none =>
      dsimp only
      by_cases e : m < N
      · obtain ⟨k, hk⟩ := cpF_some (num := num) N ⟨m, e, h2⟩
        rw [hk] at hc
        cases hc
      · have : m = N := by omega
        subst this
        rw [if_pos h2]
        exact ⟨_, rfl⟩
    | some b =>
      dsimp only
      split
      · split
        · exact ⟨_, rfl⟩
        · exact ⟨_, rfl⟩
      · exact ⟨_, rfl⟩
theorem d_copies (T : Txt K mg C) (TC : ∃ f fd, FunD K "copies" "copies" (defArgs (top 80)) (defBody (top 80)) (defScope (top 80)) [.non] [] f fd ∧ mg "copies" = some (.ref f)) (D_base_of : Df P w K mg base "base_of" 10 (spBase C G)) (D_Pile_font : Pt P w K mg base C.CC "font" 1 (spFontC C)) (D_set_of : Df P w K mg base "set_of" 3 (spSetOf C G)) : Df P w K mg base "copies" 12 (spCopies C G) := by
  have sc := sc_copies
  obtain ⟨f, fd, Fd, hm⟩ := TC
  obtain ⟨ds, hd, hb⟩ := Fd.binds1 (ps := ["case", "wants", "others"]) 2 0 (by decide) rfl (fun Ta doc pm kV an cdv ct us its h1 h2 => match us, its, h1, h2 with | [_, _], [_], _, _ => ⟨_, rfl, rfl⟩)
  refine ⟨f, ?_, hm, Fd.kp⟩
  have OK : FnOk P w K mg base CX0 12 f fd ["case", "wants", "others"] (sp3 fun x y z H Q => z = .non ∧ spCopies C G [x, y] H Q E0) := by
    refine funD_nox Fd sc len3 (fun cdv A outer s H vs Q E hr h => ?_)
    have hu := hu_of hr
    obtain ⟨x1, x2, x3, rfl, rfl, x1', x2', e0, x', y', f', F, st, n, rfl, rfl, hC, hW, hbd, hex, q⟩ := h
    cases e0
    refine ⟨_, (pss_cons (ps_asg (pe_df D_base_of (hr.mono (by decide)) rfl (pa_cons (pv 0) (pa_cons (pv 1) (pa_cons (pv 2) pa_nil)))) (pg_tupK K (n := 2) rfl (pgs_cons (pg_name (i := 3) sc.nd rfl (by first | exact Or.inl rfl | exact Or.inr rfl)) (pgs_cons (pg_name (i := 4) sc.nd rfl (by first | exact Or.inl rfl | exact Or.inr rfl)) pgs_nil))))
  (pss_cons (ps_if (pt_cmpR op_lt (pe_callB (cr_minK K) (by rfl) T.f_min (by decide +kernel) (pa_cons (pv 3) pa_nil)) pe_int (nomark _)) (pss_one ps_never) pss_nil)
  (pss_cons (ps_set (i := 5) sc.nd rfl (by first | exact Or.inl rfl | exact Or.inr rfl) pe_non)
  (pss_cons (ps_for PassesOwn.never rfl (pi_enumK K rfl T.f_enumerate (pa_cons (pv 3) pa_nil)) (pg_tupK K (n := 2) rfl (pgs_cons (pg_name (i := 6) sc.nd rfl (by first | exact Or.inl rfl | exact Or.inr rfl)) (pgs_cons (pg_name (i := 7) sc.nd rfl (by first | exact Or.inl rfl | exact Or.inr rfl)) pgs_nil))) (pss_one (ps_if (PW.pt (pw_and (pt_cmpR op_gt (pe_ix (ix_listK K) (pv 4) (pv 6) (fun _ _ => rfl)) pe_int (nomark _)) (pw_and1 (PW.pt (pw_or (pt_cmpR op_isN1 (pv 5) pe_non (nomark _)) (pw_or1 (pt_cmpR op_lt (pe_op op_fdivW (pv 7) (pe_ix (ix_listK K) (pv 4) (pv 6) (fun _ _ => rfl))) (pe_ix (ix_tupK K) (pv 5) pe_int (fun _ _ => rfl)) (nomark _)))))))) (pss_one (ps_set (i := 5) sc.nd rfl (by first | exact Or.inl rfl | exact Or.inr rfl) (pe_tup (pa_cons (pe_op op_fdivW (pv 7) (pe_ix (ix_listK K) (pv 4) (pv 6) (fun _ _ => rfl))) (pa_cons (pe_df D_set_of (hr.mono (by decide)) rfl (pa_cons (pe_prp D_Pile_font (hr.mono (by decide)) (pv 0) rfl) (pa_cons (pv 6) pa_nil))) pa_nil))))) pss_nil)))
  (pss_one (ps_ret (pv 5))))))), ?_⟩
    have h32 := pow32 hC.1.1
    have hp0 : 0 < 2 ^ F.n := Nat.two_pow_pos _
    decreasing_trivial
    refine r_sp3 ⟨x', y', f', F, st, n, rfl, rfl, rfl, hC, hW, fun H1 p a b e1 ha hb hp => ?_⟩
    refine ⟨p, _, rfl, SqT.of hp, rfl, _, _, rfl, _, _, rfl, rfl, ?_⟩
    decreasing_trivial
    refine ⟨a, (List.range (2 ^ F.n)).map fun m => F.bear st (F.qm m), rfl, SqL.of (by rw [ha, List.map_map]; rfl), by rw [List.length_map, List.length_range]; omega, fun low hl1 hl2 => ?_⟩
    obtain ⟨m0, _, hm0⟩ := List.mem_map.mp hl1
    have hb0 := Ft.bear_bd (F := F) hC.2.1 (F.qm m0)
    decreasing_trivial
    refine iteN (decide_eq_false (by omega)) ?_
    decreasing_trivial
    refine ⟨a, _, rfl, SqL.of ha, ?_⟩
    refine for_it (walk_enum (xs := byM F.n fun m => F.bear st (F.qm m))) (fun i σ H2 => ∃ v5 v6 v7, σ = [some (.ref x'), some (.ref y'), some .non, some (.ref a), some (.ref b), some v5, v6, v7] ∧ Fs G H1 H2 ∧ FoundAt H2 (cpF (fun m => F.bear st (F.qm m)) (fun m => F.want n (F.qm m)) i) v5) ⟨.non, none, none, rfl, Fm.refl _, rfl⟩ (fun i σ H2 _ hp => ?_) (fun i x σ H2 H3 hi hp hx => ?_) (fun σ H2 hp => ?_)
    · obtain ⟨_, _, _, _, e2, _⟩ := hp
      exact SqL.of (e2.lst ha)
    · obtain ⟨v5, v6, v7, rfl, e2, hf⟩ := hp
      obtain ⟨T', x1, x2, rfl, hT', rfl, hx1, hx2⟩ := hx
      rw [byM_len] at hi
      dsimp only at hx1 hx2
      rw [byM_get hi] at hx2
      cases hx1
      cases hx2
      refine ⟨T', _, rfl, SqT.of upd_same, rfl, _, _, rfl, _, _, rfl, rfl, ?_⟩
      have e3 : Fs G H1 (upd H2 T' (.tup [.int ((i : Nat) : Int), .int (F.bear st (F.qm i))])) := e2.trans (Fm.new hT')
      have hf3 := hf.mono (Fm.new (b := ⟨false, G⟩) (o := .tup [.int ((i : Nat) : Int), .int (F.bear st (F.qm i))]) hT')
      generalize upd H2 T' (.tup [.int ((i : Nat) : Int), .int (F.bear st (F.qm i))]) = H3 at *
      have hb3 := e3.lst hb
      have hC3 := hC.mono (e1.trans e3)
      have hwb := Ft.want_bd hC.1.1 hbd (F.qm i)
      decreasing_trivial
      refine r_ixN (SqL.of hb3) (byM_get hi) ?_
      decreasing_trivial
      refine iteD (fun ew => ?_) (fun ew => ?_)
      · have hw0 := of_decide_eq_true ew
        have hdw := divW (i := F.bear st (F.qm i)) hw0 hwb.2
        cases hcp : cpF (fun m => F.bear st (F.qm m)) (fun m => F.want n (F.qm m)) i with
        | none =>
          rw [hcp] at hf3
          have hf3 : v5 = V.non := hf3
          subst hf3
          decreasing_trivial
          have hnew : cpF (fun m => F.bear st (F.qm m)) (fun m => F.want n (F.qm m)) (i + 1) = some (F.bear st (F.qm i) / F.want n (F.qm i)) := by
            unfold cpF
            rw [hcp]
            exact if_pos hw0
          refine iteE (decide_eq_true rfl) ?_
          decreasing_trivial
          refine r_ixN (SqL.of hb3) (byM_get hi) ?_
          refine r_I hdw ?_
          decreasing_trivial
          refine r_fontC hC3 ?_
          decreasing_trivial
          refine r_sp2 ⟨f', F, i, rfl, rfl, hC3.1.at, hi, fun H4 e4 => ?_⟩
          decreasing_trivial
          refine ⟨by show 2 ≤ sizeLine; decide, fun t2 ht2 => ?_⟩
          decreasing_trivial
          refine ⟨_, _, _, rfl, (e3.trans e4).trans (Fm.new ht2), ?_⟩
          rw [hnew]
          exact ⟨t2, _, rfl, upd_same⟩
        | some k =>
          rw [hcp] at hf3
          obtain ⟨t, z, rfl, ht⟩ := hf3
          decreasing_trivial
          refine iteN (decide_eq_false (by intro z; cases z)) ?_
          decreasing_trivial
          refine r_ixN (SqL.of hb3) (byM_get hi) ?_
          refine r_I hdw ?_
          decreasing_trivial
          refine ⟨t, _, 0, _, rfl, rfl, SqT.of ht, rfl, ?_⟩
          decreasing_trivial
          refine iteD (fun el => ?_) (fun el => ?_)
          · have hnew : cpF (fun m => F.bear st (F.qm m)) (fun m => F.want n (F.qm m)) (i + 1) = some (F.bear st (F.qm i) / F.want n (F.qm i)) := by
              unfold cpF
              rw [hcp]
              show (if 0 < F.want n (F.qm i) then (if F.bear st (F.qm i) / F.want n (F.qm i) < k then some (F.bear st (F.qm i) / F.want n (F.qm i)) else some k) else some k) = _
              rw [if_pos hw0, if_pos (of_decide_eq_true el)]
            decreasing_trivial
            refine r_ixN (SqL.of hb3) (byM_get hi) ?_
            refine r_I hdw ?_
            decreasing_trivial
            refine r_fontC hC3 ?_
            decreasing_trivial
            refine r_sp2 ⟨f', F, i, rfl, rfl, hC3.1.at, hi, fun H4 e4 => ?_⟩
            decreasing_trivial
            refine ⟨by show 2 ≤ sizeLine; decide, fun t2 ht2 => ?_⟩
            decreasing_trivial
            refine ⟨_, _, _, rfl, (e3.trans e4).trans (Fm.new ht2), ?_⟩
            rw [hnew]
            exact ⟨t2, _, rfl, upd_same⟩
          · have hnew : cpF (fun m => F.bear st (F.qm m)) (fun m => F.want n (F.qm m)) (i + 1) = some k := by
              unfold cpF
              rw [hcp]
              show (if 0 < F.want n (F.qm i) then (if F.bear st (F.qm i) / F.want n (F.qm i) < k then some (F.bear st (F.qm i) / F.want n (F.qm i)) else some k) else some k) = _
              rw [if_pos hw0, if_neg (of_decide_eq_false el)]
            decreasing_trivial
            refine ⟨_, _, _, rfl, e3, ?_⟩
            rw [hnew]
            exact ⟨t, z, rfl, ht⟩
      · decreasing_trivial
        refine ⟨_, _, _, rfl, e3, ?_⟩
        have hcp : cpF (fun m => F.bear st (F.qm m)) (fun m => F.want n (F.qm m)) (i + 1) = cpF (fun m => F.bear st (F.qm m)) (fun m => F.want n (F.qm m)) i := by
          have hw0 := of_decide_eq_false ew
          conv => lhs; unfold cpF
          cases hc : cpF (fun m => F.bear st (F.qm m)) (fun m => F.want n (F.qm m)) i with
          | none => exact if_neg hw0
          | some b => exact if_neg hw0
        rw [hcp]
        exact hf3
    · obtain ⟨v5, v6, v7, rfl, e2, hf⟩ := hp
      rw [byM_len] at hf
      obtain ⟨k, hk⟩ := cpF_some (num := fun m => F.bear st (F.qm m)) (2 ^ F.n) hex
      rw [hk] at hf
      obtain ⟨t, z, rfl, ht⟩ := hf
      decreasing_trivial
      exact q _ t k z (e1.trans e2) hk ht
  exact (OK.raw hb hd).imp fun vs H Q E h => by
    obtain ⟨x, y, rfl, h2⟩ := id h
    exact ⟨x, y, .non, rfl, rfl, x, y, rfl, h2⟩
end
end Hy
namespace Hy
open PySem PySem.Spec PyProof.Rows L2
local macro_rules | `(tactic| decreasing_trivial) => `(tactic| ((try (with_reducible conv => whnf)); repeat (first
    | with_reducible refine iteT ?_
    | with_reducible refine iteF ?_
    | with_reducible refine iteNT ?_
    | with_reducible refine iteNF ?_
    | with_reducible refine r_isi_int ?_
    | with_reducible refine r_isi_bool ?_
    | with_reducible refine r_isi_str ?_
    | with_reducible refine r_eqN ?_
    | with_reducible refine r_neN ?_
    | with_reducible refine r_eqS ?_
    | with_reducible refine r_neS ?_
    | with_reducible refine r_seq ?_
    | with_reducible refine r_asg ?_
    | with_reducible refine r_gname ?_
    | with_reducible refine r_ret ?_
    | with_reducible refine r_drop ?_
    | with_reducible refine r_next ?_
    | with_reducible refine r_op ?_
    | with_reducible refine r_var (by with_unfolding_all exact rfl) ?_
    | with_reducible refine r_c ?_
    | with_reducible refine r_cons ?_
    | with_reducible refine r_nil ?_
    | with_reducible refine r_un ?_
    | with_reducible refine r_I0 ?_
    | with_reducible refine r_U ?_
    | with_reducible refine r_df ?_
    | with_reducible refine r_cb ?_
    | with_reducible refine r_ifS ?_
    | with_reducible refine r_ifE ?_
    | with_reducible refine r_test ?_
    | with_reducible refine r_B ?_
    | with_reducible refine r_tand ?_
    | with_reducible refine r_tor ?_
    | with_reducible refine r_tnot ?_
    | with_reducible refine r_andV ?_
    | with_reducible refine r_orV ?_
    | with_reducible refine r_notV ?_
    | with_reducible refine r_blif ?_
    | with_reducible refine r_bl ?_
    | with_reducible refine r_chain ?_
    | with_reducible refine r_tup ?_
    | with_reducible refine r_lst ?_
    | with_reducible refine r_fld ?_
    | with_reducible refine r_dget ?_
    | with_reducible refine r_din ?_
    | with_reducible refine r_pt ?_
    | with_reducible refine r_mt ?_
    | with_reducible refine r_iEnumS ?_
    | with_reducible refine r_bm ?_
    | with_reducible refine r_iStr ?_
    | with_reducible refine r_lcT ?_
    | with_reducible refine r_dcT ?_
    | with_reducible refine r_iList ?_
    | with_reducible refine r_iTup ?_
    | with_reducible refine r_iRng1 ?_
    | with_reducible refine r_iRng2 ?_
    | with_reducible refine r_iEnum ?_
    | with_reducible refine r_iZip ?_
    | with_reducible refine r_iKeys ?_
    | with_reducible refine r_iItems ?_
    | with_reducible refine r_iVals ?_
    | with_reducible refine r_lstRg ?_
    | with_reducible refine r_rg1 ?_
    | with_reducible refine r_sortDf ?_
    | with_reducible refine r_bits ?_
    | with_reducible refine r_forT ?_
    | with_reducible refine r_augS ?_
    | with_reducible refine r_gsub ?_
    | with_reducible refine r_bm0 ?_
    | with_reducible refine r_sortLam ?_
    | with_reducible refine r_sfld ?_
    | with_reducible refine r_dput ?_
    | with_reducible refine r_dnewK ?_
    | with_reducible refine r_mk ?_
    | with_reducible refine r_con ?_
    | with_reducible refine r_lockS ?_
    | with_reducible refine r_sl ?_
    | with_reducible refine r_part ?_
    | with_reducible refine r_nopart ?_
    | with_reducible refine r_dget2 ?_
    | with_reducible refine r_isN ?_
    | with_reducible refine r_notN ?_
    | with_reducible refine r_par ?_
    | with_reducible refine r_par2 ?_
    | with_reducible refine r_yes ?_
    | with_reducible refine r_scT ?_)))
section
variable {P : Program} {w : World} {K : PySem.W.Frag} {mg : Str → Option Value} {base : Heap} {C : Ad} {G : List (Addr × Str)}
theorem sc_kind_key : FnScope ["font", "kind", "side"] ["font", "kind"] (defScope (top 67)) := ⟨rfl, rfl, rfl, by decide +kernel, rfl, by decide +kernel, by decide +kernel⟩
theorem d_kind_key (T : Txt K mg C) (D_Font_len : Sl P w K mg base C.CF "__len__" 1 (spFontLen C)) : Df P w K mg base "kind_key" 3 (spKindKey C G) := by
  have sc := sc_kind_key
  refine FnT.df (T.fn ("kind_key", 67) (by decide)) sc len2 (fun _ _ _ _ _ _ us hl => match us, hl with | [_, _], _ => rfl) (fun f cdv A outer s H vs Q E hr h => ?_)
  have hu := hu_of hr
  have hu64 := hr.units
  have hu0 := Nat.lt_of_succ_lt hu
  obtain ⟨x1, x2, rfl, h⟩ := h
  refine ⟨_, (pss_one (ps_ret (pe_lc (own := [("side", 2)]) rfl sc.nd (pi_str (pv 1)) (blkOk_by (N := ["font", "kind", "side"]) (sc := defScope (top 67)) (by decide +kernel)) (fun _ _ _ _ _ => (pg_name (i := 2) sc.nd rfl (by first | exact Or.inl rfl | exact Or.inr rfl))) (fun _ _ _ _ _ => pts_nil) (fun _ _ _ _ _ => (pe_dget2 hu (pe_fldK K (pv 0) rfl) (pv 2) (pe_callB (call_lenSl D_Font_len (hr.mono (by decide))) (by rfl) T.f_len PySem.boot_len (pa_cons (pv 0) pa_nil)) ⟨rfl, rfl, rfl, rfl⟩))))), ?_⟩
  obtain ⟨f', F, k, rfl, hF, rfl, q⟩ := h
  decreasing_trivial
  refine ⟨_, rfl, fun D hD => ?_⟩
  refine cp_it walk_str (Lp ⟨false, G⟩ H D (giv (fun _ => true) (fun c => V.int ((F.rk c : Nat) : Int)) [k.1, k.2])) (Lp.start hD (giv_zero _ _ _)) (fun _ _ _ _ => trivial) (fun i x H1 H2 hi hp hx => ?_) (fun H1 hp => ?_)
  · obtain ⟨rfl, c, hc, rfl⟩ := hx
    have hc' : [k.1, k.2][i]? = some c := by simpa [K2] using hc
    have hF1 := hF.mono hp.1
    obtain ⟨o, dx, fs, r, hh, hk, v⟩ := id hF1
    decreasing_trivial
    refine ⟨rfl, ?_⟩
    decreasing_trivial
    refine r_fld1 v.at_ T.cF T.nRanks v.ranks ?_
    refine ⟨r, rfl, .inl ⟨_, v.hr⟩, ?_⟩
    decreasing_trivial
    refine r_flen hF1 ?_
    refine ⟨_, .inl ⟨_, kS c, v.hr, rfl, rfl⟩, ?_⟩
    have e : (valV (ranksK F) (kS c)).getD (.int ((F.n : Nat) : Int)) = .int ((F.rk c : Nat) : Int) := by
      rw [ranks_get]
      by_cases h : c ∈ F.ws
      · rw [if_pos h]
        rfl
      · rw [if_neg h]
        unfold Ft.rk Ft.n
        rw [List.idxOf_eq_length h]
        rfl
    rw [e]
    exact hp.add hD (Fm.refl _) (Nat.le_trans (giv_len _ _ _ _) (by show 2 ≤ 1000; decide)) (giv_yes hc' rfl)
  · exact q _ D hp.1 hp.2
end
end Hy
namespace Hy
open PySem PySem.Spec PyProof.Rows L2
local macro_rules | `(tactic| decreasing_trivial) => `(tactic| ((try (with_reducible conv => whnf)); repeat (first
    | with_reducible refine iteT ?_
    | with_reducible refine iteF ?_
    | with_reducible refine iteNT ?_
    | with_reducible refine iteNF ?_
    | with_reducible refine r_isi_int ?_
    | with_reducible refine r_isi_bool ?_
    | with_reducible refine r_isi_str ?_
    | with_reducible refine r_eqN ?_
    | with_reducible refine r_neN ?_
    | with_reducible refine r_eqS ?_
    | with_reducible refine r_neS ?_
    | with_reducible refine r_seq ?_
    | with_reducible refine r_asg ?_
    | with_reducible refine r_gname ?_
    | with_reducible refine r_ret ?_
    | with_reducible refine r_drop ?_
    | with_reducible refine r_next ?_
    | with_reducible refine r_op ?_
    | with_reducible refine r_var (by with_unfolding_all exact rfl) ?_
    | with_reducible refine r_c ?_
    | with_reducible refine r_cons ?_
    | with_reducible refine r_nil ?_
    | with_reducible refine r_un ?_
    | with_reducible refine r_I0 ?_
    | with_reducible refine r_U ?_
    | with_reducible refine r_df ?_
    | with_reducible refine r_cb ?_
    | with_reducible refine r_ifS ?_
    | with_reducible refine r_ifE ?_
    | with_reducible refine r_test ?_
    | with_reducible refine r_B ?_
    | with_reducible refine r_tand ?_
    | with_reducible refine r_tor ?_
    | with_reducible refine r_tnot ?_
    | with_reducible refine r_andV ?_
    | with_reducible refine r_orV ?_
    | with_reducible refine r_notV ?_
    | with_reducible refine r_blif ?_
    | with_reducible refine r_bl ?_
    | with_reducible refine r_chain ?_
    | with_reducible refine r_tup ?_
    | with_reducible refine r_lst ?_
    | with_reducible refine r_fld ?_
    | with_reducible refine r_dget ?_
    | with_reducible refine r_din ?_
    | with_reducible refine r_pt ?_
    | with_reducible refine r_mt ?_
    | with_reducible refine r_iEnumS ?_
    | with_reducible refine r_bm ?_
    | with_reducible refine r_iStr ?_
    | with_reducible refine r_lcT ?_
    | with_reducible refine r_dcT ?_
    | with_reducible refine r_iList ?_
    | with_reducible refine r_iTup ?_
    | with_reducible refine r_iRng1 ?_
    | with_reducible refine r_iRng2 ?_
    | with_reducible refine r_iEnum ?_
    | with_reducible refine r_iZip ?_
    | with_reducible refine r_iKeys ?_
    | with_reducible refine r_iItems ?_
    | with_reducible refine r_iVals ?_
    | with_reducible refine r_lstRg ?_
    | with_reducible refine r_rg1 ?_
    | with_reducible refine r_sortDf ?_
    | with_reducible refine r_bits ?_
    | with_reducible refine r_forT ?_
    | with_reducible refine r_augS ?_
    | with_reducible refine r_gsub ?_
    | with_reducible refine r_bm0 ?_
    | with_reducible refine r_sortLam ?_
    | with_reducible refine r_sfld ?_
    | with_reducible refine r_dput ?_
    | with_reducible refine r_dnewK ?_
    | with_reducible refine r_mk ?_
    | with_reducible refine r_con ?_
    | with_reducible refine r_lockS ?_
    | with_reducible refine r_sl ?_
    | with_reducible refine r_part ?_
    | with_reducible refine r_nopart ?_
    | with_reducible refine r_dget2 ?_
    | with_reducible refine r_isN ?_
    | with_reducible refine r_notN ?_
    | with_reducible refine r_par ?_
    | with_reducible refine r_par2 ?_
    | with_reducible refine r_yes ?_
    | with_reducible refine r_scT ?_)))
section
variable {P : Program} {w : World} {K : PySem.W.Frag} {mg : Str → Option Value} {base : Heap} {C : Ad} {G : List (Addr × Str)}
theorem sc_is_font_text : FnScope ["value", "most", "sign"] ["value", "most"] (defScope (top 55)) := ⟨rfl, rfl, rfl, by decide +kernel, rfl, by decide +kernel, by decide +kernel⟩
theorem d_is_font_text (T : Txt K mg C)  : Df P w K mg base "is_font_text" 1 (spFontText G) := by
  have sc := sc_is_font_text
  refine FnT.df (T.fn ("is_font_text", 55) (by decide)) sc len2 (fun _ _ _ _ _ _ us hl => match us, hl with | [_, _], _ => rfl) (fun f cdv A outer s H vs Q E hr h => ?_)
  have hu := hu_of hr
  have hu64 := hr.units
  have hu0 := Nat.lt_of_succ_lt hu
  obtain ⟨x1, x2, rfl, h⟩ := h
  refine ⟨_, (pss_cons (ps_if (PW.pt (pw_or (pt_not (pt_val (pe_callB (call_isi_ K) (by rfl) T.f_isinstance (by decide +kernel) (pa_cons (pv 0) (pa_cons (pe_bltn (v := .ty "str") (u := .type "str") rfl T.f_str (by decide +kernel) rfl) pa_nil))))) (pw_or1 (pt_not (pt_chain op_le op_le (pe_gc T.g_LEAST rfl) (pe_callB call_len_str (by rfl) T.f_len PySem.boot_len (pa_cons (pv 0) pa_nil)) (pv 1)))))) (pss_one (ps_ret pe_bl)) pss_nil)
  (pss_one (ps_ret (pe_and (pe_callB (cr_allK K) (by rfl) T.f_all (by decide +kernel) (pa_cons (pe_lc (own := [("sign", 2)]) rfl sc.nd (pi_str (pv 0)) (blkOk_by (N := ["value", "most", "sign"]) (sc := defScope (top 55)) (by decide +kernel)) (fun _ _ _ _ _ => (pg_name (i := 2) sc.nd rfl (by first | exact Or.inl rfl | exact Or.inr rfl))) (fun _ _ _ _ _ => pts_nil) (fun _ _ _ _ _ => (pe_cmpR op_in_sign (pv 2) (pe_gc T.g_SIGNS rfl) (by rfl)))) pa_nil)) (pe_one (pe_cmpR op_eq (pe_callB call_lenK (by rfl) T.f_len PySem.boot_len (pa_cons (pe_scK (own := [("sign", 2)]) rfl sc.nd (pi_str (pv 0)) (blkOk_by (N := ["value", "most", "sign"]) (sc := defScope (top 55)) (by decide +kernel)) (fun _ _ _ _ _ => (pg_name (i := 2) sc.nd rfl (by first | exact Or.inl rfl | exact Or.inr rfl))) (fun _ _ _ _ _ => pts_nil) (fun _ _ _ _ _ => (pv 2))) pa_nil)) (pe_callB call_len_str (by rfl) T.f_len PySem.boot_len (pa_cons (pv 0) pa_nil)) (nomark _))))))), ?_⟩
  obtain ⟨F, m, rfl, o, rfl, hm, q⟩ := h
  have hn := o.n
  have hsz : F.W.cps.size = F.ws.length := by simp [Ft.W]
  have hwl : F.ws.length ≤ 5 := o.hi
  decreasing_trivial
  refine ⟨F.W, rfl, Nat.le_trans (show F.W.length ≤ 1000 by rw [W_len]; omega) (by decide), ?_⟩
  rw [W_len]
  decreasing_trivial
  refine iteE (decide_eq_true (by omega)) ?_
  decreasing_trivial
  rw [decide_eq_true (show ((F.n : Nat) : Int) ≤ ((m : Nat) : Int) by omega)]
  decreasing_trivial
  refine ⟨_, rfl, fun D hD => ?_⟩
  refine cp_it walk_str (Lp ⟨false, G⟩ H D (giv (fun _ => true) (fun _ => V.bl true) F.ws)) (Lp.start hD (giv_zero _ _ _)) (fun _ _ _ _ => trivial) (fun i x H1 H2 hi hp hx => ?_) (fun H1 hp => ?_)
  · obtain ⟨rfl, c, hc, rfl⟩ := hx
    have hc' : F.ws[i]? = some c := by simpa [Ft.W] using hc
    decreasing_trivial
    refine ⟨rfl, ?_⟩
    decreasing_trivial
    refine ⟨c, _, rfl, rfl, ?_⟩
    have e3 : decide (c ∈ ("0123456789abcdefghijklmnopqrstuvwxyz" : Str).cps.toList) = true := sg_in c (o.sg c (List.mem_of_getElem? hc'))
    rw [e3]
    exact hp.add hD (Fm.refl _) (Nat.le_trans (giv_len _ _ _ _) (by omega)) (giv_yes hc' rfl)
  · have h2 := hp.2
    rw [hsz, giv_all, List.filter_eq_self.mpr (fun _ _ => rfl)] at h2
    decreasing_trivial
    refine ⟨D, F.ws.map fun _ => true, rfl, SqL.of (by rw [h2, List.map_map]; rfl), ?_⟩
    have e3 : (F.ws.map fun _ => true).all id = true := by
      rw [List.all_map]
      exact List.all_eq_true.mpr fun _ _ => rfl
    rw [e3]
    decreasing_trivial
    refine ⟨_, rfl, fun D2 hD2 => ?_⟩
    refine cp_it walk_str (Kp P w H1 D2 F.ws) (Kp.start hD2) (fun _ _ _ _ => trivial) (fun i x H2 H3 hi hp2 hx => ?_) (fun H2 hp2 => ?_)
    · obtain ⟨rfl, c, hc, rfl⟩ := hx
      have hc' : F.ws[i]? = some c := by simpa [Ft.W] using hc
      decreasing_trivial
      refine ⟨rfl, ?_⟩
      decreasing_trivial
      exact hp2.add hD2 hc' o.nd (by omega)
    · rw [hsz] at hp2
      have e4 := hp2.fm (b := ⟨false, G⟩)
      obtain ⟨S, hS, hS2⟩ := hp2.2
      decreasing_trivial
      refine ⟨D2, S, _, rfl, hS2, by omega, ?_⟩
      decreasing_trivial
      refine ⟨F.W, rfl, Nat.le_trans (show F.W.length ≤ 1000 by rw [W_len]; omega) (by decide), ?_⟩
      rw [W_len]
      decreasing_trivial
      rw [show decide (((F.ws.length : Nat) : Int) = ((F.n : Nat) : Int)) = true from decide_eq_true rfl]
      exact q _ (hp.1.trans e4)
end
end Hy
namespace Hy
open PySem PySem.Spec PyProof.Rows L2
local macro_rules | `(tactic| decreasing_trivial) => `(tactic| ((try (with_reducible conv => whnf)); repeat (first
    | with_reducible refine iteT ?_
    | with_reducible refine iteF ?_
    | with_reducible refine iteNT ?_
    | with_reducible refine iteNF ?_
    | with_reducible refine r_isi_int ?_
    | with_reducible refine r_isi_bool ?_
    | with_reducible refine r_isi_str ?_
    | with_reducible refine r_eqN ?_
    | with_reducible refine r_neN ?_
    | with_reducible refine r_eqS ?_
    | with_reducible refine r_neS ?_
    | with_reducible refine r_seq ?_
    | with_reducible refine r_asg ?_
    | with_reducible refine r_gname ?_
    | with_reducible refine r_ret ?_
    | with_reducible refine r_drop ?_
    | with_reducible refine r_next ?_
    | with_reducible refine r_op ?_
    | with_reducible refine r_var (by with_unfolding_all exact rfl) ?_
    | with_reducible refine r_c ?_
    | with_reducible refine r_cons ?_
    | with_reducible refine r_nil ?_
    | with_reducible refine r_un ?_
    | with_reducible refine r_I0 ?_
    | with_reducible refine r_U ?_
    | with_reducible refine r_df ?_
    | with_reducible refine r_cb ?_
    | with_reducible refine r_ifS ?_
    | with_reducible refine r_ifE ?_
    | with_reducible refine r_test ?_
    | with_reducible refine r_B ?_
    | with_reducible refine r_tand ?_
    | with_reducible refine r_tor ?_
    | with_reducible refine r_tnot ?_
    | with_reducible refine r_andV ?_
    | with_reducible refine r_orV ?_
    | with_reducible refine r_notV ?_
    | with_reducible refine r_blif ?_
    | with_reducible refine r_bl ?_
    | with_reducible refine r_chain ?_
    | with_reducible refine r_tup ?_
    | with_reducible refine r_lst ?_
    | with_reducible refine r_fld ?_
    | with_reducible refine r_dget ?_
    | with_reducible refine r_din ?_
    | with_reducible refine r_pt ?_
    | with_reducible refine r_mt ?_
    | with_reducible refine r_iEnumS ?_
    | with_reducible refine r_bm ?_
    | with_reducible refine r_iStr ?_
    | with_reducible refine r_lcT ?_
    | with_reducible refine r_dcT ?_
    | with_reducible refine r_iList ?_
    | with_reducible refine r_iTup ?_
    | with_reducible refine r_iRng1 ?_
    | with_reducible refine r_iRng2 ?_
    | with_reducible refine r_iEnum ?_
    | with_reducible refine r_iZip ?_
    | with_reducible refine r_iKeys ?_
    | with_reducible refine r_iItems ?_
    | with_reducible refine r_iVals ?_
    | with_reducible refine r_lstRg ?_
    | with_reducible refine r_rg1 ?_
    | with_reducible refine r_sortDf ?_
    | with_reducible refine r_bits ?_
    | with_reducible refine r_forT ?_
    | with_reducible refine r_augS ?_
    | with_reducible refine r_gsub ?_
    | with_reducible refine r_bm0 ?_
    | with_reducible refine r_sortLam ?_
    | with_reducible refine r_sfld ?_
    | with_reducible refine r_dput ?_
    | with_reducible refine r_dnewK ?_
    | with_reducible refine r_mk ?_
    | with_reducible refine r_con ?_
    | with_reducible refine r_lockS ?_
    | with_reducible refine r_sl ?_
    | with_reducible refine r_part ?_
    | with_reducible refine r_nopart ?_
    | with_reducible refine r_dget2 ?_
    | with_reducible refine r_isN ?_
    | with_reducible refine r_notN ?_
    | with_reducible refine r_par ?_
    | with_reducible refine r_par2 ?_
    | with_reducible refine r_yes ?_
    | with_reducible refine r_scT ?_)))
section
variable {P : Program} {w : World} {K : PySem.W.Frag} {mg : Str → Option Value} {base : Heap} {C : Ad} {G : List (Addr × Str)}
theorem sc_are_counts : FnScope ["font", "value", "sign", "count"] ["font", "value"] (defScope (top 82)) := ⟨rfl, rfl, rfl, by decide +kernel, rfl, by decide +kernel, by decide +kernel⟩
theorem d_are_counts (T : Txt K mg C) (D_is_sign : Df P w K mg base "is_sign" 1 (spIsSign C)) (D_is_integer : Df P w K mg base "is_integer" 1 spIsInt) : Df P w K mg base "are_counts" 3 (spAreCounts C G) := by
  have sc := sc_are_counts
  refine FnT.df (T.fn ("are_counts", 82) (by decide)) sc len2 (fun _ _ _ _ _ _ us hl => match us, hl with | [_, _], _ => rfl) (fun f cdv A outer s H vs Q E hr h => ?_)
  have hu := hu_of hr
  have hu64 := hr.units
  have hu0 := Nat.lt_of_succ_lt hu
  obtain ⟨x1, x2, rfl, h⟩ := h
  refine ⟨_, (pss_cons (ps_if (PW.pt (pw_or (pt_not (pt_val (pe_callB (call_isi_ K) (by rfl) T.f_isinstance (by decide +kernel) (pa_cons (pv 1) (pa_cons (pe_bltn (v := .ty "dict") (u := .type "dict") rfl T.f_dict (by decide +kernel) rfl) pa_nil))))) (pw_or1 (pt_not (pt_val (pe_callB (cr_allK K) (by rfl) T.f_all (by decide +kernel) (pa_cons (pe_lock (pe_lc (own := [("sign", 2)]) rfl sc.nd (pi_keys (pv 1)) (blkOk_by (N := ["font", "value", "sign", "count"]) (sc := defScope (top 82)) (by decide +kernel)) (fun _ _ _ _ _ => (pg_name (i := 2) sc.nd rfl (by first | exact Or.inl rfl | exact Or.inr rfl))) (fun _ _ _ _ _ => pts_nil) (fun _ _ _ _ _ => (pe_df D_is_sign (hr.mono (by decide)) rfl (pa_cons (pv 0) (pa_cons (pv 2) pa_nil)))))) pa_nil))))))) (pss_one (ps_ret pe_bl)) pss_nil)
  (pss_one (ps_ret (pe_callB (cr_allK K) (by rfl) T.f_all (by decide +kernel) (pa_cons (pe_lock (pe_lc (own := [("count", 3)]) rfl sc.nd (pi_values (pv 1)) (blkOk_by (N := ["font", "value", "sign", "count"]) (sc := defScope (top 82)) (by decide +kernel)) (fun _ _ _ _ _ => (pg_name (i := 3) sc.nd rfl (by first | exact Or.inl rfl | exact Or.inr rfl))) (fun _ _ _ _ _ => pts_nil) (fun _ _ _ _ _ => (pe_and (pe_df D_is_integer (hr.mono (by decide)) rfl (pa_cons (pv 3) pa_nil)) (pe_one (pe_cmpR op_ge (pv 3) pe_int (nomark _))))))) pa_nil))))), ?_⟩
  obtain ⟨f', d, F, kvs, rfl, hF, rfl, hd, hk, q⟩ := h
  have hdk := hk.dk
  have hlen := hk.len
  decreasing_trivial
  refine r_isi_dict hd ?_
  decreasing_trivial
  refine ⟨d, _, hd, trivial, fun od => ?_⟩
  decreasing_trivial
  refine ⟨d, od, rfl, .inl ⟨kvs, upd_same, fun D hD => ?_⟩⟩
  have dD : d ≠ D := ne_of_none upd_same hD
  have hFl : FontAt C (upd H d (.frz od (.dK kvs))) f' F := hF.lock hd
  refine cp_it walk_keys (Lp ⟨false, G⟩ (upd H d (.frz od (.dK kvs))) D (giv (fun _ => true) (fun _ => V.bl true) kvs)) (Lp.start hD (giv_zero _ _ _)) (fun i H1 _ hp => hp.1.kp _ _ upd_same rfl) (fun i x H1 H2 hi hp hx => ?_) (fun H1 hp => ?_)
  · obtain ⟨rfl, k, v, hkv, rfl⟩ := hx
    obtain ⟨⟨c, hc, ek⟩, _⟩ := hk.key _ (List.mem_of_getElem? hkv)
    dsimp only at ek
    subst ek
    decreasing_trivial
    refine ⟨rfl, ?_⟩
    decreasing_trivial
    refine r_sp2 ⟨f', F, c, rfl, hFl.mono hp.1, rfl, hc, ?_⟩
    exact hp.add hD (Fm.refl _) (Nat.le_trans (giv_len _ _ _ _) (by omega)) (giv_yes hkv rfl)
  · have h2 := hp.2
    rw [giv_all, List.filter_eq_self.mpr (fun _ _ => rfl)] at h2
    obtain ⟨l1, l2⟩ := Fm.lock hd rfl hp.1
    refine ⟨l1, ?_⟩
    decreasing_trivial
    refine ⟨D, kvs.map fun _ => true, rfl, SqL.of (by rw [upd_ne dD.symm, h2, List.map_map]; rfl), ?_⟩
    have e3 : (kvs.map fun _ => true).all id = true := by
      rw [List.all_map]
      exact List.all_eq_true.mpr fun _ _ => rfl
    rw [e3]
    decreasing_trivial
    have hd2 := l2.dct hd hdk
    generalize upd H1 d (.dK kvs) = H3 at *
    refine ⟨d, _, hd2, trivial, fun od2 => ?_⟩
    decreasing_trivial
    refine ⟨d, od2, kvs, rfl, upd_same, fun D2 hD2 => ?_⟩
    have dD2 : d ≠ D2 := ne_of_none upd_same hD2
    refine cp_it walk_values (Lp ⟨false, G⟩ (upd H3 d (.frz od2 (.dK kvs))) D2 (giv (fun _ => true) (fun _ => V.bl true) kvs)) (Lp.start hD2 (giv_zero _ _ _)) (fun i H1 _ hp => hp.1.kp _ _ upd_same rfl) (fun i x H4 H5 hi hp2 hx => ?_) (fun H4 hp2 => ?_)
    · obtain ⟨rfl, k, hkv⟩ := hx
      obtain ⟨_, j, ej, hj⟩ := hk.key _ (List.mem_of_getElem? hkv)
      dsimp only at ej
      subst ej
      decreasing_trivial
      refine ⟨rfl, ?_⟩
      decreasing_trivial
      refine r_sp1 ⟨j, rfl, ?_⟩
      decreasing_trivial
      rw [decide_eq_true hj]
      exact hp2.add hD2 (Fm.refl _) (Nat.le_trans (giv_len _ _ _ _) (by omega)) (giv_yes hkv rfl)
    · have h3 := hp2.2
      rw [giv_all, List.filter_eq_self.mpr (fun _ _ => rfl)] at h3
      obtain ⟨l3, l4⟩ := Fm.lock hd2 rfl hp2.1
      refine ⟨l3, ?_⟩
      decreasing_trivial
      refine ⟨D2, kvs.map fun _ => true, rfl, SqL.of (by rw [upd_ne dD2.symm, h3, List.map_map]; rfl), ?_⟩
      rw [e3]
      exact q _ (l2.trans l4)
theorem sc_Wants_init : FnScope ["self", "font", "counts", "sign"] ["self", "font", "counts"] (defScope (inClass (top 83) 0)) := ⟨rfl, rfl, rfl, by decide +kernel, rfl, by decide +kernel, by decide +kernel⟩
theorem d_Wants_init (T : Txt K mg C) (D_are_counts : Df P w K mg base "are_counts" 3 (spAreCounts C G)) (D_Font_signs : Pt P w K mg base C.CF "signs" 1 (spSigns C)) : Ct P w K mg base "Wants" C.CW 4 (spWantsInit C G) := by
  have sc := sc_Wants_init
  obtain ⟨f, fd, Gf, hm⟩ := T.i_wants.ex
  refine ⟨⟨f, hm, Fun.fnr Gf sc len3 (fun _ _ _ _ _ _ us hl => match us, hl with | [_, _, _], _ => rfl) (fun cdv A outer s H vs Q E hr h => ?_)⟩, T.i_wants.at_⟩
  have hu := hu_of hr
  have hu64 := hr.units
  have hu0 := Nat.lt_of_succ_lt hu
  obtain ⟨x1, x2, x3, rfl, h⟩ := h
  refine ⟨_, (pss_cons (ps_if (pt_not (pt_val (pe_df D_are_counts (hr.mono (by decide)) rfl (pa_cons (pv 1) (pa_cons (pv 2) pa_nil))))) (pss_one ps_never) pss_nil)
  (pss_cons (ps_fld (pv 0) (pv 1) rfl)
  (pss_one (ps_fld (pv 0) (pe_dc (own := [("sign", 3)]) rfl sc.nd (pi_str (pe_prp D_Font_signs (hr.mono (by decide)) (pv 1) rfl)) (blkOk_by (N := ["self", "font", "counts", "sign"]) (sc := defScope (inClass (top 83) 0)) (by decide +kernel)) (fun _ _ _ _ _ => (pg_name (i := 3) sc.nd rfl (by first | exact Or.inl rfl | exact Or.inr rfl))) (fun _ _ _ _ _ => pts_nil) (fun _ _ _ _ _ => (pv 3)) (fun _ _ _ _ _ => (pe_dget2 hu (pv 2) (pv 3) pe_int ⟨rfl, rfl, rfl, rfl⟩))) rfl)))), ?_⟩
  obtain ⟨x', dx, f', d, F, kvs, n, H0, rfl, rfl, rfl, hx, e0, nx, hF, hd, hk, hv, q⟩ := h
  have hdk := hk.dk
  have hF1 := hF.mono e0
  have o := hF.1
  decreasing_trivial
  refine r_sp2 ⟨f', d, F, kvs, rfl, hF1.at, rfl, e0.dct hd hdk, hk, fun H1 e1 => ?_⟩
  decreasing_trivial
  have hx1 := e1.ins hx
  refine ⟨x', C.CW, dx, [], rfl, hx1, T.cW, T.nFontW, by show 0 < 1000; decide, ?_⟩
  have e2 : Fs G H0 (upd H1 x' (.ins C.CW dx (putF "own_font" (.ref f') []))) := (e0.trans e1).fld nx hx1
  have hx2 : upd H1 x' (.ins C.CW dx (putF "own_font" (.ref f') [])) x' = some (.ins C.CW dx (putF "own_font" (.ref f') [])) := upd_same
  generalize upd H1 x' (.ins C.CW dx (putF "own_font" (.ref f') [])) = H2 at *
  have hF2 := hF.mono e2
  decreasing_trivial
  refine r_signs hF2.at ?_
  decreasing_trivial
  refine ⟨_, rfl, fun D hD => ?_⟩
  refine cp_it walk_str (Dq ⟨false, G⟩ H2 D (giv (fun _ => true) (fun c => (kS c, V.int (n c))) F.ws)) (Dq.start hD (giv_zero _ _ _)) (fun _ _ _ _ => trivial) (fun i x H3 H4 hi hp hx => ?_) (fun H3 hp => ?_)
  · obtain ⟨rfl, c, hc, rfl⟩ := hx
    have hc' : F.ws[i]? = some c := by simpa [Ft.W] using hc
    have dk : dOk (giv (fun _ => true) (fun c => (kS c, V.int (n c))) F.ws i) := dOk_of fun p hp => by
      unfold giv at hp
      obtain ⟨c', _, rfl⟩ := List.mem_map.mp hp
      exact ⟨S1 c', rfl, by show 1 ≤ 2; decide⟩
    decreasing_trivial
    refine ⟨rfl, ?_⟩
    decreasing_trivial
    have hd3 := (e2.trans hp.1).dct hd hdk
    refine ⟨d, rfl, .inl ⟨kvs, .inl hd3⟩, ?_⟩
    decreasing_trivial
    refine ⟨_, .inl ⟨kvs, kS c, .inl hd3, rfl, rfl⟩, ?_⟩
    rw [hv c (List.mem_of_getElem? hc')]
    exact hp.add hD (Fm.refl _) dk rfl (Nat.le_trans (giv_len _ _ _ _) (by have := o.hi; omega)) (giv_put o.nd (fun a _ b _ e => kS_inj.mp e) hc' rfl)
  · have hsz : F.W.cps.size = F.ws.length := by simp [Ft.W]
    have h3 := hp.2
    rw [hsz, giv_all, List.filter_eq_self.mpr (fun _ _ => rfl)] at h3
    have hx3 := hp.1.ins hx2
    have xD : x' ≠ D := ne_of_none hx2 hD
    decreasing_trivial
    refine ⟨x', C.CW, dx, _, rfl, hx3, T.cW, T.nNumbers, by show 1 < 1000; decide, ?_⟩
    have e4 : Fs G H0 (upd H3 x' (.ins C.CW dx (putF "numbers" (.ref D) (putF "own_font" (.ref f') [])))) := (e2.trans hp.1).fld nx hx3
    decreasing_trivial
    refine q _ e4 ⟨hF.mono e4, D, dx, _, ⟨upd_same, rfl, rfl, fun m hm => ?_, (upd_ne xD.symm).trans h3⟩⟩
    have h5 : (putF "numbers" (.ref D) (putF "own_font" (.ref f') [])).lookup m = none := by
      rw [lookup_putF, lookup_putF]
      simp only [List.mem_cons, List.not_mem_nil, or_false, not_or] at hm
      rw [if_neg hm.2, if_neg hm.1]
      rfl
    exact h5
end
end Hy
namespace Hy
open PySem PySem.Spec PyProof.Rows L2
local macro_rules | `(tactic| decreasing_trivial) => `(tactic| ((try (with_reducible conv => whnf)); repeat (first
    | with_reducible refine iteT ?_
    | with_reducible refine iteF ?_
    | with_reducible refine iteNT ?_
    | with_reducible refine iteNF ?_
    | with_reducible refine r_isi_int ?_
    | with_reducible refine r_isi_bool ?_
    | with_reducible refine r_isi_str ?_
    | with_reducible refine r_eqN ?_
    | with_reducible refine r_neN ?_
    | with_reducible refine r_eqS ?_
    | with_reducible refine r_neS ?_
    | with_reducible refine r_seq ?_
    | with_reducible refine r_asg ?_
    | with_reducible refine r_gname ?_
    | with_reducible refine r_ret ?_
    | with_reducible refine r_drop ?_
    | with_reducible refine r_next ?_
    | with_reducible refine r_op ?_
    | with_reducible refine r_var (by with_unfolding_all exact rfl) ?_
    | with_reducible refine r_c ?_
    | with_reducible refine r_cons ?_
    | with_reducible refine r_nil ?_
    | with_reducible refine r_un ?_
    | with_reducible refine r_I0 ?_
    | with_reducible refine r_U ?_
    | with_reducible refine r_df ?_
    | with_reducible refine r_cb ?_
    | with_reducible refine r_ifS ?_
    | with_reducible refine r_ifE ?_
    | with_reducible refine r_test ?_
    | with_reducible refine r_B ?_
    | with_reducible refine r_tand ?_
    | with_reducible refine r_tor ?_
    | with_reducible refine r_tnot ?_
    | with_reducible refine r_andV ?_
    | with_reducible refine r_orV ?_
    | with_reducible refine r_notV ?_
    | with_reducible refine r_blif ?_
    | with_reducible refine r_bl ?_
    | with_reducible refine r_chain ?_
    | with_reducible refine r_tup ?_
    | with_reducible refine r_lst ?_
    | with_reducible refine r_fld ?_
    | with_reducible refine r_dget ?_
    | with_reducible refine r_din ?_
    | with_reducible refine r_pt ?_
    | with_reducible refine r_mt ?_
    | with_reducible refine r_iEnumS ?_
    | with_reducible refine r_bm ?_
    | with_reducible refine r_iStr ?_
    | with_reducible refine r_lcT ?_
    | with_reducible refine r_dcT ?_
    | with_reducible refine r_iList ?_
    | with_reducible refine r_iTup ?_
    | with_reducible refine r_iRng1 ?_
    | with_reducible refine r_iRng2 ?_
    | with_reducible refine r_iEnum ?_
    | with_reducible refine r_iZip ?_
    | with_reducible refine r_iKeys ?_
    | with_reducible refine r_iItems ?_
    | with_reducible refine r_iVals ?_
    | with_reducible refine r_lstRg ?_
    | with_reducible refine r_rg1 ?_
    | with_reducible refine r_sortDf ?_
    | with_reducible refine r_bits ?_
    | with_reducible refine r_forT ?_
    | with_reducible refine r_augS ?_
    | with_reducible refine r_gsub ?_
    | with_reducible refine r_bm0 ?_
    | with_reducible refine r_sortLam ?_
    | with_reducible refine r_sfld ?_
    | with_reducible refine r_dput ?_
    | with_reducible refine r_dnewK ?_
    | with_reducible refine r_mk ?_
    | with_reducible refine r_con ?_
    | with_reducible refine r_lockS ?_
    | with_reducible refine r_sl ?_
    | with_reducible refine r_part ?_
    | with_reducible refine r_nopart ?_
    | with_reducible refine r_dget2 ?_
    | with_reducible refine r_isN ?_
    | with_reducible refine r_notN ?_
    | with_reducible refine r_par ?_
    | with_reducible refine r_par2 ?_
    | with_reducible refine r_yes ?_
    | with_reducible refine r_scT ?_)))
section
variable {P : Program} {w : World} {K : PySem.W.Frag} {mg : Str → Option Value} {base : Heap} {C : Ad} {G : List (Addr × Str)}
theorem sc_are_turns : FnScope ["value", "ranks", "seen", "pair", "sign"] ["value", "ranks"] (defScope (top 56)) := ⟨rfl, rfl, rfl, by decide +kernel, rfl, by decide +kernel, by decide +kernel⟩
theorem d_are_turns (T : Txt K mg C) (D_is_list : Df P w K mg base "is_list" 1 spIsList) (D_is_tuple_of : Df P w K mg base "is_tuple_of" 1 spIsTupleOf) : Df P w K mg base "are_turns" 3 (spTurns G) := by
  have sc := sc_are_turns
  refine FnT.df (T.fn ("are_turns", 56) (by decide)) sc len2 (fun _ _ _ _ _ _ us hl => match us, hl with | [_, _], _ => rfl) (fun f cdv A outer s H vs Q E hr h => ?_)
  have hu := hu_of hr
  have hu64 := hr.units
  have hu0 := Nat.lt_of_succ_lt hu
  obtain ⟨x1, x2, rfl, h⟩ := h
  refine ⟨_, (pss_cons (ps_if (pt_not (pt_val (pe_df D_is_list (hr.mono (by decide)) rfl (pa_cons (pv 0) pa_nil)))) (pss_one (ps_ret pe_bl)) pss_nil)
  (pss_cons (ps_set (i := 2) sc.nd rfl (by first | exact Or.inl rfl | exact Or.inr rfl) (pe_lst pa_nil))
  (pss_cons (ps_for PassesOwn.never rfl (pi_listK K (pv 0)) (pg_name (i := 3) sc.nd rfl (by first | exact Or.inl rfl | exact Or.inr rfl)) (pss_cons (ps_if (PW.pt (pw_or (pt_not (pt_val (pe_df D_is_tuple_of (hr.mono (by decide)) rfl (pa_cons (pv 3) (pa_cons pe_int pa_nil))))) (pw_or1 (pt_not (pt_val (pe_callB (cr_allK K) (by rfl) T.f_all (by decide +kernel) (pa_cons (pe_lc (own := [("sign", 4)]) rfl sc.nd (pi_tupK K (pv 3)) (blkOk_by (N := ["value", "ranks", "seen", "pair", "sign"]) (sc := defScope (top 56)) (by decide +kernel)) (fun _ _ _ _ _ => (pg_name (i := 4) sc.nd rfl (by first | exact Or.inl rfl | exact Or.inr rfl))) (fun _ _ _ _ _ => pts_nil) (fun _ _ _ _ _ => (pe_and (pe_callB (call_isi_ K) (by rfl) T.f_isinstance (by decide +kernel) (pa_cons (pv 4) (pa_cons (pe_bltn (v := .ty "str") (u := .type "str") rfl T.f_str (by decide +kernel) rfl) pa_nil))) (pe_one (pe_cmp (pc_din hu (pv 4) (pv 1))))))) pa_nil))))))) (pss_one (ps_ret pe_bl)) pss_nil)
  (pss_one (ps_expr (cK_bm K (pe_bm PySem.F.plainAttrs_list PySem.F.slot_list_extend PySem.F.type_list_extend mt_extend (pv 2) (pa_cons (pe_lock (pe_lc (own := [("sign", 4)]) rfl sc.nd (pi_keys (pv 1)) (blkOk_by (N := ["value", "ranks", "seen", "pair", "sign"]) (sc := defScope (top 56)) (by decide +kernel)) (fun _ _ _ _ _ => (pg_name (i := 4) sc.nd rfl (by first | exact Or.inl rfl | exact Or.inr rfl))) (fun _ _ _ _ _ => pts_one (pt_cmpR (op_in_seqK K) (pv 4) (pv 3) (by rfl))) (fun _ _ _ _ _ => (pv 4)))) pa_nil)))))))
  (pss_one (ps_ret (pe_cmpR op_eq (pe_callB call_lenK (by rfl) T.f_len PySem.boot_len (pa_cons (pe_scK (own := [("sign", 4)]) rfl sc.nd (pi_listK K (pv 2)) (blkOk_by (N := ["value", "ranks", "seen", "pair", "sign"]) (sc := defScope (top 56)) (by decide +kernel)) (fun _ _ _ _ _ => (pg_name (i := 4) sc.nd rfl (by first | exact Or.inl rfl | exact Or.inr rfl))) (fun _ _ _ _ _ => pts_nil) (fun _ _ _ _ _ => (pv 4))) pa_nil)) (pe_callB (call_len_seqK K) (by rfl) T.f_len PySem.boot_len (pa_cons (pv 2) pa_nil)) (nomark _))))))), ?_⟩
  obtain ⟨F, a, r, tl, rfl, rfl, o, ht, hl, hr2, q⟩ := h
  obtain ⟨vs, hv, hp0⟩ := id hl
  have htl := ht.len
  have hlv := Paired.length hp0
  decreasing_trivial
  refine r_sp1 ⟨a, vs, rfl, .inl hv, fun p1 hp1 => ?_⟩
  have e1 : Fs G H (upd H p1 (.tup [.ty "list", .ty "tuple"])) := Fm.new hp1
  generalize upd H p1 (.tup [.ty "list", .ty "tuple"]) = H1 at *
  decreasing_trivial
  refine ⟨by show 0 ≤ sizeLine; omega, fun l hln => ?_⟩
  have e2 : Fs G H (upd H1 l (.lst [])) := e1.trans (Fm.new hln)
  have nl : Nw ⟨false, G⟩ H l := e1.nw hln
  have hl2 : upd H1 l (.lst []) l = some (.lst []) := upd_same
  generalize upd H1 l (.lst []) = H2 at *
  have nal : a ≠ l := fun z => by
    subst z
    have := nl _ hv
    cases this
  have nrl : r ≠ l := fun z => by
    subst z
    have := nl _ hr2
    rw [loose_dK (dOk_ranks F)] at this
    cases this
  decreasing_trivial
  refine ⟨a, rfl, ⟨_, SqL.of (e2.lst hv)⟩, ?_⟩
  refine for_it (walk_list (xs := vs)) (fun i σ H3 => ∃ v3 v4, σ = [some (.ref a), some (.ref r), some (.ref l), v3, v4] ∧ Fs G H H3 ∧ H3 l = some (.lst ((seenL F (tl.take i)).map vS))) ⟨none, none, rfl, e2, hl2⟩ (fun i σ H3 _ hp => ?_) (fun i x σ H3 H4 hi hp hx => ?_) (fun σ H3 hp => ?_)
  · obtain ⟨_, _, _, e3, _⟩ := hp
    exact SqL.of (e3.lst hv)
  · obtain ⟨v3, v4, rfl, e3, hl3⟩ := hp
    obtain ⟨rfl, hx⟩ := hx
    obtain ⟨⟨b, c⟩, hbc, t, rfl, htt⟩ := paired_at hp0 hx
    have hmem := List.mem_of_getElem? hbc
    have hdb := ht.hd _ hmem
    have hb := o.hd1 _ _ hdb
    dsimp only at hdb hb htt
    have htt3 := e3.tup htt
    have hr3 := e3.dct hr2 (dOk_ranks F)
    decreasing_trivial
    refine r_sp2 ⟨t, _, rfl, htt3, rfl, ?_⟩
    decreasing_trivial
    refine ⟨t, rfl, ⟨_, SqT.of htt3⟩, fun D hD => ?_⟩
    refine cp_it (walk_tup (xs := [vS b, vS c])) (Lp ⟨false, G⟩ H4 D (giv (fun _ => true) (fun _ => V.bl true) [b, c])) (Lp.start hD (giv_zero _ _ _)) (fun i H5 _ hp => SqT.of (hp.1.tup htt3)) (fun j x H5 H6 hj hp hx => ?_) (fun H5 hp => ?_)
    · obtain ⟨rfl, hx⟩ := hx
      have hx2 : ([b, c].map vS)[j]? = some x := hx
      rw [List.getElem?_map] at hx2
      cases hc : [b, c][j]? with
      | none =>
        rw [hc] at hx2
        cases hx2
      | some s =>
      rw [hc] at hx2
      cases hx2
      have hsw : s ∈ F.ws := by
        have hm := List.mem_of_getElem? hc
        simp only [List.mem_cons, List.not_mem_nil, or_false] at hm
        rcases hm with rfl | rfl
        · exact hb.1
        · exact hb.2.1
      decreasing_trivial
      refine ⟨rfl, ?_⟩
      decreasing_trivial
      refine r_isi_str (z := S1 s) ?_
      decreasing_trivial
      refine r_din1 (k := kS s) (.inl (hp.1.dct hr3 (dOk_ranks F))) rfl ?_
      rw [ranks_get, if_pos hsw]
      exact hp.add hD (Fm.refl _) (Nat.le_trans (giv_len _ _ _ _) (by show 2 ≤ 1000; decide)) (giv_yes hc rfl)
    · have h5 := hp.2
      have e0 : giv (fun _ => true) (fun _ => V.bl true) [b, c] [vS b, vS c].length = [V.bl true, V.bl true] := rfl
      rw [e0] at h5
      decreasing_trivial
      refine ⟨D, [true, true], rfl, SqL.of h5, ?_⟩
      decreasing_trivial
      have e35 := e3.trans hp.1
      have hr5 := hp.1.dct hr3 (dOk_ranks F)
      have hl5 := hp.1.lst hl3
      have htt5 := hp.1.tup htt3
      refine iteN rfl ?_
      decreasing_trivial
      refine ⟨.inl ⟨rfl, _, SqL.of hl5⟩, ?_⟩
      decreasing_trivial
      refine ⟨r, _, hr5, trivial, fun od => ?_⟩
      decreasing_trivial
      refine ⟨r, od, rfl, .inl ⟨_, upd_same, fun D2 hD2 => ?_⟩⟩
      have rD : r ≠ D2 := ne_of_none upd_same hD2
      have htt6 : upd H5 r (.frz od (.dK (ranksK F))) t = some (.tup [vS b, vS c]) := (upd_ne (ne_of htt5 hr5 (by intro z; cases z))).trans htt5
      have hl6 : upd H5 r (.frz od (.dK (ranksK F))) l = some (.lst ((seenL F (tl.take i)).map vS)) := (upd_ne nrl.symm).trans hl5
      have hlr : (ranksK F).length = F.ws.length := by rw [ranks_eq o, List.length_map]
      refine cp_it (walk_keys (kvs := ranksK F)) (Lp ⟨false, G⟩ (upd H5 r (.frz od (.dK (ranksK F)))) D2 (giv (fun s => decide (s ∈ [b, c])) vS F.ws)) (Lp.start hD2 (giv_zero _ _ _)) (fun i H6 _ hp => hp.1.kp _ _ upd_same rfl) (fun j x H6 H7 hj hp2 hx => ?_) (fun H6 hp2 => ?_)
      · obtain ⟨rfl, k, v, hkv, rfl⟩ := hx
        rw [ranks_eq o, List.getElem?_map] at hkv
        cases hc : F.ws[j]? with
        | none =>
          rw [hc] at hkv
          cases hkv
        | some s =>
        rw [hc] at hkv
        cases hkv
        decreasing_trivial
        refine ⟨rfl, ?_⟩
        decreasing_trivial
        refine ⟨t, [b, c].map vS, rfl, .inr (SqT.of (hp2.1.tup htt6)), rfl, flat_vs [b, c], ?_⟩
        have e8 : inV (vS s) ([b, c].map vS) = decide (s ∈ [b, c]) := in_vs s [b, c]
        decreasing_trivial
        show if (inV (vS s) ([b, c].map vS)) = true then _ else _
        rw [e8]
        refine iteD (fun e => ?_) (fun e => ?_)
        · decreasing_trivial
          exact hp2.add hD2 (Fm.refl _) (Nat.le_trans (giv_len _ _ _ _) (by have := o.hi; omega)) (giv_yes hc e)
        · exact hp2.skip (Fm.refl _) (giv_no hc e)
      · have h6 := hp2.2
        rw [hlr, giv_all] at h6
        have hl7 := hp2.1.lst hl6
        obtain ⟨l1, l2⟩ := Fm.lock hr5 rfl hp2.1
        refine ⟨l1, ?_⟩
        have h6' : upd H6 r (.dK (ranksK F)) D2 = some (.lst ((F.ws.filter fun s => decide (s ∈ [b, c])).map vS)) := (upd_ne rD.symm).trans h6
        have hl7' : upd H6 r (.dK (ranksK F)) l = some (.lst ((seenL F (tl.take i)).map vS)) := (upd_ne nrl.symm).trans hl7
        have e36 := e35.trans l2
        generalize upd H6 r (.dK (ranksK F)) = H7 at *
        decreasing_trivial
        refine ⟨l, D2, _, _, rfl, rfl, hl7', h6', ?_, ?_⟩
        · rw [List.length_map, List.length_map]
          have h9 := seen_len o (tl.take i)
          rw [List.length_take] at h9
          have h10 : (F.ws.filter fun s => decide (s ∈ [b, c])).length ≤ F.ws.length := List.length_filter_le _ _
          have := o.hi
          exact Nat.le_trans (show _ ≤ 1000 by omega) (by decide)
        · decreasing_trivial
          refine ⟨_, _, rfl, e36.edit nl hl7' rfl, ?_⟩
          rw [upd_same, ← List.map_append, ← seen_take hbc]
  · obtain ⟨v3, v4, rfl, e3, hl3⟩ := hp
    rw [hlv, List.take_length] at hl3
    have hsl := seen_len o tl
    decreasing_trivial
    refine ⟨l, rfl, ⟨_, SqL.of hl3⟩, fun D hD => ?_⟩
    refine cp_it (walk_list (xs := (seenL F tl).map vS)) (Kp P w H3 D (seenL F tl)) (Kp.start hD) (fun i H4 _ hp => SqL.of (hp.1 _ _ hl3)) (fun j x H4 H5 hj hp hx => ?_) (fun H4 hp => ?_)
    · obtain ⟨rfl, hx⟩ := hx
      rw [List.getElem?_map] at hx
      cases hc : (seenL F tl)[j]? with
      | none =>
        rw [hc] at hx
        cases hx
      | some s =>
      rw [hc] at hx
      cases hx
      decreasing_trivial
      refine ⟨rfl, ?_⟩
      decreasing_trivial
      exact hp.add hD hc (seen_nd o ht) (by omega)
    · rw [List.length_map] at hp
      have e4 := hp.fm (b := ⟨false, G⟩)
      have hl4 := hp.1 _ _ hl3
      obtain ⟨S, hS, hS2⟩ := hp.2
      decreasing_trivial
      refine ⟨D, S, _, rfl, hS2, by omega, ?_⟩
      decreasing_trivial
      refine ⟨l, _, rfl, .inl (SqL.of hl4), ?_⟩
      rw [List.length_map]
      decreasing_trivial
      rw [show decide ((((seenL F tl).length : Nat) : Int) = (((seenL F tl).length : Nat) : Int)) = true from decide_eq_true rfl]
      exact q _ (e3.trans e4)
end
end Hy
namespace Hy
open PySem PySem.Spec PyProof.Rows L2
local macro_rules | `(tactic| decreasing_trivial) => `(tactic| ((try (with_reducible conv => whnf)); repeat (first
    | with_reducible refine iteT ?_
    | with_reducible refine iteF ?_
    | with_reducible refine iteNT ?_
    | with_reducible refine iteNF ?_
    | with_reducible refine r_isi_int ?_
    | with_reducible refine r_isi_bool ?_
    | with_reducible refine r_isi_str ?_
    | with_reducible refine r_eqN ?_
    | with_reducible refine r_neN ?_
    | with_reducible refine r_eqS ?_
    | with_reducible refine r_neS ?_
    | with_reducible refine r_seq ?_
    | with_reducible refine r_asg ?_
    | with_reducible refine r_gname ?_
    | with_reducible refine r_ret ?_
    | with_reducible refine r_drop ?_
    | with_reducible refine r_next ?_
    | with_reducible refine r_op ?_
    | with_reducible refine r_var (by with_unfolding_all exact rfl) ?_
    | with_reducible refine r_c ?_
    | with_reducible refine r_cons ?_
    | with_reducible refine r_nil ?_
    | with_reducible refine r_un ?_
    | with_reducible refine r_I0 ?_
    | with_reducible refine r_U ?_
    | with_reducible refine r_df ?_
    | with_reducible refine r_cb ?_
    | with_reducible refine r_ifS ?_
    | with_reducible refine r_ifE ?_
    | with_reducible refine r_test ?_
    | with_reducible refine r_B ?_
    | with_reducible refine r_tand ?_
    | with_reducible refine r_tor ?_
    | with_reducible refine r_tnot ?_
    | with_reducible refine r_andV ?_
    | with_reducible refine r_orV ?_
    | with_reducible refine r_notV ?_
    | with_reducible refine r_blif ?_
    | with_reducible refine r_bl ?_
    | with_reducible refine r_chain ?_
    | with_reducible refine r_tup ?_
    | with_reducible refine r_lst ?_
    | with_reducible refine r_fld ?_
    | with_reducible refine r_dget ?_
    | with_reducible refine r_din ?_
    | with_reducible refine r_pt ?_
    | with_reducible refine r_mt ?_
    | with_reducible refine r_iEnumS ?_
    | with_reducible refine r_bm ?_
    | with_reducible refine r_iStr ?_
    | with_reducible refine r_lcT ?_
    | with_reducible refine r_dcT ?_
    | with_reducible refine r_iList ?_
    | with_reducible refine r_iTup ?_
    | with_reducible refine r_iRng1 ?_
    | with_reducible refine r_iRng2 ?_
    | with_reducible refine r_iEnum ?_
    | with_reducible refine r_iZip ?_
    | with_reducible refine r_iKeys ?_
    | with_reducible refine r_iItems ?_
    | with_reducible refine r_iVals ?_
    | with_reducible refine r_lstRg ?_
    | with_reducible refine r_rg1 ?_
    | with_reducible refine r_sortDf ?_
    | with_reducible refine r_bits ?_
    | with_reducible refine r_forT ?_
    | with_reducible refine r_augS ?_
    | with_reducible refine r_gsub ?_
    | with_reducible refine r_bm0 ?_
    | with_reducible refine r_sortLam ?_
    | with_reducible refine r_sfld ?_
    | with_reducible refine r_dput ?_
    | with_reducible refine r_dnewK ?_
    | with_reducible refine r_mk ?_
    | with_reducible refine r_con ?_
    | with_reducible refine r_lockS ?_
    | with_reducible refine r_sl ?_
    | with_reducible refine r_part ?_
    | with_reducible refine r_nopart ?_
    | with_reducible refine r_dget2 ?_
    | with_reducible refine r_isN ?_
    | with_reducible refine r_notN ?_
    | with_reducible refine r_par ?_
    | with_reducible refine r_par2 ?_
    | with_reducible refine r_yes ?_
    | with_reducible refine r_scT ?_)))
section
variable {P : Program} {w : World} {K : PySem.W.Frag} {mg : Str → Option Value} {base : Heap} {C : Ad} {G : List (Addr × Str)}
theorem sc_Font_init : FnScope ["self", "signs", "turns", "one", "other", "rank", "sign"] ["self", "signs", "turns"] (defScope (inClass (top 57) 1)) := ⟨rfl, rfl, rfl, by decide +kernel, rfl, by decide +kernel, by decide +kernel⟩

theorem d_Font_init (T : Txt K mg C) (TI : ∃ f fd a0, FunD K "__init__" "Font.__init__" (defArgs (inClass (top 57) 1)) (defBody (inClass (top 57) 1)) (defScope (inClass (top 57) 1)) [.ref a0] [] f fd ∧ Mk K C.CF f) (TM : ∃ u, Con K C.CF "MAX_SIGNS" (.int 10) u) (D_is_font_text : Df P w K mg base "is_font_text" 1 (spFontText G)) (D_are_turns : Df P w K mg base "are_turns" 3 (spTurns G)) : Ct P w K mg base "Font" C.CF 4 (spFontInit C G) := by
  have sc := sc_Font_init
  obtain ⟨f, fd, a0, Fd, hmk⟩ := TI
  obtain ⟨ds, hd, hb⟩ := Fd.binds1 (ps := ["self", "signs", "turns"]) 3 1 (by intro z; cases z) rfl (fun Ta doc pm kV an cdv ct us its h1 h2 => match us, its, h1, h2 with | [_, _, _], [_], _, _ => ⟨_, rfl, rfl⟩)
  refine ⟨⟨f, hmk, ?_⟩, T.mF⟩
  have OK : FnOk P w K mg base CX0 4 f fd ["self", "signs", "turns"] (spFontInit C G) := by
    refine funD_nox Fd sc len3 (fun cdv A outer s H vs Q E hr h => ?_)
    have hu := hu_of hr
    obtain ⟨x1, x2, x3, rfl, x', dx, a, F, tl, H0, rfl, rfl, rfl, hx, e0, nx, o, ht, hl, q⟩ := h
    refine ⟨_, (pss_cons (ps_if (pt_not (pt_val (pe_df D_is_font_text (hr.mono (by decide)) rfl (pa_cons (pv 1) (pa_cons (pe_con (pv 0) rfl) pa_nil))))) (pss_one ps_never) pss_nil)
  (pss_cons (ps_fld (pv 0) (pv 1) rfl)
  (pss_cons (ps_fld (pv 0) (pe_dc (own := [("rank", 5), ("sign", 6)]) rfl sc.nd (pi_enumS rfl T.f_enumerate (pa_cons (pv 1) pa_nil)) (blkOk_by (N := ["self", "signs", "turns", "one", "other", "rank", "sign"]) (sc := defScope (inClass (top 57) 1)) (by decide +kernel)) (fun _ _ _ _ _ => (pg_tupK K (n := 2) rfl (pgs_cons (pg_name (i := 5) sc.nd rfl (by first | exact Or.inl rfl | exact Or.inr rfl)) (pgs_cons (pg_name (i := 6) sc.nd rfl (by first | exact Or.inl rfl | exact Or.inr rfl)) pgs_nil)))) (fun _ _ _ _ _ => pts_nil) (fun _ _ _ _ _ => (pv 6)) (fun _ _ _ _ _ => (pv 5))) rfl)
  (pss_cons (ps_if (pt_not (pt_val (pe_df D_are_turns (hr.mono (by decide)) rfl (pa_cons (pv 2) (pa_cons (pe_fldK K (pv 0) rfl) pa_nil))))) (pss_one ps_never) pss_nil)
  (pss_cons (ps_fld (pv 0) pe_dnewK rfl)
  (pss_one (ps_for PassesOwn.never rfl (pi_listK K (pv 2)) (pg_tupK K (n := 2) rfl (pgs_cons (pg_name (i := 3) sc.nd rfl (by first | exact Or.inl rfl | exact Or.inr rfl)) (pgs_cons (pg_name (i := 4) sc.nd rfl (by first | exact Or.inl rfl | exact Or.inr rfl)) pgs_nil))) (pss_cons (ps_dput hu (pe_fldK K (pv 0) rfl) (pv 3) (pv 4) rfl)
  (pss_one (ps_dput hu (pe_fldK K (pv 0) rfl) (pv 4) (pv 3) rfl)))))))))), ?_⟩
    obtain ⟨cu, hcon⟩ := TM
    obtain ⟨vs, hv, hp0⟩ := id hl
    have hlv := Paired.length hp0
    have htl := ht.len
    have hwl := o.hi
    decreasing_trivial
    refine ⟨x', C.CF, dx, [], _, _, rfl, hx, T.cF, hcon, rfl, ?_⟩
    decreasing_trivial
    refine r_sp2 ⟨F, 10, rfl, o, rfl, by decide, fun H1 e1 => ?_⟩
    have hx1 := e1.ins hx
    decreasing_trivial
    refine ⟨x', C.CF, dx, [], rfl, hx1, T.cF, T.nWord, by show 0 < 1000; decide, ?_⟩
    have e2 : Fs G H0 (upd H1 x' (.ins C.CF dx (putF "word" (.str F.W) []))) := (e0.trans e1).fld nx hx1
    have hx2 : upd H1 x' (.ins C.CF dx (putF "word" (.str F.W) [])) x' = some (.ins C.CF dx (putF "word" (.str F.W) [])) := upd_same
    generalize upd H1 x' (.ins C.CF dx (putF "word" (.str F.W) [])) = H2 at *
    decreasing_trivial
    refine ⟨_, rfl, fun D hD => ?_⟩
    have hsz : F.W.cps.size = F.ws.length := by simp [Ft.W]
    refine cp_it walk_enumS (Dq ⟨false, G⟩ H2 D (giv (fun _ => true) (fun c => (kS c, V.int ((F.rk c : Nat) : Int))) F.ws)) (Dq.start hD (giv_zero _ _ _)) (fun _ _ _ _ => trivial) (fun i x H3 H4 hi hp hx => ?_) (fun H3 hp => ?_)
    · obtain ⟨T', c, rfl, hT', hc, rfl⟩ := hx
      have hc' : F.ws[i]? = some c := by simpa [Ft.W] using hc
      have hrk : F.rk c = i := by
        unfold Ft.rk
        rw [← (List.getElem?_eq_some_iff.mp hc').2]
        exact o.nd.idxOf_getElem i (List.getElem?_eq_some_iff.mp hc').1
      have dk : dOk (giv (fun _ => true) (fun c => (kS c, V.int ((F.rk c : Nat) : Int))) F.ws i) := dOk_of fun p hp => by
        unfold giv at hp
        obtain ⟨c', _, rfl⟩ := List.mem_map.mp hp
        exact ⟨S1 c', rfl, by show 1 ≤ 2; decide⟩
      refine ⟨T', _, rfl, SqT.of upd_same, rfl, _, _, rfl, _, _, rfl, rfl, rfl, ?_⟩
      decreasing_trivial
      have hg := giv_put (p := fun _ => true) (key := kS) (val := fun c => V.int ((F.rk c : Nat) : Int)) o.nd (fun a _ b _ e => kS_inj.mp e) hc' rfl
      rw [hrk] at hg
      exact hp.add hD (Fm.new hT') dk rfl (Nat.le_trans (giv_len _ _ _ _) (by omega)) hg
    · have h3 := hp.2
      rw [hsz, giv_all, List.filter_eq_self.mpr (fun _ _ => rfl), ← ranks_eq o] at h3
      have hx3 := hp.1.ins hx2
      have xD : x' ≠ D := ne_of_none hx2 hD
      decreasing_trivial
      refine ⟨x', C.CF, dx, _, rfl, hx3, T.cF, T.nRanks, by show 1 < 1000; decide, ?_⟩
      have e4 : Fs G H0 (upd H3 x' (.ins C.CF dx (putF "ranks" (.ref D) (putF "word" (.str F.W) [])))) := (e2.trans hp.1).fld nx hx3
      have hx4 : upd H3 x' (.ins C.CF dx (putF "ranks" (.ref D) (putF "word" (.str F.W) []))) x' = some (.ins C.CF dx (putF "ranks" (.ref D) (putF "word" (.str F.W) []))) := upd_same
      have hD4 : upd H3 x' (.ins C.CF dx (putF "ranks" (.ref D) (putF "word" (.str F.W) []))) D = some (.dK (ranksK F)) := (upd_ne xD.symm).trans h3
      have n4 : Nw ⟨false, G⟩ H0 D := e2.nw hD
      generalize upd H3 x' (.ins C.CF dx (putF "ranks" (.ref D) (putF "word" (.str F.W) []))) = H4 at *
      decreasing_trivial
      refine r_fld1 hx4 T.cF T.nRanks (v := .ref D) rfl ?_
      decreasing_trivial
      refine r_sp2 ⟨F, a, D, tl, rfl, rfl, o, ht, hl.mono e4, hD4, fun H5 e5 => ?_⟩
      have e05 := e4.trans e5
      have hx5 := e5.ins hx4
      have hD5 := e5.dct hD4 (dOk_ranks F)
      decreasing_trivial
      refine fun h6 hh6 => ?_
      have e6 := e05.trans (Fm.new (o := .dK []) hh6)
      have hx6 := (Fm.new (b := ⟨false, G⟩) (o := .dK []) hh6).ins hx5
      have nh : Nw ⟨false, G⟩ H0 h6 := e05.nw hh6
      have xh : x' ≠ h6 := ne_of_none hx5 hh6
      have Dh : D ≠ h6 := ne_of_none hD5 hh6
      decreasing_trivial
      refine ⟨x', C.CF, dx, _, rfl, hx6, T.cF, T.nHeads, by show 2 < 1000; decide, ?_⟩
      have e7 : Fs G H0 (upd (upd H5 h6 (.dK [])) x' (.ins C.CF dx (putF "heads" (.ref h6) (putF "ranks" (.ref D) (putF "word" (.str F.W) []))))) := e6.fld nx hx6
      have hx7 : upd (upd H5 h6 (.dK [])) x' (.ins C.CF dx (putF "heads" (.ref h6) (putF "ranks" (.ref D) (putF "word" (.str F.W) [])))) x' = some (.ins C.CF dx (putF "heads" (.ref h6) (putF "ranks" (.ref D) (putF "word" (.str F.W) [])))) := upd_same
      have hD7 : upd (upd H5 h6 (.dK [])) x' (.ins C.CF dx (putF "heads" (.ref h6) (putF "ranks" (.ref D) (putF "word" (.str F.W) [])))) D = some (.dK (ranksK F)) := (upd_ne xD.symm).trans ((upd_ne Dh).trans hD5)
      have hh7 : upd (upd H5 h6 (.dK [])) x' (.ins C.CF dx (putF "heads" (.ref h6) (putF "ranks" (.ref D) (putF "word" (.str F.W) [])))) h6 = some (.dK []) := (upd_ne xh.symm).trans upd_same
      generalize upd (upd H5 h6 (.dK [])) x' (.ins C.CF dx (putF "heads" (.ref h6) (putF "ranks" (.ref D) (putF "word" (.str F.W) [])))) = H7 at *
      decreasing_trivial
      refine ⟨a, rfl, ⟨_, SqL.of (e7.lst hv)⟩, ?_⟩
      refine for_it (walk_list (xs := vs)) (fun i σ H8 => ∃ v3 v4 v5 v6 kvs, σ = [some (.ref x'), some (.str F.W), some (.ref a), v3, v4, v5, v6] ∧ Fs G H0 H8 ∧ H8 x' = some (.ins C.CF dx (putF "heads" (.ref h6) (putF "ranks" (.ref D) (putF "word" (.str F.W) [])))) ∧ H8 D = some (.dK (ranksK F)) ∧ H8 h6 = some (.dK kvs) ∧ HdI F (tl.take i) kvs ∧ kvs.length ≤ 2 * i) ⟨none, none, none, none, [], rfl, e7, hx7, hD7, hh7, HdI.zero F, by decide⟩ (fun i σ H8 _ hp => ?_) (fun i x σ H8 H9 hi hp hx => ?_) (fun σ H8 hp => ?_)
      · obtain ⟨_, _, _, _, _, _, e8, _⟩ := hp
        exact SqL.of (e8.lst hv)
      · obtain ⟨v3, v4, v5, v6, kvs, rfl, e8, hx8, hD8, hh8, hI, hlen⟩ := hp
        obtain ⟨rfl, hx⟩ := hx
        obtain ⟨⟨b, c⟩, hbc, t, rfl, htt⟩ := paired_at hp0 hx
        have hdb := ht.hd _ (List.mem_of_getElem? hbc)
        have hb := o.hd1 _ _ hdb
        dsimp only at hdb hb htt
        have hdOk : ∀ {k : List (Key × V)}, (∀ p ∈ k, (∃ c, p.1 = kS c) ∧ ∃ c, p.2 = vS c) → dOk k := fun {k} hk => dOk_of fun p hp => by
          obtain ⟨⟨c, e⟩, _⟩ := hk p hp
          exact ⟨S1 c, e, by show 1 ≤ 2; decide⟩
        refine ⟨t, _, rfl, SqT.of (e8.tup htt), rfl, _, _, rfl, _, _, rfl, rfl, ?_⟩
        decreasing_trivial
        refine r_fld1 hx8 T.cF T.nHeads (v := .ref h6) rfl ?_
        decreasing_trivial
        refine r_dput1 (k := kS b) hh8 (Nat.lt_of_le_of_lt (show kvs.length ≤ 1000 by omega) (by decide)) ?_
        decreasing_trivial
        have hx9 : upd H9 h6 (.dK (putK kvs (kS b) (vS c))) x' = some (.ins C.CF dx (putF "heads" (.ref h6) (putF "ranks" (.ref D) (putF "word" (.str F.W) [])))) := (upd_ne xh).trans hx8
        have hl9 : (putK kvs (kS b) (vS c)).length ≤ kvs.length + 1 := put_len _ _ _
        have hl10 : (putK (putK kvs (kS b) (vS c)) (kS c) (vS b)).length ≤ (putK kvs (kS b) (vS c)).length + 1 := put_len _ _ _
        refine r_fld1 hx9 T.cF T.nHeads (v := .ref h6) rfl ?_
        decreasing_trivial
        refine r_dput1 (k := kS c) upd_same (Nat.lt_of_le_of_lt (show (putK kvs (kS b) (vS c)).length ≤ 1000 by omega) (by decide)) ?_
        decreasing_trivial
        have hI2 := hI.step hdb hb.2.2
        rw [show tl.take i ++ [(b, c)] = tl.take (i + 1) by rw [List.take_add_one, hbc]; rfl] at hI2
        have e9 : Fs G H0 (upd H9 h6 (.dK (putK kvs (kS b) (vS c)))) := e8.edit nh hh8 rfl
        refine ⟨_, _, _, _, _, rfl, e9.edit nh upd_same rfl, (upd_ne xh).trans hx9, (upd_ne Dh).trans ((upd_ne Dh).trans hD8), upd_same, hI2, by omega⟩
      · obtain ⟨v3, v4, v5, v6, kvs, rfl, e8, hx8, hD8, hh8, hI, hlen⟩ := hp
        rw [hlv, List.take_length] at hI
        refine q _ e8 ⟨o, dx, _, D, h6, kvs, ⟨hx8, rfl, rfl, rfl, fun m hm => ?_, .inl hD8, .inl hh8, hI.done ht⟩, hh8⟩
        have h5 : (putF "heads" (.ref h6) (putF "ranks" (.ref D) (putF "word" (.str F.W) []))).lookup m = none := by
          rw [lookup_putF, lookup_putF, lookup_putF]
          simp only [List.mem_cons, List.not_mem_nil, or_false, not_or] at hm
          rw [if_neg hm.2.2, if_neg hm.2.1, if_neg hm.1]
          rfl
        exact h5
  exact (OK.raw hb hd).imp fun vs H Q E h => by
    have e : vs ++ List.drop 1 [V.ref a0] = vs := List.append_nil vs
    rw [e]
    exact h
end
end Hy
namespace Hy
open PySem PySem.Spec PyProof.Rows L2
local macro_rules | `(tactic| decreasing_trivial) => `(tactic| ((try (with_reducible conv => whnf)); repeat (first
    | with_reducible refine iteT ?_
    | with_reducible refine iteF ?_
    | with_reducible refine iteNT ?_
    | with_reducible refine iteNF ?_
    | with_reducible refine r_isi_int ?_
    | with_reducible refine r_isi_bool ?_
    | with_reducible refine r_isi_str ?_
    | with_reducible refine r_eqN ?_
    | with_reducible refine r_neN ?_
    | with_reducible refine r_eqS ?_
    | with_reducible refine r_neS ?_
    | with_reducible refine r_seq ?_
    | with_reducible refine r_asg ?_
    | with_reducible refine r_gname ?_
    | with_reducible refine r_ret ?_
    | with_reducible refine r_drop ?_
    | with_reducible refine r_next ?_
    | with_reducible refine r_op ?_
    | with_reducible refine r_var (by with_unfolding_all exact rfl) ?_
    | with_reducible refine r_c ?_
    | with_reducible refine r_cons ?_
    | with_reducible refine r_nil ?_
    | with_reducible refine r_un ?_
    | with_reducible refine r_I0 ?_
    | with_reducible refine r_U ?_
    | with_reducible refine r_df ?_
    | with_reducible refine r_cb ?_
    | with_reducible refine r_ifS ?_
    | with_reducible refine r_ifE ?_
    | with_reducible refine r_test ?_
    | with_reducible refine r_B ?_
    | with_reducible refine r_tand ?_
    | with_reducible refine r_tor ?_
    | with_reducible refine r_tnot ?_
    | with_reducible refine r_andV ?_
    | with_reducible refine r_orV ?_
    | with_reducible refine r_notV ?_
    | with_reducible refine r_blif ?_
    | with_reducible refine r_bl ?_
    | with_reducible refine r_chain ?_
    | with_reducible refine r_tup ?_
    | with_reducible refine r_lst ?_
    | with_reducible refine r_fld ?_
    | with_reducible refine r_dget ?_
    | with_reducible refine r_din ?_
    | with_reducible refine r_pt ?_
    | with_reducible refine r_mt ?_
    | with_reducible refine r_iEnumS ?_
    | with_reducible refine r_bm ?_
    | with_reducible refine r_iStr ?_
    | with_reducible refine r_lcT ?_
    | with_reducible refine r_dcT ?_
    | with_reducible refine r_iList ?_
    | with_reducible refine r_iTup ?_
    | with_reducible refine r_iRng1 ?_
    | with_reducible refine r_iRng2 ?_
    | with_reducible refine r_iEnum ?_
    | with_reducible refine r_iZip ?_
    | with_reducible refine r_iKeys ?_
    | with_reducible refine r_iItems ?_
    | with_reducible refine r_iVals ?_
    | with_reducible refine r_lstRg ?_
    | with_reducible refine r_rg1 ?_
    | with_reducible refine r_sortDf ?_
    | with_reducible refine r_bits ?_
    | with_reducible refine r_forT ?_
    | with_reducible refine r_augS ?_
    | with_reducible refine r_gsub ?_
    | with_reducible refine r_bm0 ?_
    | with_reducible refine r_sortLam ?_
    | with_reducible refine r_sfld ?_
    | with_reducible refine r_dput ?_
    | with_reducible refine r_dnewK ?_
    | with_reducible refine r_mk ?_
    | with_reducible refine r_con ?_
    | with_reducible refine r_lockS ?_
    | with_reducible refine r_sl ?_
    | with_reducible refine r_part ?_
    | with_reducible refine r_nopart ?_
    | with_reducible refine r_dget2 ?_
    | with_reducible refine r_isN ?_
    | with_reducible refine r_notN ?_
    | with_reducible refine r_par ?_
    | with_reducible refine r_par2 ?_
    | with_reducible refine r_yes ?_
    | with_reducible refine r_scT ?_)))
section
variable {P : Program} {w : World} {K : PySem.W.Frag} {mg : Str → Option Value} {base : Heap} {C : Ad} {G : List (Addr × Str)}
theorem sc_ordered : FnScope ["font", "counts", "kind"] ["font", "counts"] (defScope (top 68)) := ⟨rfl, rfl, rfl, by decide +kernel, rfl, by decide +kernel, by decide +kernel⟩

theorem d_ordered (T : Txt K mg C) (TO : ∃ (f c Pt : Addr) (oc : Value) (od : Option Addr) (kV doc pm ct : Value) (an : Option Addr) (osl : Array (Option Value)), K.lookup f = some ⟨oc, od, .func (PySem.W.fnOf "ordered" "ordered" (defArgs (top 68)) (defBody (top 68)) (defScope (top 68)) .none kV doc pm an (.ref c) ct), osl⟩ ∧ PySem.W.codeIn K (.ref c) "ordered" = true ∧
    PySem.W.keepIn K (.ref f) = true ∧ mg "ordered" = some (.ref f) ∧ LamX.TabB base mg c Pt ∧ (Pt, ("ordered.<locals>.<lambda>" : Str)) ∈ G ∧ ∀ q ∈ G, q.1 = Pt → q.2 = ("ordered.<locals>.<lambda>" : Str)) (D_kind_key : Df P w K mg base "kind_key" 3 (spKindKey C G)) : Df P w K mg base "ordered" 8 (spOrdered C G) := by
  have sc := sc_ordered
  obtain ⟨f, c, Pt, oc, od, kV, doc, pm, ct, an, osl, lk, hcd, hkp, hm, TB, hG1, hG2⟩ := TO
  refine ⟨f, ?_, hm, hkp⟩
  have OK : FnOk P w K mg base CX0 8 f (PySem.W.fnOf "ordered" "ordered" (defArgs (top 68)) (defBody (top 68)) (defScope (top 68)) .none kV doc pm an (.ref c) ct) ["font", "counts"] (spOrdered C G) := by
    refine fn_of lk hcd sc len2 fun A outer s H vs Q E hr h => ?_
    suffices z : ∃ t, PSs (cxOf CX0 P w K mg base ["font", "counts", "kind"] "ordered" (defScope (top 68)) f (.ref c) A outer s H E).nox (defBody (top 68)) t ∧ t { nx := fun _ H' => Q .non H', rt := Q } (L2.start ["font", "counts", "kind"] vs) H by
      obtain ⟨t, h1, h2⟩ := z
      exact ⟨t, h1.nox, h2⟩
    have hu := hu_of hr
    obtain ⟨x1, x2, rfl, f', d, F, st, rfl, hF, rfl, hd, so, hT, q⟩ := h
    refine ⟨_, (pss_one (ps_ret (pe_dc (own := [("kind", 2)]) rfl sc.nd (pi_listK K (pe_sortedLam (pr := "kind") (i := 2) (k := 4) TB rfl hG1 hG2 (lamS1_by (by show lamSB1 (defScope (top 68)) _ _ = true; decide +kernel)) rfl sc.nd (hr.mono (by decide)) rfl rfl T.f_sorted (pv 1) rfl (fun _ _ _ _ _ _ => rfl) (fun A outer s H E f c' hr' => (pe_df D_kind_key (hr'.mono (by decide)) rfl (pa_cons (pv 0) (pa_cons (pv 2) pa_nil)))))) (blkOk_by (N := ["font", "counts", "kind"]) (sc := defScope (top 68)) (by decide +kernel)) (fun _ _ _ _ _ => (pg_name (i := 2) sc.nd rfl (by first | exact Or.inl rfl | exact Or.inr rfl))) (fun _ _ _ _ _ => pts_one (pt_cmpR op_gt (pe_dget hu (pv 1) (pv 2) (fun _ _ => rfl)) pe_int (nomark _))) (fun _ _ _ _ _ => (pv 2)) (fun _ _ _ _ _ => (pe_dget hu (pv 1) (pv 2) (fun _ _ => rfl)))))), ?_⟩
    decreasing_trivial
    refine ⟨hT, st.map fun p => V.str (K2 p.1), .l, kyK F, false, .inr ⟨d, stK st, rfl, .inl hd, ?_⟩, fun y hy H1 e1 => ?_, fun H1 p1 e1 n1 h1 => ?_⟩
    · unfold stK
      rw [List.map_map]
      rfl
    · obtain ⟨p, hp, rfl⟩ := List.mem_map.mp hy
      decreasing_trivial
      refine r_sp2 ⟨f', F, p.1, rfl, hF.mono e1, rfl, fun H2 pl e2 h2 => ?_⟩
      exact ⟨e2, pl, rfl, h2⟩
    · have hms : (st.map fun p => V.str (K2 p.1)).mergeSort (kyLe .l (kyK F)) = (st.mergeSort fun p q => kyLe .l (kyK F) (V.str (K2 p.1)) (V.str (K2 q.1))).map fun p => V.str (K2 p.1) := (List.map_mergeSort (f := fun p : (Nat × Nat) × Int => V.str (K2 p.1)) (r := fun p q => kyLe .l (kyK F) (V.str (K2 p.1)) (V.str (K2 q.1))) (s := kyLe .l (kyK F)) fun a _ b _ => rfl).symm
      rw [hms] at h1
      have hperm : (st.mergeSort fun p q => kyLe .l (kyK F) (V.str (K2 p.1)) (V.str (K2 q.1))).Perm st := List.mergeSort_perm _ _
      generalize (st.mergeSort fun p q => kyLe .l (kyK F) (V.str (K2 p.1)) (V.str (K2 q.1))) = s2 at *
      have so2 := so.perm hperm
      have hd1 := e1.dct hd (dOk_st st)
      decreasing_trivial
      refine ⟨p1, rfl, ⟨_, SqL.of h1⟩, fun D hD => ?_⟩
      refine cp_it (walk_list (xs := s2.map fun p => V.str (K2 p.1))) (Dq ⟨false, G⟩ H1 D (giv (fun _ => true) (fun p => (kK p.1, V.int p.2)) s2)) (Dq.start hD (giv_zero _ _ _)) (fun i H2 _ hp => SqL.of (hp.1.lst h1)) (fun i x H2 H3 hi hp hx => ?_) (fun H2 hp => ?_)
      · obtain ⟨rfl, hx⟩ := hx
        rw [List.getElem?_map] at hx
        cases hc : s2[i]? with
        | none =>
          rw [hc] at hx
          cases hx
        | some pr =>
        rw [hc] at hx
        cases hx
        have hmem := hperm.mem_iff.mp (List.mem_of_getElem? hc)
        have hval := so.val hmem
        have hpos := so.pos _ hmem
        have hd2 := hp.1.dct hd1 (dOk_st st)
        have dk : dOk (giv (fun _ => true) (fun p : (Nat × Nat) × Int => (kK p.1, V.int p.2)) s2 i) := dOk_of fun p hp => by
          unfold giv at hp
          obtain ⟨c', _, rfl⟩ := List.mem_map.mp hp
          exact ⟨K2 c'.1, rfl, by show 2 ≤ 2; decide⟩
        decreasing_trivial
        refine ⟨rfl, ?_⟩
        decreasing_trivial
        refine r_dget1 (k := kK pr.1) (.inl hd2) rfl hval ?_
        decreasing_trivial
        refine iteE (decide_eq_true hpos) ?_
        decreasing_trivial
        refine r_dget1 (k := kK pr.1) (.inl hd2) rfl hval ?_
        exact hp.add hD (Fm.refl _) dk rfl (Nat.le_trans (giv_len _ _ _ _) (by have := so2.len; omega)) (giv_put so2.nodup (fun a ha b hb e => so2.inj ha hb e) hc rfl)
      · have h2 := hp.2
        rw [List.length_map, giv_all, List.filter_eq_self.mpr (fun _ _ => rfl)] at h2
        exact q _ D s2 (e1.trans hp.1) (e1.nw hD) hperm h2
  have R := FnOk.raw (dvs := []) (ds := []) OK (Binds.all fun us hl => match us, hl with | [_, _], _ => rfl) .nil
  exact R.imp fun vs H Q E h => by
    rw [List.append_nil]
    exact h
end
end Hy
namespace Hy
open PySem PySem.Spec PyProof.Rows L2
local macro_rules | `(tactic| decreasing_trivial) => `(tactic| ((try (with_reducible conv => whnf)); repeat (first
    | with_reducible refine iteT ?_
    | with_reducible refine iteF ?_
    | with_reducible refine iteNT ?_
    | with_reducible refine iteNF ?_
    | with_reducible refine r_isi_int ?_
    | with_reducible refine r_isi_bool ?_
    | with_reducible refine r_isi_str ?_
    | with_reducible refine r_eqN ?_
    | with_reducible refine r_neN ?_
    | with_reducible refine r_eqS ?_
    | with_reducible refine r_neS ?_
    | with_reducible refine r_seq ?_
    | with_reducible refine r_asg ?_
    | with_reducible refine r_gname ?_
    | with_reducible refine r_ret ?_
    | with_reducible refine r_drop ?_
    | with_reducible refine r_next ?_
    | with_reducible refine r_op ?_
    | with_reducible refine r_var (by with_unfolding_all exact rfl) ?_
    | with_reducible refine r_c ?_
    | with_reducible refine r_cons ?_
    | with_reducible refine r_nil ?_
    | with_reducible refine r_un ?_
    | with_reducible refine r_I0 ?_
    | with_reducible refine r_U ?_
    | with_reducible refine r_df ?_
    | with_reducible refine r_cb ?_
    | with_reducible refine r_ifS ?_
    | with_reducible refine r_ifE ?_
    | with_reducible refine r_test ?_
    | with_reducible refine r_B ?_
    | with_reducible refine r_tand ?_
    | with_reducible refine r_tor ?_
    | with_reducible refine r_tnot ?_
    | with_reducible refine r_andV ?_
    | with_reducible refine r_orV ?_
    | with_reducible refine r_notV ?_
    | with_reducible refine r_blif ?_
    | with_reducible refine r_bl ?_
    | with_reducible refine r_chain ?_
    | with_reducible refine r_tup ?_
    | with_reducible refine r_lst ?_
    | with_reducible refine r_fld ?_
    | with_reducible refine r_dget ?_
    | with_reducible refine r_din ?_
    | with_reducible refine r_pt ?_
    | with_reducible refine r_mt ?_
    | with_reducible refine r_iEnumS ?_
    | with_reducible refine r_bm ?_
    | with_reducible refine r_iStr ?_
    | with_reducible refine r_lcT ?_
    | with_reducible refine r_dcT ?_
    | with_reducible refine r_iList ?_
    | with_reducible refine r_iTup ?_
    | with_reducible refine r_iRng1 ?_
    | with_reducible refine r_iRng2 ?_
    | with_reducible refine r_iEnum ?_
    | with_reducible refine r_iZip ?_
    | with_reducible refine r_iKeys ?_
    | with_reducible refine r_iItems ?_
    | with_reducible refine r_iVals ?_
    | with_reducible refine r_lstRg ?_
    | with_reducible refine r_rg1 ?_
    | with_reducible refine r_sortDf ?_
    | with_reducible refine r_bits ?_
    | with_reducible refine r_forT ?_
    | with_reducible refine r_augS ?_
    | with_reducible refine r_gsub ?_
    | with_reducible refine r_bm0 ?_
    | with_reducible refine r_sortLam ?_
    | with_reducible refine r_sfld ?_
    | with_reducible refine r_dput ?_
    | with_reducible refine r_dnewK ?_
    | with_reducible refine r_mk ?_
    | with_reducible refine r_con ?_
    | with_reducible refine r_lockS ?_
    | with_reducible refine r_sl ?_
    | with_reducible refine r_part ?_
    | with_reducible refine r_nopart ?_
    | with_reducible refine r_dget2 ?_
    | with_reducible refine r_isN ?_
    | with_reducible refine r_notN ?_
    | with_reducible refine r_par ?_
    | with_reducible refine r_par2 ?_
    | with_reducible refine r_yes ?_
    | with_reducible refine r_scT ?_)))
section
variable {P : Program} {w : World} {K : PySem.W.Frag} {mg : Str → Option Value} {base : Heap} {C : Ad} {G : List (Addr × Str)}
theorem sc_checked_counts : FnScope ["font", "plates", "found", "entry", "kind"] ["font", "plates"] (defScope (top 69)) := ⟨rfl, rfl, rfl, by decide +kernel, rfl, by decide +kernel, by decide +kernel⟩

theorem d_checked_counts (T : Txt K mg C) (D_is_list : Df P w K mg base "is_list" 1 spIsList) (D_is_tuple_of : Df P w K mg base "is_tuple_of" 1 spIsTupleOf) (D_is_kind : Df P w K mg base "is_kind" 1 (spIsKind C G)) (D_is_between : Df P w K mg base "is_between" 2 spIsBetween) (D_Font_normal : Mt P w K mg base C.CF "normal" 1 (spNormal C)) (D_ordered : Df P w K mg base "ordered" 8 (spOrdered C G)) : Df P w K mg base "checked_counts" 9 (spChecked C G) := by
  have sc := sc_checked_counts
  refine FnT.df (T.fn ("checked_counts", 69) (by decide)) sc len2 (fun _ _ _ _ _ _ us hl => match us, hl with | [_, _], _ => rfl) (fun f cdv A outer s H vs Q E hr h => ?_)
  have hu := hu_of hr
  obtain ⟨x1, x2, rfl, f', a, F, st, rfl, hF, rfl, hrow, so, hT, q⟩ := h
  obtain ⟨vs, hv, hp0⟩ := id hrow
  have hlv := Paired.length hp0
  rcases hv with hv | hv
  · refine ⟨_, (pss_cons (ps_if (pt_not (pt_val (pe_df D_is_list (hr.mono (by decide)) rfl (pa_cons (pv 1) pa_nil)))) (pss_one ps_never) pss_nil)
  (pss_cons (ps_set (i := 2) sc.nd rfl (by first | exact Or.inl rfl | exact Or.inr rfl) pe_dnewK)
  (pss_cons (ps_for PassesOwn.never rfl (pi_listK K (pv 1)) (pg_name (i := 3) sc.nd rfl (by first | exact Or.inl rfl | exact Or.inr rfl)) (pss_cons (ps_if (PW.pt (pw_or (pt_not (pt_val (pe_df D_is_tuple_of (hr.mono (by decide)) rfl (pa_cons (pv 3) (pa_cons pe_int pa_nil))))) (pw_or (pt_not (pt_val (pe_df D_is_kind (hr.mono (by decide)) rfl (pa_cons (pv 0) (pa_cons (pe_ix (ix_tupK K) (pv 3) pe_int (fun _ _ => rfl)) pa_nil))))) (pw_or1 (pt_not (pt_val (pe_df D_is_between (hr.mono (by decide)) rfl (pa_cons (pe_ix (ix_tupK K) (pv 3) pe_int (fun _ _ => rfl)) (pa_cons pe_int (pa_cons (pe_gc T.g_MAX rfl) pa_nil)))))))))) (pss_one ps_never) pss_nil)
  (pss_cons (ps_set (i := 4) sc.nd rfl (by first | exact Or.inl rfl | exact Or.inr rfl) (pe_mth D_Font_normal (hr.mono (by decide)) (pv 0) (pa_cons (pe_ix (ix_tupK K) (pv 3) pe_int (fun _ _ => rfl)) pa_nil)))
  (pss_cons (ps_if (pt_cmp (pc_din hu (pv 4) (pv 2))) (pss_one ps_never) pss_nil)
  (pss_one (ps_dput hu (pv 2) (pv 4) (pe_ix (ix_tupK K) (pv 3) pe_int (fun _ _ => rfl)) rfl))))))
  (pss_one (ps_ret (pe_df D_ordered (hr.mono (by decide)) rfl (pa_cons (pv 0) (pa_cons (pv 2) pa_nil)))))))), ?_⟩
    decreasing_trivial
    refine r_sp1 ⟨a, vs, rfl, .inl hv, fun p1 hp1 => ?_⟩
    have e1 : Fs G H (upd H p1 (.tup [.ty "list", .ty "tuple"])) := Fm.new hp1
    generalize upd H p1 (.tup [.ty "list", .ty "tuple"]) = H1 at *
    decreasing_trivial
    refine fun d hd => ?_
    have e2 : Fs G H (upd H1 d (.dK [])) := e1.trans (Fm.new hd)
    have nd : Nw ⟨false, G⟩ H d := e1.nw hd
    have hd2 : upd H1 d (.dK []) d = some (.dK []) := upd_same
    generalize upd H1 d (.dK []) = H2 at *
    decreasing_trivial
    refine ⟨a, rfl, ⟨_, SqL.of (e2.lst hv)⟩, ?_⟩
    refine for_it (walk_list (xs := vs)) (fun i σ H3 => ∃ v3 v4, σ = [some (.ref f'), some (.ref a), some (.ref d), v3, v4] ∧ Fs G H H3 ∧ H3 d = some (.dK (stK (st.take i)))) ⟨none, none, rfl, e2, hd2⟩ (fun i σ H3 _ hp => ?_) (fun i x σ H3 H4 hi hp hx => ?_) (fun σ H3 hp => ?_)
    · obtain ⟨_, _, _, e3, _⟩ := hp
      exact SqL.of (e3.lst hv)
    · obtain ⟨v3, v4, rfl, e3, hd3⟩ := hp
      obtain ⟨rfl, hx⟩ := hx
      obtain ⟨pr, hpr, t, z, rfl, ht, hz⟩ := paired_at hp0 hx
      have hmem := List.mem_of_getElem? hpr
      have hk0 := so.ok _ hmem
      have hpos := so.pos _ hmem
      have hle := so.le _ hmem
      have hF3 := hF.mono e3
      have ht3 := e3.tup ht
      decreasing_trivial
      refine r_sp2 ⟨t, _, rfl, ht3, rfl, ?_⟩
      decreasing_trivial
      refine ⟨t, _, 0, _, rfl, rfl, SqT.of ht3, rfl, ?_⟩
      decreasing_trivial
      have hkind : ∃ b c, z = K2 (b, c) ∧ (b = 45 ∨ b ∈ F.ws) ∧ (c = 45 ∨ c ∈ F.ws) ∧ ¬ (b = 45 ∧ c = 45) := by
        have n1 := Ft.ne45 hF.1 hk0.1
        rcases hz with rfl | rfl
        · exact ⟨pr.1.1, pr.1.2, rfl, .inr hk0.1, hk0.2.imp id (·.1), fun h => n1 h.1⟩
        · exact ⟨pr.1.2, pr.1.1, rfl, hk0.2.imp id (·.1), .inr hk0.1, fun h => n1 h.2⟩
      obtain ⟨b, c, ez, hb, hc, hbc⟩ := hkind
      refine r_sp2 ⟨f', F, b, c, rfl, hF3, by rw [ez], hb, hc, hbc, fun H5 e5 => ?_⟩
      decreasing_trivial
      have ht5 := e5.tup ht3
      refine ⟨t, _, 1, _, rfl, rfl, SqT.of ht5, rfl, ?_⟩
      decreasing_trivial
      refine r_sp3 ⟨_, _, _, rfl, rfl, rfl, by omega, hle, ?_⟩
      decreasing_trivial
      have hF5 := hF3.mono e5
      obtain ⟨o, dx, fs, r, hh, hk, v⟩ := id hF5
      have hd5 := e5.dct hd3 (dOk_st _)
      refine ⟨f', dx, fs, rfl, v.at_, v.no _ (by decide), ?_⟩
      decreasing_trivial
      refine ⟨t, _, 0, _, rfl, rfl, SqT.of ht5, rfl, ?_⟩
      decreasing_trivial
      refine r_sp2 ⟨f', F, pr.1, rfl, hF5, hk0, by rcases hz with rfl | rfl; exact .inl rfl; exact .inr rfl, ?_⟩
      decreasing_trivial
      refine r_din1 (k := kK pr.1) (.inl hd5) rfl ?_
      have hfresh : ∀ p ∈ stK (st.take i), p.1 ≠ kK pr.1 := fun p hp e => by
        unfold stK at hp
        obtain ⟨p', hp', rfl⟩ := List.mem_map.mp hp
        have e6 : p' = pr := so.inj (List.mem_of_mem_take hp') hmem e
        subst e6
        have hnd := so.nodup
        have hi2 := (List.getElem?_eq_some_iff.mp hpr).1
        have e4 := (List.getElem?_eq_some_iff.mp hpr).2
        have e3 : st = st.take i ++ p' :: st.drop (i + 1) := by
          conv => lhs; rw [← List.take_append_drop i st, List.drop_eq_getElem_cons hi2, e4]
        rw [e3, List.nodup_append] at hnd
        exact hnd.2.2 p' hp' p' (List.mem_cons_self ..) rfl
      have hnone : valV (stK (st.take i)) (kK pr.1) = none := val_none hfresh
      rw [hnone]
      decreasing_trivial
      refine iteN rfl ?_
      decreasing_trivial
      refine ⟨t, _, 1, _, rfl, rfl, SqT.of ht5, rfl, ?_⟩
      decreasing_trivial
      refine r_dput1 (k := kK pr.1) hd5 (Nat.lt_of_le_of_lt (show (stK (st.take i)).length ≤ 1000 by unfold stK; rw [List.length_map, List.length_take]; have := so.len; omega) (by decide)) ?_
      decreasing_trivial
      refine ⟨_, _, rfl, (e3.trans e5).edit nd hd5 rfl, ?_⟩
      rw [upd_same, put_fresh hfresh]
      refine congrArg (fun z => some (HO.dK z)) ?_
      unfold stK
      rw [List.take_add_one, hpr, List.map_append]
      rfl
    · obtain ⟨v3, v4, rfl, e3, hd3⟩ := hp
      rw [hlv, List.take_length] at hd3
      decreasing_trivial
      refine r_sp2 ⟨f', d, F, st, rfl, hF.mono e3, rfl, hd3, so, e3.tb hT, fun H4 p4 s2 e4 n4 hperm h4 => ?_⟩
      exact q _ p4 s2 (e3.trans e4) (e3.nw' n4) hperm h4
  · refine ⟨_, (pss_cons (ps_if (pt_not (pt_val (pe_df D_is_list (hr.mono (by decide)) rfl (pa_cons (pv 1) pa_nil)))) (pss_one ps_never) pss_nil)
  (pss_cons (ps_set (i := 2) sc.nd rfl (by first | exact Or.inl rfl | exact Or.inr rfl) pe_dnewK)
  (pss_cons (ps_for PassesOwn.never rfl (pi_tupK K (pv 1)) (pg_name (i := 3) sc.nd rfl (by first | exact Or.inl rfl | exact Or.inr rfl)) (pss_cons (ps_if (PW.pt (pw_or (pt_not (pt_val (pe_df D_is_tuple_of (hr.mono (by decide)) rfl (pa_cons (pv 3) (pa_cons pe_int pa_nil))))) (pw_or (pt_not (pt_val (pe_df D_is_kind (hr.mono (by decide)) rfl (pa_cons (pv 0) (pa_cons (pe_ix (ix_tupK K) (pv 3) pe_int (fun _ _ => rfl)) pa_nil))))) (pw_or1 (pt_not (pt_val (pe_df D_is_between (hr.mono (by decide)) rfl (pa_cons (pe_ix (ix_tupK K) (pv 3) pe_int (fun _ _ => rfl)) (pa_cons pe_int (pa_cons (pe_gc T.g_MAX rfl) pa_nil)))))))))) (pss_one ps_never) pss_nil)
  (pss_cons (ps_set (i := 4) sc.nd rfl (by first | exact Or.inl rfl | exact Or.inr rfl) (pe_mth D_Font_normal (hr.mono (by decide)) (pv 0) (pa_cons (pe_ix (ix_tupK K) (pv 3) pe_int (fun _ _ => rfl)) pa_nil)))
  (pss_cons (ps_if (pt_cmp (pc_din hu (pv 4) (pv 2))) (pss_one ps_never) pss_nil)
  (pss_one (ps_dput hu (pv 2) (pv 4) (pe_ix (ix_tupK K) (pv 3) pe_int (fun _ _ => rfl)) rfl))))))
  (pss_one (ps_ret (pe_df D_ordered (hr.mono (by decide)) rfl (pa_cons (pv 0) (pa_cons (pv 2) pa_nil)))))))), ?_⟩
    decreasing_trivial
    refine r_sp1 ⟨a, vs, rfl, .inr hv, fun p1 hp1 => ?_⟩
    have e1 : Fs G H (upd H p1 (.tup [.ty "list", .ty "tuple"])) := Fm.new hp1
    generalize upd H p1 (.tup [.ty "list", .ty "tuple"]) = H1 at *
    decreasing_trivial
    refine fun d hd => ?_
    have e2 : Fs G H (upd H1 d (.dK [])) := e1.trans (Fm.new hd)
    have nd : Nw ⟨false, G⟩ H d := e1.nw hd
    have hd2 : upd H1 d (.dK []) d = some (.dK []) := upd_same
    generalize upd H1 d (.dK []) = H2 at *
    decreasing_trivial
    refine ⟨a, rfl, ⟨_, SqT.of (e2.tup hv)⟩, ?_⟩
    refine for_it (walk_tup (xs := vs)) (fun i σ H3 => ∃ v3 v4, σ = [some (.ref f'), some (.ref a), some (.ref d), v3, v4] ∧ Fs G H H3 ∧ H3 d = some (.dK (stK (st.take i)))) ⟨none, none, rfl, e2, hd2⟩ (fun i σ H3 _ hp => ?_) (fun i x σ H3 H4 hi hp hx => ?_) (fun σ H3 hp => ?_)
    · obtain ⟨_, _, _, e3, _⟩ := hp
      exact SqT.of (e3.tup hv)
    · obtain ⟨v3, v4, rfl, e3, hd3⟩ := hp
      obtain ⟨rfl, hx⟩ := hx
      obtain ⟨pr, hpr, t, z, rfl, ht, hz⟩ := paired_at hp0 hx
      have hmem := List.mem_of_getElem? hpr
      have hk0 := so.ok _ hmem
      have hpos := so.pos _ hmem
      have hle := so.le _ hmem
      have hF3 := hF.mono e3
      have ht3 := e3.tup ht
      decreasing_trivial
      refine r_sp2 ⟨t, _, rfl, ht3, rfl, ?_⟩
      decreasing_trivial
      refine ⟨t, _, 0, _, rfl, rfl, SqT.of ht3, rfl, ?_⟩
      decreasing_trivial
      have hkind : ∃ b c, z = K2 (b, c) ∧ (b = 45 ∨ b ∈ F.ws) ∧ (c = 45 ∨ c ∈ F.ws) ∧ ¬ (b = 45 ∧ c = 45) := by
        have n1 := Ft.ne45 hF.1 hk0.1
        rcases hz with rfl | rfl
        · exact ⟨pr.1.1, pr.1.2, rfl, .inr hk0.1, hk0.2.imp id (·.1), fun h => n1 h.1⟩
        · exact ⟨pr.1.2, pr.1.1, rfl, hk0.2.imp id (·.1), .inr hk0.1, fun h => n1 h.2⟩
      obtain ⟨b, c, ez, hb, hc, hbc⟩ := hkind
      refine r_sp2 ⟨f', F, b, c, rfl, hF3, by rw [ez], hb, hc, hbc, fun H5 e5 => ?_⟩
      decreasing_trivial
      have ht5 := e5.tup ht3
      refine ⟨t, _, 1, _, rfl, rfl, SqT.of ht5, rfl, ?_⟩
      decreasing_trivial
      refine r_sp3 ⟨_, _, _, rfl, rfl, rfl, by omega, hle, ?_⟩
      decreasing_trivial
      have hF5 := hF3.mono e5
      obtain ⟨o, dx, fs, r, hh, hk, v⟩ := id hF5
      have hd5 := e5.dct hd3 (dOk_st _)
      refine ⟨f', dx, fs, rfl, v.at_, v.no _ (by decide), ?_⟩
      decreasing_trivial
      refine ⟨t, _, 0, _, rfl, rfl, SqT.of ht5, rfl, ?_⟩
      decreasing_trivial
      refine r_sp2 ⟨f', F, pr.1, rfl, hF5, hk0, by rcases hz with rfl | rfl; exact .inl rfl; exact .inr rfl, ?_⟩
      decreasing_trivial
      refine r_din1 (k := kK pr.1) (.inl hd5) rfl ?_
      have hfresh : ∀ p ∈ stK (st.take i), p.1 ≠ kK pr.1 := fun p hp e => by
        unfold stK at hp
        obtain ⟨p', hp', rfl⟩ := List.mem_map.mp hp
        have e6 : p' = pr := so.inj (List.mem_of_mem_take hp') hmem e
        subst e6
        have hnd := so.nodup
        have hi2 := (List.getElem?_eq_some_iff.mp hpr).1
        have e4 := (List.getElem?_eq_some_iff.mp hpr).2
        have e3 : st = st.take i ++ p' :: st.drop (i + 1) := by
          conv => lhs; rw [← List.take_append_drop i st, List.drop_eq_getElem_cons hi2, e4]
        rw [e3, List.nodup_append] at hnd
        exact hnd.2.2 p' hp' p' (List.mem_cons_self ..) rfl
      have hnone : valV (stK (st.take i)) (kK pr.1) = none := val_none hfresh
      rw [hnone]
      decreasing_trivial
      refine iteN rfl ?_
      decreasing_trivial
      refine ⟨t, _, 1, _, rfl, rfl, SqT.of ht5, rfl, ?_⟩
      decreasing_trivial
      refine r_dput1 (k := kK pr.1) hd5 (Nat.lt_of_le_of_lt (show (stK (st.take i)).length ≤ 1000 by unfold stK; rw [List.length_map, List.length_take]; have := so.len; omega) (by decide)) ?_
      decreasing_trivial
      refine ⟨_, _, rfl, (e3.trans e5).edit nd hd5 rfl, ?_⟩
      rw [upd_same, put_fresh hfresh]
      refine congrArg (fun z => some (HO.dK z)) ?_
      unfold stK
      rw [List.take_add_one, hpr, List.map_append]
      rfl
    · obtain ⟨v3, v4, rfl, e3, hd3⟩ := hp
      rw [hlv, List.take_length] at hd3
      decreasing_trivial
      refine r_sp2 ⟨f', d, F, st, rfl, hF.mono e3, rfl, hd3, so, e3.tb hT, fun H4 p4 s2 e4 n4 hperm h4 => ?_⟩
      exact q _ p4 s2 (e3.trans e4) (e3.nw' n4) hperm h4
end
end Hy
namespace Hy
open PySem PySem.Spec PyProof.Rows L2
local macro_rules | `(tactic| decreasing_trivial) => `(tactic| ((try (with_reducible conv => whnf)); repeat (first
    | with_reducible refine iteT ?_
    | with_reducible refine iteF ?_
    | with_reducible refine iteNT ?_
    | with_reducible refine iteNF ?_
    | with_reducible refine r_isi_int ?_
    | with_reducible refine r_isi_bool ?_
    | with_reducible refine r_isi_str ?_
    | with_reducible refine r_eqN ?_
    | with_reducible refine r_neN ?_
    | with_reducible refine r_eqS ?_
    | with_reducible refine r_neS ?_
    | with_reducible refine r_seq ?_
    | with_reducible refine r_asg ?_
    | with_reducible refine r_gname ?_
    | with_reducible refine r_ret ?_
    | with_reducible refine r_drop ?_
    | with_reducible refine r_next ?_
    | with_reducible refine r_op ?_
    | with_reducible refine r_var (by with_unfolding_all exact rfl) ?_
    | with_reducible refine r_c ?_
    | with_reducible refine r_cons ?_
    | with_reducible refine r_nil ?_
    | with_reducible refine r_un ?_
    | with_reducible refine r_I0 ?_
    | with_reducible refine r_U ?_
    | with_reducible refine r_df ?_
    | with_reducible refine r_cb ?_
    | with_reducible refine r_ifS ?_
    | with_reducible refine r_ifE ?_
    | with_reducible refine r_test ?_
    | with_reducible refine r_B ?_
    | with_reducible refine r_tand ?_
    | with_reducible refine r_tor ?_
    | with_reducible refine r_tnot ?_
    | with_reducible refine r_andV ?_
    | with_reducible refine r_orV ?_
    | with_reducible refine r_notV ?_
    | with_reducible refine r_blif ?_
    | with_reducible refine r_bl ?_
    | with_reducible refine r_chain ?_
    | with_reducible refine r_tup ?_
    | with_reducible refine r_lst ?_
    | with_reducible refine r_fld ?_
    | with_reducible refine r_dget ?_
    | with_reducible refine r_din ?_
    | with_reducible refine r_pt ?_
    | with_reducible refine r_mt ?_
    | with_reducible refine r_iEnumS ?_
    | with_reducible refine r_bm ?_
    | with_reducible refine r_iStr ?_
    | with_reducible refine r_lcT ?_
    | with_reducible refine r_dcT ?_
    | with_reducible refine r_iList ?_
    | with_reducible refine r_iTup ?_
    | with_reducible refine r_iRng1 ?_
    | with_reducible refine r_iRng2 ?_
    | with_reducible refine r_iEnum ?_
    | with_reducible refine r_iZip ?_
    | with_reducible refine r_iKeys ?_
    | with_reducible refine r_iItems ?_
    | with_reducible refine r_iVals ?_
    | with_reducible refine r_lstRg ?_
    | with_reducible refine r_rg1 ?_
    | with_reducible refine r_sortDf ?_
    | with_reducible refine r_bits ?_
    | with_reducible refine r_forT ?_
    | with_reducible refine r_augS ?_
    | with_reducible refine r_gsub ?_
    | with_reducible refine r_bm0 ?_
    | with_reducible refine r_sortLam ?_
    | with_reducible refine r_sfld ?_
    | with_reducible refine r_dput ?_
    | with_reducible refine r_dnewK ?_
    | with_reducible refine r_mk ?_
    | with_reducible refine r_con ?_
    | with_reducible refine r_lockS ?_
    | with_reducible refine r_sl ?_
    | with_reducible refine r_part ?_
    | with_reducible refine r_nopart ?_
    | with_reducible refine r_dget2 ?_
    | with_reducible refine r_isN ?_
    | with_reducible refine r_notN ?_
    | with_reducible refine r_par ?_
    | with_reducible refine r_par2 ?_
    | with_reducible refine r_yes ?_
    | with_reducible refine r_scT ?_)))
section
variable {P : Program} {w : World} {K : PySem.W.Frag} {mg : Str → Option Value} {base : Heap} {C : Ad} {G : List (Addr × Str)}
theorem sc_Pile_init : FnScope ["self", "font", "counts"] ["self", "font", "counts"] (defScope (inClass (top 70) 0)) := ⟨rfl, rfl, rfl, by decide +kernel, rfl, by decide +kernel, by decide +kernel⟩

theorem d_Pile_init (T : Txt K mg C) {g : Addr} {gd : FuncData} (TP : Fun K "__init__" "Pile.__init__" (inClass (top 70) 0) g gd) (D_ordered : Df P w K mg base "ordered" 8 (spOrdered C G)) : FnR P w K mg base CX0 9 g (spPile C G) := by
  have sc := sc_Pile_init
  refine Fun.fnr TP sc len3 (fun _ _ _ _ _ _ us hl => match us, hl with | [_, _, _], _ => rfl) (fun cdv A outer s H vs Q E hr h => ?_)
  have hu := hu_of hr
  obtain ⟨x1, x2, x3, rfl, x', dx, f', d, F, st, H0, rfl, rfl, rfl, hx, e0, nx, hF, hd, so, hT, q⟩ := h
  refine ⟨_, (pss_cons (ps_fld (pv 0) (pv 1) rfl)
  (pss_one (ps_fld (pv 0) (pe_df D_ordered (hr.mono (by decide)) rfl (pa_cons (pv 1) (pa_cons (pv 2) pa_nil))) rfl))), ?_⟩
  decreasing_trivial
  refine ⟨x', C.CC, dx, [], rfl, hx, T.cC, T.nFontC, by show 0 < 1000; decide, ?_⟩
  have e1 : Fs G H0 (upd H x' (.ins C.CC dx (putF "own_font" (.ref f') []))) := e0.fld nx hx
  have hx1 : upd H x' (.ins C.CC dx (putF "own_font" (.ref f') [])) x' = some (.ins C.CC dx (putF "own_font" (.ref f') [])) := upd_same
  have hd1 : upd H x' (.ins C.CC dx (putF "own_font" (.ref f') [])) d = some (.dK (stK st)) := (upd_ne (ne_of hd hx (by intro z; cases z))).trans hd
  generalize upd H x' (.ins C.CC dx (putF "own_font" (.ref f') [])) = H1 at *
  decreasing_trivial
  refine r_sp2 ⟨f', d, F, st, rfl, (hF.mono e1).at, rfl, hd1, so, e1.tb hT, fun H2 p s2 e2 n2 hperm h2 => ?_⟩
  have hx2 := e2.ins hx1
  have xp : x' ≠ p := n2.ne hx1 rfl
  decreasing_trivial
  refine ⟨x', C.CC, dx, _, rfl, hx2, T.cC, T.nStock, by show 1 < 1000; decide, ?_⟩
  have e3 : Fs G H0 (upd H2 x' (.ins C.CC dx (putF "stock" (.ref p) (putF "own_font" (.ref f') [])))) := (e1.trans e2).fld nx hx2
  decreasing_trivial
  refine q _ s2 e3 hperm ⟨hF.mono e3, so.perm hperm, p, dx, _, ⟨upd_same, rfl, rfl, fun m hm => ?_, (upd_ne xp.symm).trans h2⟩⟩
  have h5 : (putF "stock" (.ref p) (putF "own_font" (.ref f') [])).lookup m = none := by
    rw [lookup_putF, lookup_putF]
    simp only [List.mem_cons, List.not_mem_nil, or_false, not_or] at hm
    rw [if_neg hm.2, if_neg hm.1]
    rfl
  exact h5
theorem d_Case_init (T : Txt K mg C) {f g : Addr} {gd : FuncData} (TP : Fun K "__init__" "Pile.__init__" (inClass (top 70) 0) g gd) (TM : Mk K C.CC f) (mC : mg "Case" = some (.ref C.CC))
    (TS : SupK P K C.CC C.CC f g "Case.__init__" (defArgs (inClass (top 71) 1)) (defBody (inClass (top 71) 1)) (defScope (inClass (top 71) 1)) ["self", "font", "plates"] "self") (D_ordered : Df P w K mg base "ordered" 8 (spOrdered C G)) (D_checked_counts : Df P w K mg base "checked_counts" 9 (spChecked C G)) : Ct P w K mg base "Case" C.CC 10 (spCaseInit C G) := by
  have GP := d_Pile_init (P := P) (w := w) (base := base) T TP D_ordered
  refine ⟨⟨f, TM, ?_⟩, mC⟩
  have S : SupS ["self", "font", "plates"] ["self", "font", "plates"] (defScope (inClass (top 71) 1)) := ⟨rfl, rfl, rfl, by decide +kernel, rfl, by decide +kernel, by decide +kernel, by decide +kernel⟩
  refine fn_sup (mgs := T.f_super) (k := 9) (spG := spPile C G) (t := tCons (tVar 1) (tCons (tDf (spChecked C G) (tCons (tVar 1) (tCons (tVar 2) tNil))) tNil)) TS S rfl rfl GP (fun cc cd A outer s H hr => ?_) (hsp := fun vs H Q E h => ?_)
  · exact pa_cons (pv 1) (pa_cons (pe_df D_checked_counts (hr.mono (by decide)) rfl (pa_cons (pv 1) (pa_cons (pv 2) pa_nil))) pa_nil)
  · obtain ⟨x1, x2, x3, rfl, x', dx, f', a, F, st, H0, rfl, rfl, rfl, hx, e0, nx, hF, hrow, so, hT, q⟩ := h
    refine ⟨rfl, x', dx, [], rfl, hx, ?_⟩
    decreasing_trivial
    refine r_sp2 ⟨f', a, F, st, rfl, (hF.mono e0).at, rfl, hrow.mono e0, so, e0.tb hT, fun H1 p s1 e1 n1 hp1 h1 => ?_⟩
    decreasing_trivial
    refine r_sp3 ⟨x', dx, f', p, F, s1, H0, rfl, rfl, rfl, e1.ins hx, e0.trans e1, nx, hF, h1, so.perm hp1, hT, fun H2 s2 e2 hp2 hC => ?_⟩
    exact q _ s2 e2 (hp2.trans hp1) hC
end
end Hy
namespace Hy
open PySem PySem.Spec PyProof.Rows L2
local macro_rules | `(tactic| decreasing_trivial) => `(tactic| ((try (with_reducible conv => whnf)); repeat (first
    | with_reducible refine iteT ?_
    | with_reducible refine iteF ?_
    | with_reducible refine iteNT ?_
    | with_reducible refine iteNF ?_
    | with_reducible refine r_isi_int ?_
    | with_reducible refine r_isi_bool ?_
    | with_reducible refine r_isi_str ?_
    | with_reducible refine r_eqN ?_
    | with_reducible refine r_neN ?_
    | with_reducible refine r_eqS ?_
    | with_reducible refine r_neS ?_
    | with_reducible refine r_seq ?_
    | with_reducible refine r_asg ?_
    | with_reducible refine r_gname ?_
    | with_reducible refine r_ret ?_
    | with_reducible refine r_drop ?_
    | with_reducible refine r_next ?_
    | with_reducible refine r_op ?_
    | with_reducible refine r_var (by with_unfolding_all exact rfl) ?_
    | with_reducible refine r_c ?_
    | with_reducible refine r_cons ?_
    | with_reducible refine r_nil ?_
    | with_reducible refine r_un ?_
    | with_reducible refine r_I0 ?_
    | with_reducible refine r_U ?_
    | with_reducible refine r_df ?_
    | with_reducible refine r_cb ?_
    | with_reducible refine r_ifS ?_
    | with_reducible refine r_ifE ?_
    | with_reducible refine r_test ?_
    | with_reducible refine r_B ?_
    | with_reducible refine r_tand ?_
    | with_reducible refine r_tor ?_
    | with_reducible refine r_tnot ?_
    | with_reducible refine r_andV ?_
    | with_reducible refine r_orV ?_
    | with_reducible refine r_notV ?_
    | with_reducible refine r_blif ?_
    | with_reducible refine r_bl ?_
    | with_reducible refine r_chain ?_
    | with_reducible refine r_tup ?_
    | with_reducible refine r_lst ?_
    | with_reducible refine r_fld ?_
    | with_reducible refine r_dget ?_
    | with_reducible refine r_din ?_
    | with_reducible refine r_pt ?_
    | with_reducible refine r_mt ?_
    | with_reducible refine r_iEnumS ?_
    | with_reducible refine r_bm ?_
    | with_reducible refine r_iStr ?_
    | with_reducible refine r_lcT ?_
    | with_reducible refine r_dcT ?_
    | with_reducible refine r_iList ?_
    | with_reducible refine r_iTup ?_
    | with_reducible refine r_iRng1 ?_
    | with_reducible refine r_iRng2 ?_
    | with_reducible refine r_iEnum ?_
    | with_reducible refine r_iZip ?_
    | with_reducible refine r_iKeys ?_
    | with_reducible refine r_iItems ?_
    | with_reducible refine r_iVals ?_
    | with_reducible refine r_lstRg ?_
    | with_reducible refine r_rg1 ?_
    | with_reducible refine r_sortDf ?_
    | with_reducible refine r_bits ?_
    | with_reducible refine r_forT ?_
    | with_reducible refine r_augS ?_
    | with_reducible refine r_gsub ?_
    | with_reducible refine r_bm0 ?_
    | with_reducible refine r_sortLam ?_
    | with_reducible refine r_sfld ?_
    | with_reducible refine r_dput ?_
    | with_reducible refine r_dnewK ?_
    | with_reducible refine r_mk ?_
    | with_reducible refine r_con ?_
    | with_reducible refine r_lockS ?_
    | with_reducible refine r_sl ?_
    | with_reducible refine r_part ?_
    | with_reducible refine r_nopart ?_
    | with_reducible refine r_dget2 ?_
    | with_reducible refine r_isN ?_
    | with_reducible refine r_notN ?_
    | with_reducible refine r_par ?_
    | with_reducible refine r_par2 ?_
    | with_reducible refine r_yes ?_
    | with_reducible refine r_scT ?_)))
section
variable {P : Program} {w : World} {K : PySem.W.Frag} {mg : Str → Option Value} {base : Heap} {C : Ad} {G : List (Addr × Str)}
theorem sc_law_draw : FnScope ["_law_pen_here", "_law_many", "_law_digit", "_law_used", "_law_cell", "_law_mixed"] ["_law_pen_here", "_law_many"] (defScope (top 86)) := ⟨rfl, rfl, rfl, by decide +kernel, rfl, by decide +kernel, by decide +kernel⟩

theorem mod_bd {x m : Int} (h : 0 < m) : 0 ≤ x % m ∧ x % m < m := ⟨Int.emod_nonneg x (by omega), Int.emod_lt_of_pos x h⟩
theorem draw_any (T : Txt K mg C) {M M2 : Int} {c k : Nat} (hM : M2 ≤ 100000000000000000000000000000000000000000)
    (hrec : M2 ≤ 60000000 ∨ (Df P w K mg base "_law_draw" k (spDraw G M c) ∧ ∀ m, m ≤ M2 → m / 60000000 + 1 ≤ M)) : Df P w K mg base "_law_draw" (k + 1) (spDraw G M2 (c + 1)) := by
  have sc := sc_law_draw
  refine FnT.df (T.fn ("_law_draw", 86) (by decide)) sc len2 (fun _ _ _ _ _ _ us hl => match us, hl with | [_, _], _ => rfl) (fun f cdv A outer s H vs Q E hr h => ?_)
  have hu := hu_of hr
  have hu64 := hr.units
  obtain ⟨x1, x2, rfl, ⟨p, a, L⟩, b, m, rfl, rfl, hm0, hmM, hp, q⟩ := h
  have hmb : ∀ x : Int, 0 ≤ x % m ∧ x % m < m := fun x => mod_bd hm0
  have hdiv : ∀ i, CDivW i m := fun i => ⟨hm0, by
    have h2 : m.natAbs < 2 ^ 200 := by
      have : (100000000000000000000000000000000000000000 : Nat) < 2 ^ 200 := by decide
      omega
    have := (Nat.log2_lt (show m.natAbs ≠ 0 by omega)).mpr h2
    omega⟩
  dsimp only at q ⊢
  obtain ⟨u, l, hp1, hp2, hL, hu0, hub, hl0'⟩ := hp
  have pa : p ≠ a := ne_of hp1 hp2 (by intro z; cases z)
  suffices z : ∃ t, PSs (cxOf CX0 P w K mg base ["_law_pen_here", "_law_many", "_law_digit", "_law_used", "_law_cell", "_law_mixed"] "_law_draw" (defScope (top 86)) f cdv A outer s H E).nox (defBody (top 86)) t ∧ t { nx := fun _ H' => Q .non H', rt := Q } (L2.start ["_law_pen_here", "_law_many", "_law_digit", "_law_used", "_law_cell", "_law_mixed"] [.ref p, .int m]) H from z
  rcases hrec with hrec | ⟨D_law_draw, hrec⟩
  · refine ⟨_, (pss_cons (ps_if (pt_cmpR op_gt (pe_dget hu (pv 0) pe_str (fun _ _ => rfl)) pe_int (nomark _)) (pss_cons (ps_set (i := 2) sc.nd rfl (by first | exact Or.inl rfl | exact Or.inr rfl) (pe_op op_mod (pe_callTy call_int1 (by rfl) T.f_int (by decide +kernel) (pa_cons (pe_dget hu (pv 0) pe_str (fun _ _ => rfl)) pa_nil)) (pv 1)))
  (pss_cons (ps_dput hu (pv 0) pe_str (pe_op op_fdivW (pe_dget hu (pv 0) pe_str (fun _ _ => rfl)) (pv 1)) rfl)
  (pss_one (ps_ret (pv 2))))) pss_nil)
  (pss_cons (ps_set (i := 3) sc.nd rfl (by first | exact Or.inl rfl | exact Or.inr rfl) (pe_dget hu (pv 0) pe_str (fun _ _ => rfl)))
  (pss_cons (ps_dput hu (pv 0) pe_str (pe_op op_add (pv 3) pe_int) rfl)
  (pss_cons (ps_set (i := 4) sc.nd rfl (by first | exact Or.inl rfl | exact Or.inr rfl) (pe_op op_add (pe_op op_mul pe_int (pv 3)) pe_int))
  (pss_cons (ps_if (pt_cmpR (op_neDK K hu64) (pe_dget hu (pv 0) pe_str (fun _ _ => rfl)) (pe_lst pa_nil) (nomark _)) (pss_one (ps_set (i := 4) sc.nd rfl (by first | exact Or.inl rfl | exact Or.inr rfl) (pe_ix (ix_listK K) (pe_dget hu (pv 0) pe_str (fun _ _ => rfl)) (pe_op op_mod (pe_callTy call_int1 (by rfl) T.f_int (by decide +kernel) (pa_cons (pv 3) pa_nil)) (pe_callB (call_len_seqK K) (by rfl) T.f_len PySem.boot_len (pa_cons (pe_dget hu (pv 0) pe_str (fun _ _ => rfl)) pa_nil))) (fun _ _ => rfl)))) pss_nil)
  (pss_cons (ps_if (PW.pt (pw_and (pt_cmpR op_lt (pv 3) (pe_callB (call_len_seqK K) (by rfl) T.f_len PySem.boot_len (pa_cons (pe_dget hu (pv 0) pe_str (fun _ _ => rfl)) pa_nil)) (nomark _)) (pw_and1 (pt_cmpR op_ge (pe_callB call_abs (by rfl) T.f_abs (by decide +kernel) (pa_cons (pv 4) pa_nil)) (pe_op op_pow pe_int pe_int) (nomark _))))) (pss_cons (ps_dput hu (pv 0) pe_str (pe_op op_fdivW (pe_op op_sub (pe_callB call_abs (by rfl) T.f_abs (by decide +kernel) (pa_cons (pv 4) pa_nil)) (pe_op op_pow pe_int pe_int)) (pv 1)) rfl)
  (pss_one (ps_ret (pe_op op_mod (pe_op op_sub (pe_callB call_abs (by rfl) T.f_abs (by decide +kernel) (pa_cons (pv 4) pa_nil)) (pe_op op_pow pe_int pe_int)) (pv 1))))) pss_nil)
  (pss_cons (ps_set (i := 5) sc.nd rfl (by first | exact Or.inl rfl | exact Or.inr rfl) (pe_op op_add (pe_op op_mul (pe_op op_mod (pe_callTy call_int1 (by rfl) T.f_int (by decide +kernel) (pa_cons (pv 4) pa_nil)) pe_int) pe_int) (pe_op op_mul (pe_op op_mul pe_int (pv 3)) (pv 3))))
  (pss_cons (ps_set (i := 5) sc.nd rfl (by first | exact Or.inl rfl | exact Or.inr rfl) (pe_op op_mod (pe_callTy call_int1 (by rfl) T.f_int (by decide +kernel) (pa_cons (pe_op op_add (pe_op op_add (pv 5) (pe_op op_mul pe_int (pv 3))) pe_int) pa_nil)) pe_int))
  (pss_cons (ps_set (i := 5) sc.nd rfl (by first | exact Or.inl rfl | exact Or.inr rfl) (pe_op op_mod (pe_callTy call_int1 (by rfl) T.f_int (by decide +kernel) (pa_cons (pe_op op_add (pe_op op_add (pe_op op_add (pe_op op_mul (pv 5) (pv 5)) (pe_op op_mul pe_int (pv 5))) (pe_op op_mul pe_int (pv 3))) pe_int) pa_nil)) pe_int))
  (pss_cons (ps_set (i := 5) sc.nd rfl (by first | exact Or.inl rfl | exact Or.inr rfl) (pe_op op_fdivW (pe_op op_mod (pe_callTy call_int1 (by rfl) T.f_int (by decide +kernel) (pa_cons (pe_op op_mul (pv 5) (pe_op op_add (pv 5) pe_int)) pa_nil)) pe_int) pe_int))
  (pss_cons (ps_if (pt_cmpR op_gt (pv 1) pe_int (nomark _)) (pss_one ps_never) pss_nil)
  (pss_one (ps_ret (pe_op op_mod (pe_callTy call_int1 (by rfl) T.f_int (by decide +kernel) (pa_cons (pv 5) pa_nil)) (pv 1))))))))))))))), ?_⟩
    decreasing_trivial
    refine r_dget1 (k := .inr "left") (.inl hp1) rfl (pen_left _ _ _) ?_
    decreasing_trivial
    refine iteD (fun e => ?_) (fun e => ?_)
    · decreasing_trivial
      refine r_dget1 (k := .inr "left") (.inl hp1) rfl (pen_left _ _ _) ?_
      decreasing_trivial
      refine .inl ⟨_, rfl, ?_⟩
      decreasing_trivial
      refine r_I hm0 ?_
      decreasing_trivial
      refine r_dget1 (k := .inr "left") (.inl hp1) rfl (pen_left _ _ _) ?_
      decreasing_trivial
      refine r_I (hdiv _) ?_
      decreasing_trivial
      refine r_dput1 (k := .inr "left") hp1 (by show 3 < sizeLine; decide) ?_
      rw [pen_put_left]
      decreasing_trivial
      exact q _ _ (Fm.pen hp1) ⟨u, _, upd_same, (upd_ne pa.symm).trans hp2, hL, hu0, by omega, Int.ediv_nonneg (by omega) (by omega)⟩ (hmb _).1 (hmb _).2
    · decreasing_trivial
      refine r_dget1 (k := .inr "used") (.inl hp1) rfl (pen_used _ _ _) ?_
      decreasing_trivial
      refine r_dput1 (k := .inr "used") hp1 (by show 3 < sizeLine; decide) ?_
      rw [pen_put_used]
      have e2 : Fr G H (upd H p (.dK (penK a (u + 1) l))) := Fm.pen hp1
      have hp3 : upd H p (.dK (penK a (u + 1) l)) p = some (.dK (penK a (u + 1) l)) := upd_same
      have ha3 : upd H p (.dK (penK a (u + 1) l)) a = some (.lst (L.map V.int)) := (upd_ne pa.symm).trans hp2
      generalize upd H p (.dK (penK a (u + 1) l)) = H3 at *
      decreasing_trivial
      refine r_I (.inl ⟨by decide, by decide⟩) ?_
      decreasing_trivial
      refine r_dget1 (k := .inr "cells") (.inl hp3) rfl (pen_cells _ _ _) ?_
      decreasing_trivial
      refine ⟨by show 0 ≤ sizeLine; omega, fun l0 hl0 => ?_⟩
      have e3 : Fs G H3 (upd H3 l0 (.lst [])) := Fm.new hl0
      have e4 : Fr G H (upd H3 l0 (.lst [])) := e2.trans e3.weak
      have hp4 : upd H3 l0 (.lst []) p = some (.dK (penK a (u + 1) l)) := (upd_ne (ne_of_none hp3 hl0)).trans hp3
      have ha4 := e3.lst ha3
      have hpen4 : Pen (upd H3 l0 (.lst [])) ⟨p, a, L⟩ (b + c) := ⟨u + 1, l, hp4, ha4, hL, by omega, by omega, hl0'⟩
      have hl4 : upd H3 l0 (.lst []) l0 = some (.lst []) := upd_same
      generalize upd H3 l0 (.lst []) = H4 at *
      refine r_neE ha4 hl4 (plain_all fun x hx => by
        obtain ⟨i, _, rfl⟩ := List.mem_map.mp hx
        exact plain_int i) ?_
      decreasing_trivial
      refine iteD (fun en => ?_) (fun en => ?_)
      · have hne : 0 < L.length := by
          cases L with
          | nil => cases en
          | cons _ _ => exact Nat.succ_pos _
        decreasing_trivial
        refine r_dget1 (k := .inr "cells") (.inl hp4) rfl (pen_cells _ _ _) ?_
        decreasing_trivial
        refine .inl ⟨_, rfl, ?_⟩
        decreasing_trivial
        refine r_dget1 (k := .inr "cells") (.inl hp4) rfl (pen_cells _ _ _) ?_
        decreasing_trivial
        refine ⟨a, _, rfl, .inl (SqL.of ha4), ?_⟩
        rw [List.length_map]
        decreasing_trivial
        refine r_I (show (0 : Int) < ((L.length : Nat) : Int) by omega) ?_
        have hix := mod_bd (x := u) (m := ((L.length : Nat) : Int)) (by omega)
        obtain ⟨j, hj⟩ : ∃ j : Nat, u % ((L.length : Nat) : Int) = ((j : Nat) : Int) := ⟨(u % ((L.length : Nat) : Int)).toNat, by omega⟩
        rw [hj] at hix ⊢
        have hjl : j < L.length := by omega
        refine r_ixN (SqL.of ha4) (show (L.map V.int)[j]? = some (.int L[j]) by rw [List.getElem?_map, List.getElem?_eq_getElem hjl]; rfl) ?_
        generalize L[j] = cl
        decreasing_trivial
        refine r_dget1 (k := .inr "cells") (.inl hp4) rfl (pen_cells _ _ _) ?_
        decreasing_trivial
        refine ⟨a, _, rfl, .inl (SqL.of ha4), ?_⟩
        rw [List.length_map]
        decreasing_trivial
        refine iteD (fun eu => ?_) (fun eu => ?_)
        · decreasing_trivial
          refine ⟨_, rfl, ?_⟩
          decreasing_trivial
          refine r_I ⟨by decide, by decide, by decide⟩ ?_
          decreasing_trivial
          refine iteD (fun eb => ?_) (fun eb => ?_)
          · decreasing_trivial
            refine ⟨_, rfl, ?_⟩
            decreasing_trivial
            refine r_I ⟨by decide, by decide, by decide⟩ ?_
            decreasing_trivial
            refine r_I (hdiv _) ?_
            decreasing_trivial
            refine r_dput1 (k := .inr "left") hp4 (by show 3 < sizeLine; decide) ?_
            rw [pen_put_left]
            decreasing_trivial
            refine ⟨_, rfl, ?_⟩
            decreasing_trivial
            refine r_I ⟨by decide, by decide, by decide⟩ ?_
            decreasing_trivial
            refine r_I hm0 ?_
            have hx0 := of_decide_eq_true eb
            refine q _ _ (e4.trans (Fm.pen hp4)) ⟨u + 1, _, upd_same, (upd_ne pa.symm).trans ha4, hL, by omega, by omega, Int.ediv_nonneg (by omega) (by omega)⟩ (hmb _).1 (hmb _).2
          · decreasing_trivial
            refine .inl ⟨_, rfl, ?_⟩
            decreasing_trivial
            refine r_I (by decide) ?_
            decreasing_trivial
            refine r_I (.inr ⟨by decide, by decide⟩) ?_
            decreasing_trivial
            refine r_I (.inl ⟨by decide, by decide⟩) ?_
            decreasing_trivial
            refine r_I (.inr ⟨by omega, by omega⟩) ?_
            decreasing_trivial
            refine r_I (.inl ⟨by decide, by decide⟩) ?_
            decreasing_trivial
            refine .inl ⟨_, rfl, ?_⟩
            decreasing_trivial
            refine r_I (by decide) ?_
            generalize hm1 : (_ : Int) % 4294967197 = mx1
            have hm1b : 0 ≤ mx1 ∧ mx1 < 4294967197 := hm1 ▸ mod_bd (by decide)
            clear hm1
            decreasing_trivial
            refine r_I (.inl ⟨by omega, by omega⟩) ?_
            decreasing_trivial
            refine r_I (.inl ⟨by decide, by decide⟩) ?_
            decreasing_trivial
            refine r_I (.inl ⟨by decide, by decide⟩) ?_
            decreasing_trivial
            refine .inl ⟨_, rfl, ?_⟩
            decreasing_trivial
            refine r_I (by decide) ?_
            generalize hm2 : (_ : Int) % 4294967189 = mx2
            have hm2b : 0 ≤ mx2 ∧ mx2 < 4294967189 := hm2 ▸ mod_bd (by decide)
            clear hm2
            decreasing_trivial
            refine r_I (.inl ⟨by omega, by omega⟩) ?_
            decreasing_trivial
            refine .inl ⟨_, rfl, ?_⟩
            decreasing_trivial
            refine r_I (by decide) ?_
            decreasing_trivial
            refine r_I ⟨by decide, by decide⟩ ?_
            decreasing_trivial
            refine iteN (decide_eq_false (by omega)) ?_
            decreasing_trivial
            refine .inl ⟨_, rfl, ?_⟩
            decreasing_trivial
            refine r_I hm0 ?_
            exact q _ _ e4 ((hpen4).less (by omega)) (hmb _).1 (hmb _).2
        · decreasing_trivial
          refine .inl ⟨_, rfl, ?_⟩
          decreasing_trivial
          refine r_I (by decide) ?_
          decreasing_trivial
          refine r_I (.inr ⟨by decide, by decide⟩) ?_
          decreasing_trivial
          refine r_I (.inl ⟨by decide, by decide⟩) ?_
          decreasing_trivial
          refine r_I (.inr ⟨by omega, by omega⟩) ?_
          decreasing_trivial
          refine r_I (.inl ⟨by decide, by decide⟩) ?_
          decreasing_trivial
          refine .inl ⟨_, rfl, ?_⟩
          decreasing_trivial
          refine r_I (by decide) ?_
          generalize hm1 : (_ : Int) % 4294967197 = mx1
          have hm1b : 0 ≤ mx1 ∧ mx1 < 4294967197 := hm1 ▸ mod_bd (by decide)
          clear hm1
          decreasing_trivial
          refine r_I (.inl ⟨by omega, by omega⟩) ?_
          decreasing_trivial
          refine r_I (.inl ⟨by decide, by decide⟩) ?_
          decreasing_trivial
          refine r_I (.inl ⟨by decide, by decide⟩) ?_
          decreasing_trivial
          refine .inl ⟨_, rfl, ?_⟩
          decreasing_trivial
          refine r_I (by decide) ?_
          generalize hm2 : (_ : Int) % 4294967189 = mx2
          have hm2b : 0 ≤ mx2 ∧ mx2 < 4294967189 := hm2 ▸ mod_bd (by decide)
          clear hm2
          decreasing_trivial
          refine r_I (.inl ⟨by omega, by omega⟩) ?_
          decreasing_trivial
          refine .inl ⟨_, rfl, ?_⟩
          decreasing_trivial
          refine r_I (by decide) ?_
          decreasing_trivial
          refine r_I ⟨by decide, by decide⟩ ?_
          decreasing_trivial
          refine iteN (decide_eq_false (by omega)) ?_
          decreasing_trivial
          refine .inl ⟨_, rfl, ?_⟩
          decreasing_trivial
          refine r_I hm0 ?_
          exact q _ _ e4 ((hpen4).less (by omega)) (hmb _).1 (hmb _).2
      · decreasing_trivial
        refine r_dget1 (k := .inr "cells") (.inl hp4) rfl (pen_cells _ _ _) ?_
        decreasing_trivial
        refine ⟨a, _, rfl, .inl (SqL.of ha4), ?_⟩
        rw [List.length_map]
        decreasing_trivial
        refine iteD (fun eu => ?_) (fun eu => ?_)
        · decreasing_trivial
          refine ⟨_, rfl, ?_⟩
          decreasing_trivial
          refine r_I ⟨by decide, by decide, by decide⟩ ?_
          decreasing_trivial
          refine iteD (fun eb => ?_) (fun eb => ?_)
          · decreasing_trivial
            refine ⟨_, rfl, ?_⟩
            decreasing_trivial
            refine r_I ⟨by decide, by decide, by decide⟩ ?_
            decreasing_trivial
            refine r_I (hdiv _) ?_
            decreasing_trivial
            refine r_dput1 (k := .inr "left") hp4 (by show 3 < sizeLine; decide) ?_
            rw [pen_put_left]
            decreasing_trivial
            refine ⟨_, rfl, ?_⟩
            decreasing_trivial
            refine r_I ⟨by decide, by decide, by decide⟩ ?_
            decreasing_trivial
            refine r_I hm0 ?_
            have hx0 := of_decide_eq_true eb
            refine q _ _ (e4.trans (Fm.pen hp4)) ⟨u + 1, _, upd_same, (upd_ne pa.symm).trans ha4, hL, by omega, by omega, Int.ediv_nonneg (by omega) (by omega)⟩ (hmb _).1 (hmb _).2
          · decreasing_trivial
            refine .inl ⟨_, rfl, ?_⟩
            decreasing_trivial
            refine r_I (by decide) ?_
            decreasing_trivial
            refine r_I (.inr ⟨by decide, by decide⟩) ?_
            decreasing_trivial
            refine r_I (.inl ⟨by decide, by decide⟩) ?_
            decreasing_trivial
            refine r_I (.inr ⟨by omega, by omega⟩) ?_
            decreasing_trivial
            refine r_I (.inl ⟨by decide, by decide⟩) ?_
            decreasing_trivial
            refine .inl ⟨_, rfl, ?_⟩
            decreasing_trivial
            refine r_I (by decide) ?_
            generalize hm1 : (_ : Int) % 4294967197 = mx1
            have hm1b : 0 ≤ mx1 ∧ mx1 < 4294967197 := hm1 ▸ mod_bd (by decide)
            clear hm1
            decreasing_trivial
            refine r_I (.inl ⟨by omega, by omega⟩) ?_
            decreasing_trivial
            refine r_I (.inl ⟨by decide, by decide⟩) ?_
            decreasing_trivial
            refine r_I (.inl ⟨by decide, by decide⟩) ?_
            decreasing_trivial
            refine .inl ⟨_, rfl, ?_⟩
            decreasing_trivial
            refine r_I (by decide) ?_
            generalize hm2 : (_ : Int) % 4294967189 = mx2
            have hm2b : 0 ≤ mx2 ∧ mx2 < 4294967189 := hm2 ▸ mod_bd (by decide)
            clear hm2
            decreasing_trivial
            refine r_I (.inl ⟨by omega, by omega⟩) ?_
            decreasing_trivial
            refine .inl ⟨_, rfl, ?_⟩
            decreasing_trivial
            refine r_I (by decide) ?_
            decreasing_trivial
            refine r_I ⟨by decide, by decide⟩ ?_
            decreasing_trivial
            refine iteN (decide_eq_false (by omega)) ?_
            decreasing_trivial
            refine .inl ⟨_, rfl, ?_⟩
            decreasing_trivial
            refine r_I hm0 ?_
            exact q _ _ e4 ((hpen4).less (by omega)) (hmb _).1 (hmb _).2
        · decreasing_trivial
          refine .inl ⟨_, rfl, ?_⟩
          decreasing_trivial
          refine r_I (by decide) ?_
          decreasing_trivial
          refine r_I (.inr ⟨by decide, by decide⟩) ?_
          decreasing_trivial
          refine r_I (.inl ⟨by decide, by decide⟩) ?_
          decreasing_trivial
          refine r_I (.inr ⟨by omega, by omega⟩) ?_
          decreasing_trivial
          refine r_I (.inl ⟨by decide, by decide⟩) ?_
          decreasing_trivial
          refine .inl ⟨_, rfl, ?_⟩
          decreasing_trivial
          refine r_I (by decide) ?_
          generalize hm1 : (_ : Int) % 4294967197 = mx1
          have hm1b : 0 ≤ mx1 ∧ mx1 < 4294967197 := hm1 ▸ mod_bd (by decide)
          clear hm1
          decreasing_trivial
          refine r_I (.inl ⟨by omega, by omega⟩) ?_
          decreasing_trivial
          refine r_I (.inl ⟨by decide, by decide⟩) ?_
          decreasing_trivial
          refine r_I (.inl ⟨by decide, by decide⟩) ?_
          decreasing_trivial
          refine .inl ⟨_, rfl, ?_⟩
          decreasing_trivial
          refine r_I (by decide) ?_
          generalize hm2 : (_ : Int) % 4294967189 = mx2
          have hm2b : 0 ≤ mx2 ∧ mx2 < 4294967189 := hm2 ▸ mod_bd (by decide)
          clear hm2
          decreasing_trivial
          refine r_I (.inl ⟨by omega, by omega⟩) ?_
          decreasing_trivial
          refine .inl ⟨_, rfl, ?_⟩
          decreasing_trivial
          refine r_I (by decide) ?_
          decreasing_trivial
          refine r_I ⟨by decide, by decide⟩ ?_
          decreasing_trivial
          refine iteN (decide_eq_false (by omega)) ?_
          decreasing_trivial
          refine .inl ⟨_, rfl, ?_⟩
          decreasing_trivial
          refine r_I hm0 ?_
          exact q _ _ e4 ((hpen4).less (by omega)) (hmb _).1 (hmb _).2
  · refine ⟨_, (pss_cons (ps_if (pt_cmpR op_gt (pe_dget hu (pv 0) pe_str (fun _ _ => rfl)) pe_int (nomark _)) (pss_cons (ps_set (i := 2) sc.nd rfl (by first | exact Or.inl rfl | exact Or.inr rfl) (pe_op op_mod (pe_callTy call_int1 (by rfl) T.f_int (by decide +kernel) (pa_cons (pe_dget hu (pv 0) pe_str (fun _ _ => rfl)) pa_nil)) (pv 1)))
  (pss_cons (ps_dput hu (pv 0) pe_str (pe_op op_fdivW (pe_dget hu (pv 0) pe_str (fun _ _ => rfl)) (pv 1)) rfl)
  (pss_one (ps_ret (pv 2))))) pss_nil)
  (pss_cons (ps_set (i := 3) sc.nd rfl (by first | exact Or.inl rfl | exact Or.inr rfl) (pe_dget hu (pv 0) pe_str (fun _ _ => rfl)))
  (pss_cons (ps_dput hu (pv 0) pe_str (pe_op op_add (pv 3) pe_int) rfl)
  (pss_cons (ps_set (i := 4) sc.nd rfl (by first | exact Or.inl rfl | exact Or.inr rfl) (pe_op op_add (pe_op op_mul pe_int (pv 3)) pe_int))
  (pss_cons (ps_if (pt_cmpR (op_neDK K hu64) (pe_dget hu (pv 0) pe_str (fun _ _ => rfl)) (pe_lst pa_nil) (nomark _)) (pss_one (ps_set (i := 4) sc.nd rfl (by first | exact Or.inl rfl | exact Or.inr rfl) (pe_ix (ix_listK K) (pe_dget hu (pv 0) pe_str (fun _ _ => rfl)) (pe_op op_mod (pe_callTy call_int1 (by rfl) T.f_int (by decide +kernel) (pa_cons (pv 3) pa_nil)) (pe_callB (call_len_seqK K) (by rfl) T.f_len PySem.boot_len (pa_cons (pe_dget hu (pv 0) pe_str (fun _ _ => rfl)) pa_nil))) (fun _ _ => rfl)))) pss_nil)
  (pss_cons (ps_if (PW.pt (pw_and (pt_cmpR op_lt (pv 3) (pe_callB (call_len_seqK K) (by rfl) T.f_len PySem.boot_len (pa_cons (pe_dget hu (pv 0) pe_str (fun _ _ => rfl)) pa_nil)) (nomark _)) (pw_and1 (pt_cmpR op_ge (pe_callB call_abs (by rfl) T.f_abs (by decide +kernel) (pa_cons (pv 4) pa_nil)) (pe_op op_pow pe_int pe_int) (nomark _))))) (pss_cons (ps_dput hu (pv 0) pe_str (pe_op op_fdivW (pe_op op_sub (pe_callB call_abs (by rfl) T.f_abs (by decide +kernel) (pa_cons (pv 4) pa_nil)) (pe_op op_pow pe_int pe_int)) (pv 1)) rfl)
  (pss_one (ps_ret (pe_op op_mod (pe_op op_sub (pe_callB call_abs (by rfl) T.f_abs (by decide +kernel) (pa_cons (pv 4) pa_nil)) (pe_op op_pow pe_int pe_int)) (pv 1))))) pss_nil)
  (pss_cons (ps_set (i := 5) sc.nd rfl (by first | exact Or.inl rfl | exact Or.inr rfl) (pe_op op_add (pe_op op_mul (pe_op op_mod (pe_callTy call_int1 (by rfl) T.f_int (by decide +kernel) (pa_cons (pv 4) pa_nil)) pe_int) pe_int) (pe_op op_mul (pe_op op_mul pe_int (pv 3)) (pv 3))))
  (pss_cons (ps_set (i := 5) sc.nd rfl (by first | exact Or.inl rfl | exact Or.inr rfl) (pe_op op_mod (pe_callTy call_int1 (by rfl) T.f_int (by decide +kernel) (pa_cons (pe_op op_add (pe_op op_add (pv 5) (pe_op op_mul pe_int (pv 3))) pe_int) pa_nil)) pe_int))
  (pss_cons (ps_set (i := 5) sc.nd rfl (by first | exact Or.inl rfl | exact Or.inr rfl) (pe_op op_mod (pe_callTy call_int1 (by rfl) T.f_int (by decide +kernel) (pa_cons (pe_op op_add (pe_op op_add (pe_op op_add (pe_op op_mul (pv 5) (pv 5)) (pe_op op_mul pe_int (pv 5))) (pe_op op_mul pe_int (pv 3))) pe_int) pa_nil)) pe_int))
  (pss_cons (ps_set (i := 5) sc.nd rfl (by first | exact Or.inl rfl | exact Or.inr rfl) (pe_op op_fdivW (pe_op op_mod (pe_callTy call_int1 (by rfl) T.f_int (by decide +kernel) (pa_cons (pe_op op_mul (pv 5) (pe_op op_add (pv 5) pe_int)) pa_nil)) pe_int) pe_int))
  (pss_cons (ps_if (pt_cmpR op_gt (pv 1) pe_int (nomark _)) (pss_one (ps_set (i := 5) sc.nd rfl (by first | exact Or.inl rfl | exact Or.inr rfl) (pe_op op_add (pv 5) (pe_op op_mul pe_int (pe_df D_law_draw hr rfl (pa_cons (pv 0) (pa_cons (pe_op op_add (pe_op op_fdivW (pv 1) pe_int) pe_int) pa_nil))))))) pss_nil)
  (pss_one (ps_ret (pe_op op_mod (pe_callTy call_int1 (by rfl) T.f_int (by decide +kernel) (pa_cons (pv 5) pa_nil)) (pv 1))))))))))))))), ?_⟩
    decreasing_trivial
    refine r_dget1 (k := .inr "left") (.inl hp1) rfl (pen_left _ _ _) ?_
    decreasing_trivial
    refine iteD (fun e => ?_) (fun e => ?_)
    · decreasing_trivial
      refine r_dget1 (k := .inr "left") (.inl hp1) rfl (pen_left _ _ _) ?_
      decreasing_trivial
      refine .inl ⟨_, rfl, ?_⟩
      decreasing_trivial
      refine r_I hm0 ?_
      decreasing_trivial
      refine r_dget1 (k := .inr "left") (.inl hp1) rfl (pen_left _ _ _) ?_
      decreasing_trivial
      refine r_I (hdiv _) ?_
      decreasing_trivial
      refine r_dput1 (k := .inr "left") hp1 (by show 3 < sizeLine; decide) ?_
      rw [pen_put_left]
      decreasing_trivial
      exact q _ _ (Fm.pen hp1) ⟨u, _, upd_same, (upd_ne pa.symm).trans hp2, hL, hu0, by omega, Int.ediv_nonneg (by omega) (by omega)⟩ (hmb _).1 (hmb _).2
    · decreasing_trivial
      refine r_dget1 (k := .inr "used") (.inl hp1) rfl (pen_used _ _ _) ?_
      decreasing_trivial
      refine r_dput1 (k := .inr "used") hp1 (by show 3 < sizeLine; decide) ?_
      rw [pen_put_used]
      have e2 : Fr G H (upd H p (.dK (penK a (u + 1) l))) := Fm.pen hp1
      have hp3 : upd H p (.dK (penK a (u + 1) l)) p = some (.dK (penK a (u + 1) l)) := upd_same
      have ha3 : upd H p (.dK (penK a (u + 1) l)) a = some (.lst (L.map V.int)) := (upd_ne pa.symm).trans hp2
      generalize upd H p (.dK (penK a (u + 1) l)) = H3 at *
      decreasing_trivial
      refine r_I (.inl ⟨by decide, by decide⟩) ?_
      decreasing_trivial
      refine r_dget1 (k := .inr "cells") (.inl hp3) rfl (pen_cells _ _ _) ?_
      decreasing_trivial
      refine ⟨by show 0 ≤ sizeLine; omega, fun l0 hl0 => ?_⟩
      have e3 : Fs G H3 (upd H3 l0 (.lst [])) := Fm.new hl0
      have e4 : Fr G H (upd H3 l0 (.lst [])) := e2.trans e3.weak
      have hp4 : upd H3 l0 (.lst []) p = some (.dK (penK a (u + 1) l)) := (upd_ne (ne_of_none hp3 hl0)).trans hp3
      have ha4 := e3.lst ha3
      have hpen4 : Pen (upd H3 l0 (.lst [])) ⟨p, a, L⟩ (b + c) := ⟨u + 1, l, hp4, ha4, hL, by omega, by omega, hl0'⟩
      have hl4 : upd H3 l0 (.lst []) l0 = some (.lst []) := upd_same
      generalize upd H3 l0 (.lst []) = H4 at *
      refine r_neE ha4 hl4 (plain_all fun x hx => by
        obtain ⟨i, _, rfl⟩ := List.mem_map.mp hx
        exact plain_int i) ?_
      decreasing_trivial
      refine iteD (fun en => ?_) (fun en => ?_)
      · have hne : 0 < L.length := by
          cases L with
          | nil => cases en
          | cons _ _ => exact Nat.succ_pos _
        decreasing_trivial
        refine r_dget1 (k := .inr "cells") (.inl hp4) rfl (pen_cells _ _ _) ?_
        decreasing_trivial
        refine .inl ⟨_, rfl, ?_⟩
        decreasing_trivial
        refine r_dget1 (k := .inr "cells") (.inl hp4) rfl (pen_cells _ _ _) ?_
        decreasing_trivial
        refine ⟨a, _, rfl, .inl (SqL.of ha4), ?_⟩
        rw [List.length_map]
        decreasing_trivial
        refine r_I (show (0 : Int) < ((L.length : Nat) : Int) by omega) ?_
        have hix := mod_bd (x := u) (m := ((L.length : Nat) : Int)) (by omega)
        obtain ⟨j, hj⟩ : ∃ j : Nat, u % ((L.length : Nat) : Int) = ((j : Nat) : Int) := ⟨(u % ((L.length : Nat) : Int)).toNat, by omega⟩
        rw [hj] at hix ⊢
        have hjl : j < L.length := by omega
        refine r_ixN (SqL.of ha4) (show (L.map V.int)[j]? = some (.int L[j]) by rw [List.getElem?_map, List.getElem?_eq_getElem hjl]; rfl) ?_
        generalize L[j] = cl
        decreasing_trivial
        refine r_dget1 (k := .inr "cells") (.inl hp4) rfl (pen_cells _ _ _) ?_
        decreasing_trivial
        refine ⟨a, _, rfl, .inl (SqL.of ha4), ?_⟩
        rw [List.length_map]
        decreasing_trivial
        refine iteD (fun eu => ?_) (fun eu => ?_)
        · decreasing_trivial
          refine ⟨_, rfl, ?_⟩
          decreasing_trivial
          refine r_I ⟨by decide, by decide, by decide⟩ ?_
          decreasing_trivial
          refine iteD (fun eb => ?_) (fun eb => ?_)
          · decreasing_trivial
            refine ⟨_, rfl, ?_⟩
            decreasing_trivial
            refine r_I ⟨by decide, by decide, by decide⟩ ?_
            decreasing_trivial
            refine r_I (hdiv _) ?_
            decreasing_trivial
            refine r_dput1 (k := .inr "left") hp4 (by show 3 < sizeLine; decide) ?_
            rw [pen_put_left]
            decreasing_trivial
            refine ⟨_, rfl, ?_⟩
            decreasing_trivial
            refine r_I ⟨by decide, by decide, by decide⟩ ?_
            decreasing_trivial
            refine r_I hm0 ?_
            have hx0 := of_decide_eq_true eb
            refine q _ _ (e4.trans (Fm.pen hp4)) ⟨u + 1, _, upd_same, (upd_ne pa.symm).trans ha4, hL, by omega, by omega, Int.ediv_nonneg (by omega) (by omega)⟩ (hmb _).1 (hmb _).2
          · decreasing_trivial
            refine .inl ⟨_, rfl, ?_⟩
            decreasing_trivial
            refine r_I (by decide) ?_
            decreasing_trivial
            refine r_I (.inr ⟨by decide, by decide⟩) ?_
            decreasing_trivial
            refine r_I (.inl ⟨by decide, by decide⟩) ?_
            decreasing_trivial
            refine r_I (.inr ⟨by omega, by omega⟩) ?_
            decreasing_trivial
            refine r_I (.inl ⟨by decide, by decide⟩) ?_
            decreasing_trivial
            refine .inl ⟨_, rfl, ?_⟩
            decreasing_trivial
            refine r_I (by decide) ?_
            generalize hm1 : (_ : Int) % 4294967197 = mx1
            have hm1b : 0 ≤ mx1 ∧ mx1 < 4294967197 := hm1 ▸ mod_bd (by decide)
            clear hm1
            decreasing_trivial
            refine r_I (.inl ⟨by omega, by omega⟩) ?_
            decreasing_trivial
            refine r_I (.inl ⟨by decide, by decide⟩) ?_
            decreasing_trivial
            refine r_I (.inl ⟨by decide, by decide⟩) ?_
            decreasing_trivial
            refine .inl ⟨_, rfl, ?_⟩
            decreasing_trivial
            refine r_I (by decide) ?_
            generalize hm2 : (_ : Int) % 4294967189 = mx2
            have hm2b : 0 ≤ mx2 ∧ mx2 < 4294967189 := hm2 ▸ mod_bd (by decide)
            clear hm2
            decreasing_trivial
            refine r_I (.inl ⟨by omega, by omega⟩) ?_
            decreasing_trivial
            refine .inl ⟨_, rfl, ?_⟩
            decreasing_trivial
            refine r_I (by decide) ?_
            decreasing_trivial
            refine r_I ⟨by decide, by decide⟩ ?_
            decreasing_trivial
            refine iteD (fun eb => ?_) (fun eb => ?_)
            · decreasing_trivial
              refine r_I ⟨by decide, by decide⟩ ?_
              decreasing_trivial
              refine r_sp2 ⟨⟨p, a, L⟩, b, m / 60000000 + 1, rfl, rfl, by omega, hrec m hmM, hpen4.less (by omega), fun H5 d5 e5 p5 h50 h51 => ?_⟩
              decreasing_trivial
              refine r_I (.inl ⟨by decide, by decide⟩) ?_
              decreasing_trivial
              refine .inl ⟨_, rfl, ?_⟩
              decreasing_trivial
              refine r_I hm0 ?_
              exact q _ _ (e4.trans e5) p5 (hmb _).1 (hmb _).2
            · decreasing_trivial
              refine .inl ⟨_, rfl, ?_⟩
              decreasing_trivial
              refine r_I hm0 ?_
              exact q _ _ e4 (hpen4.less (by omega)) (hmb _).1 (hmb _).2
        · decreasing_trivial
          refine .inl ⟨_, rfl, ?_⟩
          decreasing_trivial
          refine r_I (by decide) ?_
          decreasing_trivial
          refine r_I (.inr ⟨by decide, by decide⟩) ?_
          decreasing_trivial
          refine r_I (.inl ⟨by decide, by decide⟩) ?_
          decreasing_trivial
          refine r_I (.inr ⟨by omega, by omega⟩) ?_
          decreasing_trivial
          refine r_I (.inl ⟨by decide, by decide⟩) ?_
          decreasing_trivial
          refine .inl ⟨_, rfl, ?_⟩
          decreasing_trivial
          refine r_I (by decide) ?_
          generalize hm1 : (_ : Int) % 4294967197 = mx1
          have hm1b : 0 ≤ mx1 ∧ mx1 < 4294967197 := hm1 ▸ mod_bd (by decide)
          clear hm1
          decreasing_trivial
          refine r_I (.inl ⟨by omega, by omega⟩) ?_
          decreasing_trivial
          refine r_I (.inl ⟨by decide, by decide⟩) ?_
          decreasing_trivial
          refine r_I (.inl ⟨by decide, by decide⟩) ?_
          decreasing_trivial
          refine .inl ⟨_, rfl, ?_⟩
          decreasing_trivial
          refine r_I (by decide) ?_
          generalize hm2 : (_ : Int) % 4294967189 = mx2
          have hm2b : 0 ≤ mx2 ∧ mx2 < 4294967189 := hm2 ▸ mod_bd (by decide)
          clear hm2
          decreasing_trivial
          refine r_I (.inl ⟨by omega, by omega⟩) ?_
          decreasing_trivial
          refine .inl ⟨_, rfl, ?_⟩
          decreasing_trivial
          refine r_I (by decide) ?_
          decreasing_trivial
          refine r_I ⟨by decide, by decide⟩ ?_
          decreasing_trivial
          refine iteD (fun eb => ?_) (fun eb => ?_)
          · decreasing_trivial
            refine r_I ⟨by decide, by decide⟩ ?_
            decreasing_trivial
            refine r_sp2 ⟨⟨p, a, L⟩, b, m / 60000000 + 1, rfl, rfl, by omega, hrec m hmM, hpen4.less (by omega), fun H5 d5 e5 p5 h50 h51 => ?_⟩
            decreasing_trivial
            refine r_I (.inl ⟨by decide, by decide⟩) ?_
            decreasing_trivial
            refine .inl ⟨_, rfl, ?_⟩
            decreasing_trivial
            refine r_I hm0 ?_
            exact q _ _ (e4.trans e5) p5 (hmb _).1 (hmb _).2
          · decreasing_trivial
            refine .inl ⟨_, rfl, ?_⟩
            decreasing_trivial
            refine r_I hm0 ?_
            exact q _ _ e4 (hpen4.less (by omega)) (hmb _).1 (hmb _).2
      · decreasing_trivial
        refine r_dget1 (k := .inr "cells") (.inl hp4) rfl (pen_cells _ _ _) ?_
        decreasing_trivial
        refine ⟨a, _, rfl, .inl (SqL.of ha4), ?_⟩
        rw [List.length_map]
        decreasing_trivial
        refine iteD (fun eu => ?_) (fun eu => ?_)
        · decreasing_trivial
          refine ⟨_, rfl, ?_⟩
          decreasing_trivial
          refine r_I ⟨by decide, by decide, by decide⟩ ?_
          decreasing_trivial
          refine iteD (fun eb => ?_) (fun eb => ?_)
          · decreasing_trivial
            refine ⟨_, rfl, ?_⟩
            decreasing_trivial
            refine r_I ⟨by decide, by decide, by decide⟩ ?_
            decreasing_trivial
            refine r_I (hdiv _) ?_
            decreasing_trivial
            refine r_dput1 (k := .inr "left") hp4 (by show 3 < sizeLine; decide) ?_
            rw [pen_put_left]
            decreasing_trivial
            refine ⟨_, rfl, ?_⟩
            decreasing_trivial
            refine r_I ⟨by decide, by decide, by decide⟩ ?_
            decreasing_trivial
            refine r_I hm0 ?_
            have hx0 := of_decide_eq_true eb
            refine q _ _ (e4.trans (Fm.pen hp4)) ⟨u + 1, _, upd_same, (upd_ne pa.symm).trans ha4, hL, by omega, by omega, Int.ediv_nonneg (by omega) (by omega)⟩ (hmb _).1 (hmb _).2
          · decreasing_trivial
            refine .inl ⟨_, rfl, ?_⟩
            decreasing_trivial
            refine r_I (by decide) ?_
            decreasing_trivial
            refine r_I (.inr ⟨by decide, by decide⟩) ?_
            decreasing_trivial
            refine r_I (.inl ⟨by decide, by decide⟩) ?_
            decreasing_trivial
            refine r_I (.inr ⟨by omega, by omega⟩) ?_
            decreasing_trivial
            refine r_I (.inl ⟨by decide, by decide⟩) ?_
            decreasing_trivial
            refine .inl ⟨_, rfl, ?_⟩
            decreasing_trivial
            refine r_I (by decide) ?_
            generalize hm1 : (_ : Int) % 4294967197 = mx1
            have hm1b : 0 ≤ mx1 ∧ mx1 < 4294967197 := hm1 ▸ mod_bd (by decide)
            clear hm1
            decreasing_trivial
            refine r_I (.inl ⟨by omega, by omega⟩) ?_
            decreasing_trivial
            refine r_I (.inl ⟨by decide, by decide⟩) ?_
            decreasing_trivial
            refine r_I (.inl ⟨by decide, by decide⟩) ?_
            decreasing_trivial
            refine .inl ⟨_, rfl, ?_⟩
            decreasing_trivial
            refine r_I (by decide) ?_
            generalize hm2 : (_ : Int) % 4294967189 = mx2
            have hm2b : 0 ≤ mx2 ∧ mx2 < 4294967189 := hm2 ▸ mod_bd (by decide)
            clear hm2
            decreasing_trivial
            refine r_I (.inl ⟨by omega, by omega⟩) ?_
            decreasing_trivial
            refine .inl ⟨_, rfl, ?_⟩
            decreasing_trivial
            refine r_I (by decide) ?_
            decreasing_trivial
            refine r_I ⟨by decide, by decide⟩ ?_
            decreasing_trivial
            refine iteD (fun eb => ?_) (fun eb => ?_)
            · decreasing_trivial
              refine r_I ⟨by decide, by decide⟩ ?_
              decreasing_trivial
              refine r_sp2 ⟨⟨p, a, L⟩, b, m / 60000000 + 1, rfl, rfl, by omega, hrec m hmM, hpen4.less (by omega), fun H5 d5 e5 p5 h50 h51 => ?_⟩
              decreasing_trivial
              refine r_I (.inl ⟨by decide, by decide⟩) ?_
              decreasing_trivial
              refine .inl ⟨_, rfl, ?_⟩
              decreasing_trivial
              refine r_I hm0 ?_
              exact q _ _ (e4.trans e5) p5 (hmb _).1 (hmb _).2
            · decreasing_trivial
              refine .inl ⟨_, rfl, ?_⟩
              decreasing_trivial
              refine r_I hm0 ?_
              exact q _ _ e4 (hpen4.less (by omega)) (hmb _).1 (hmb _).2
        · decreasing_trivial
          refine .inl ⟨_, rfl, ?_⟩
          decreasing_trivial
          refine r_I (by decide) ?_
          decreasing_trivial
          refine r_I (.inr ⟨by decide, by decide⟩) ?_
          decreasing_trivial
          refine r_I (.inl ⟨by decide, by decide⟩) ?_
          decreasing_trivial
          refine r_I (.inr ⟨by omega, by omega⟩) ?_
          decreasing_trivial
          refine r_I (.inl ⟨by decide, by decide⟩) ?_
          decreasing_trivial
          refine .inl ⟨_, rfl, ?_⟩
          decreasing_trivial
          refine r_I (by decide) ?_
          generalize hm1 : (_ : Int) % 4294967197 = mx1
          have hm1b : 0 ≤ mx1 ∧ mx1 < 4294967197 := hm1 ▸ mod_bd (by decide)
          clear hm1
          decreasing_trivial
          refine r_I (.inl ⟨by omega, by omega⟩) ?_
          decreasing_trivial
          refine r_I (.inl ⟨by decide, by decide⟩) ?_
          decreasing_trivial
          refine r_I (.inl ⟨by decide, by decide⟩) ?_
          decreasing_trivial
          refine .inl ⟨_, rfl, ?_⟩
          decreasing_trivial
          refine r_I (by decide) ?_
          generalize hm2 : (_ : Int) % 4294967189 = mx2
          have hm2b : 0 ≤ mx2 ∧ mx2 < 4294967189 := hm2 ▸ mod_bd (by decide)
          clear hm2
          decreasing_trivial
          refine r_I (.inl ⟨by omega, by omega⟩) ?_
          decreasing_trivial
          refine .inl ⟨_, rfl, ?_⟩
          decreasing_trivial
          refine r_I (by decide) ?_
          decreasing_trivial
          refine r_I ⟨by decide, by decide⟩ ?_
          decreasing_trivial
          refine iteD (fun eb => ?_) (fun eb => ?_)
          · decreasing_trivial
            refine r_I ⟨by decide, by decide⟩ ?_
            decreasing_trivial
            refine r_sp2 ⟨⟨p, a, L⟩, b, m / 60000000 + 1, rfl, rfl, by omega, hrec m hmM, hpen4.less (by omega), fun H5 d5 e5 p5 h50 h51 => ?_⟩
            decreasing_trivial
            refine r_I (.inl ⟨by decide, by decide⟩) ?_
            decreasing_trivial
            refine .inl ⟨_, rfl, ?_⟩
            decreasing_trivial
            refine r_I hm0 ?_
            exact q _ _ (e4.trans e5) p5 (hmb _).1 (hmb _).2
          · decreasing_trivial
            refine .inl ⟨_, rfl, ?_⟩
            decreasing_trivial
            refine r_I hm0 ?_
            exact q _ _ e4 (hpen4.less (by omega)) (hmb _).1 (hmb _).2
theorem d_law_draw (T : Txt K mg C) : Df P w K mg base "_law_draw" 4 (spDraw G 10000000000000000000000000000000 4) := by
  have D1 : Df P w K mg base "_law_draw" 1 (spDraw G 60000000 1) := draw_any (M := 0) (c := 0) (k := 0) T (by decide) (.inl (by decide))
  have D2 : Df P w K mg base "_law_draw" 2 (spDraw G 3599999940000000 2) := draw_any T (by decide) (.inr ⟨D1, fun m h => by omega⟩)
  have D3 : Df P w K mg base "_law_draw" 3 (spDraw G 215999996399999940000000 3) := draw_any T (by decide) (.inr ⟨D2, fun m h => by omega⟩)
  have D4 : Df P w K mg base "_law_draw" 4 (spDraw G 12959999783999996399999940000000 4) := draw_any T (by decide) (.inr ⟨D3, fun m h => by omega⟩)
  refine D4.imp fun vs H Q E h => ?_
  obtain ⟨x, y, rfl, p, b, m, h1, h2, h3, h4, h5⟩ := h
  exact ⟨x, y, rfl, p, b, m, h1, h2, h3, by omega, h5⟩
end
end Hy
namespace Hy
open PySem PySem.Spec PyProof.Rows L2
local macro_rules | `(tactic| decreasing_trivial) => `(tactic| ((try (with_reducible conv => whnf)); repeat (first
    | with_reducible refine iteT ?_
    | with_reducible refine iteF ?_
    | with_reducible refine iteNT ?_
    | with_reducible refine iteNF ?_
    | with_reducible refine r_isi_int ?_
    | with_reducible refine r_isi_bool ?_
    | with_reducible refine r_isi_str ?_
    | with_reducible refine r_eqN ?_
    | with_reducible refine r_neN ?_
    | with_reducible refine r_eqS ?_
    | with_reducible refine r_neS ?_
    | with_reducible refine r_seq ?_
    | with_reducible refine r_asg ?_
    | with_reducible refine r_gname ?_
    | with_reducible refine r_ret ?_
    | with_reducible refine r_drop ?_
    | with_reducible refine r_next ?_
    | with_reducible refine r_op ?_
    | with_reducible refine r_var (by with_unfolding_all exact rfl) ?_
    | with_reducible refine r_c ?_
    | with_reducible refine r_cons ?_
    | with_reducible refine r_nil ?_
    | with_reducible refine r_un ?_
    | with_reducible refine r_I0 ?_
    | with_reducible refine r_U ?_
    | with_reducible refine r_df ?_
    | with_reducible refine r_cb ?_
    | with_reducible refine r_ifS ?_
    | with_reducible refine r_ifE ?_
    | with_reducible refine r_test ?_
    | with_reducible refine r_B ?_
    | with_reducible refine r_tand ?_
    | with_reducible refine r_tor ?_
    | with_reducible refine r_tnot ?_
    | with_reducible refine r_andV ?_
    | with_reducible refine r_orV ?_
    | with_reducible refine r_notV ?_
    | with_reducible refine r_blif ?_
    | with_reducible refine r_bl ?_
    | with_reducible refine r_chain ?_
    | with_reducible refine r_tup ?_
    | with_reducible refine r_lst ?_
    | with_reducible refine r_fld ?_
    | with_reducible refine r_dget ?_
    | with_reducible refine r_din ?_
    | with_reducible refine r_pt ?_
    | with_reducible refine r_mt ?_
    | with_reducible refine r_iEnumS ?_
    | with_reducible refine r_bm ?_
    | with_reducible refine r_iStr ?_
    | with_reducible refine r_lcT ?_
    | with_reducible refine r_dcT ?_
    | with_reducible refine r_iList ?_
    | with_reducible refine r_iTup ?_
    | with_reducible refine r_iRng1 ?_
    | with_reducible refine r_iRng2 ?_
    | with_reducible refine r_iEnum ?_
    | with_reducible refine r_iZip ?_
    | with_reducible refine r_iKeys ?_
    | with_reducible refine r_iItems ?_
    | with_reducible refine r_iVals ?_
    | with_reducible refine r_lstRg ?_
    | with_reducible refine r_rg1 ?_
    | with_reducible refine r_sortDf ?_
    | with_reducible refine r_bits ?_
    | with_reducible refine r_forT ?_
    | with_reducible refine r_augS ?_
    | with_reducible refine r_gsub ?_
    | with_reducible refine r_bm0 ?_
    | with_reducible refine r_sortLam ?_
    | with_reducible refine r_sfld ?_
    | with_reducible refine r_dput ?_
    | with_reducible refine r_dnewK ?_
    | with_reducible refine r_mk ?_
    | with_reducible refine r_con ?_
    | with_reducible refine r_lockS ?_
    | with_reducible refine r_sl ?_
    | with_reducible refine r_part ?_
    | with_reducible refine r_nopart ?_
    | with_reducible refine r_dget2 ?_
    | with_reducible refine r_isN ?_
    | with_reducible refine r_notN ?_
    | with_reducible refine r_par ?_
    | with_reducible refine r_par2 ?_
    | with_reducible refine r_yes ?_
    | with_reducible refine r_scT ?_)))
section
variable {P : Program} {w : World} {K : PySem.W.Frag} {mg : Str → Option Value} {base : Heap} {C : Ad} {G : List (Addr × Str)}
theorem sc_law_pick : FnScope ["_law_pen_here", "_law_some"] ["_law_pen_here", "_law_some"] (defScope (top 87)) := ⟨rfl, rfl, rfl, by decide +kernel, rfl, by decide +kernel, by decide +kernel⟩
theorem d_law_pick (T : Txt K mg C) (D_law_draw : Df P w K mg base "_law_draw" 4 (spDrw G)) : Df P w K mg base "_law_pick" 5 (spPick G) := by
  have sc := sc_law_pick
  refine FnT.df (T.fn ("_law_pick", 87) (by decide)) sc len2 (fun _ _ _ _ _ _ us hl => match us, hl with | [_, _], _ => rfl) (fun f cdv A outer s H vs Q E hr h => ?_)
  have hu := hu_of hr
  have hu64 := hr.units
  have hu0 := Nat.lt_of_succ_lt hu
  obtain ⟨x1, x2, rfl, h⟩ := h
  refine ⟨_, (pss_one (ps_ret (pe_ix (ix_listK K) (pv 1) (pe_df D_law_draw (hr.mono (by decide)) rfl (pa_cons (pv 0) (pa_cons (pe_callB (call_len_seqK K) (by rfl) T.f_len PySem.boot_len (pa_cons (pv 1) pa_nil)) pa_nil))) (fun _ _ => rfl)))), ?_⟩
  obtain ⟨p, b, a, xs, rfl, rfl, ha, hne, hlen, hp, q⟩ := h
  have hl : 0 < xs.length := List.length_pos_iff.mpr hne
  decreasing_trivial
  refine ⟨a, xs, rfl, .inl (SqL.of ha), ?_⟩
  decreasing_trivial
  refine r_sp2 ⟨p, b, ((xs.length : Nat) : Int), rfl, rfl, by omega, by omega, hp, fun H1 d e1 hp1 h0 h1 => ?_⟩
  obtain ⟨j, rfl⟩ : ∃ j : Nat, d = ((j : Nat) : Int) := ⟨d.toNat, by omega⟩
  have hj : j < xs.length := by omega
  refine r_ixN (SqL.of (e1.lst ha)) (List.getElem?_eq_getElem hj) ?_
  exact q _ _ e1 hp1 (List.getElem_mem hj)
end
end Hy
namespace Hy
open PySem PySem.Spec PyProof.Rows L2
local macro_rules | `(tactic| decreasing_trivial) => `(tactic| ((try (with_reducible conv => whnf)); repeat (first
    | with_reducible refine iteT ?_
    | with_reducible refine iteF ?_
    | with_reducible refine iteNT ?_
    | with_reducible refine iteNF ?_
    | with_reducible refine r_isi_int ?_
    | with_reducible refine r_isi_bool ?_
    | with_reducible refine r_isi_str ?_
    | with_reducible refine r_eqN ?_
    | with_reducible refine r_neN ?_
    | with_reducible refine r_eqS ?_
    | with_reducible refine r_neS ?_
    | with_reducible refine r_seq ?_
    | with_reducible refine r_asg ?_
    | with_reducible refine r_gname ?_
    | with_reducible refine r_ret ?_
    | with_reducible refine r_drop ?_
    | with_reducible refine r_next ?_
    | with_reducible refine r_op ?_
    | with_reducible refine r_var (by with_unfolding_all exact rfl) ?_
    | with_reducible refine r_c ?_
    | with_reducible refine r_cons ?_
    | with_reducible refine r_nil ?_
    | with_reducible refine r_un ?_
    | with_reducible refine r_I0 ?_
    | with_reducible refine r_U ?_
    | with_reducible refine r_df ?_
    | with_reducible refine r_cb ?_
    | with_reducible refine r_ifS ?_
    | with_reducible refine r_ifE ?_
    | with_reducible refine r_test ?_
    | with_reducible refine r_B ?_
    | with_reducible refine r_tand ?_
    | with_reducible refine r_tor ?_
    | with_reducible refine r_tnot ?_
    | with_reducible refine r_andV ?_
    | with_reducible refine r_orV ?_
    | with_reducible refine r_notV ?_
    | with_reducible refine r_blif ?_
    | with_reducible refine r_bl ?_
    | with_reducible refine r_chain ?_
    | with_reducible refine r_tup ?_
    | with_reducible refine r_lst ?_
    | with_reducible refine r_fld ?_
    | with_reducible refine r_dget ?_
    | with_reducible refine r_din ?_
    | with_reducible refine r_pt ?_
    | with_reducible refine r_mt ?_
    | with_reducible refine r_iEnumS ?_
    | with_reducible refine r_bm ?_
    | with_reducible refine r_iStr ?_
    | with_reducible refine r_lcT ?_
    | with_reducible refine r_dcT ?_
    | with_reducible refine r_iList ?_
    | with_reducible refine r_iTup ?_
    | with_reducible refine r_iRng1 ?_
    | with_reducible refine r_iRng2 ?_
    | with_reducible refine r_iEnum ?_
    | with_reducible refine r_iZip ?_
    | with_reducible refine r_iKeys ?_
    | with_reducible refine r_iItems ?_
    | with_reducible refine r_iVals ?_
    | with_reducible refine r_lstRg ?_
    | with_reducible refine r_rg1 ?_
    | with_reducible refine r_sortDf ?_
    | with_reducible refine r_bits ?_
    | with_reducible refine r_forT ?_
    | with_reducible refine r_augS ?_
    | with_reducible refine r_gsub ?_
    | with_reducible refine r_bm0 ?_
    | with_reducible refine r_sortLam ?_
    | with_reducible refine r_sfld ?_
    | with_reducible refine r_dput ?_
    | with_reducible refine r_dnewK ?_
    | with_reducible refine r_mk ?_
    | with_reducible refine r_con ?_
    | with_reducible refine r_lockS ?_
    | with_reducible refine r_sl ?_
    | with_reducible refine r_part ?_
    | with_reducible refine r_nopart ?_
    | with_reducible refine r_dget2 ?_
    | with_reducible refine r_isN ?_
    | with_reducible refine r_notN ?_
    | with_reducible refine r_par ?_
    | with_reducible refine r_par2 ?_
    | with_reducible refine r_yes ?_
    | with_reducible refine r_scT ?_)))
section
variable {P : Program} {w : World} {K : PySem.W.Frag} {mg : Str → Option Value} {base : Heap} {C : Ad} {G : List (Addr × Str)}
theorem sc_law_shuffled : FnScope ["_law_pen_here", "_law_items", "_law_left", "_law_found"] ["_law_pen_here", "_law_items"] (defScope (top 88)) := ⟨rfl, rfl, rfl, by decide +kernel, rfl, by decide +kernel, by decide +kernel⟩

theorem erase_perm {α : Type} : ∀ {xs : List α} {j : Nat} (h : j < xs.length) (zs : List α), (xs.eraseIdx j ++ (zs ++ [xs[j]])).Perm (xs ++ zs)
  | x :: xs, 0, _, zs => by
    show (xs ++ (zs ++ [x])).Perm (x :: xs ++ zs)
    rw [← List.append_assoc]
    exact List.perm_append_singleton x (xs ++ zs)
  | x :: xs, j + 1, h, zs => List.Perm.cons x (erase_perm (xs := xs) (j := j) (by simpa using h) zs)
theorem shuf_loop {p : PenI} {l1 l2 : Addr} {v1 : Option V} {b : Nat} {xs : List V} {D : Ends} {H H1 : Hp} (e0 : Fr G H H1) (n1 : NwR G H l1) (n2 : NwR G H l2) (n12 : l1 ≠ l2) (h1 : H1 l1 = some (.lst xs)) (h2 : H1 l2 = some (.lst [])) (hp00 : Pen H p (b + 4 * xs.length)) (hpen : Pen H1 p (b + 4 * xs.length)) (hlen : xs.length ≤ 64)
    (hpl : ∀ H', Fr G H H' → ∀ v ∈ xs, Plain K H' v) (hD : ∀ H' ys, Fr G H H' → Pen H' p b → ys.Perm xs → H' l2 = some (.lst ys) → D.nx [some (.ref p.p), v1, some (.ref l1), some (.ref l2)] H') :
    tWhile (tTest (tOp (rNeD K) (tVar 2) (tLst tNil))) (tDrop (tBM K "list" rAppend (tVar 3) (tCons (tBM K "list" rPopAt (tVar 2) (tCons (tDf (spDrw G) (tCons (tVar 0) (tCons (tCB (rLenSeq K) (tCons (tVar 2) tNil)) tNil))) tNil)) tNil))) D [some (.ref p.p), v1, some (.ref l1), some (.ref l2)] H1 := by
  refine ⟨fun m σ H' => σ = [some (.ref p.p), v1, some (.ref l1), some (.ref l2)] ∧ Fr G H H' ∧ ∃ xs1 xs2, H' l1 = some (.lst xs1) ∧ H' l2 = some (.lst xs2) ∧ (xs1 ++ xs2).Perm xs ∧ xs1.length = m ∧ Pen H' p (b + 4 * xs1.length), ⟨xs.length, rfl, e0, xs, [], h1, h2, by rw [List.append_nil], rfl, hpen⟩, fun m σ H2 hW => ?_⟩
  obtain ⟨rfl, e2, xs1, xs2, g1, g2, hperm, rfl, hp2⟩ := hW
  have hl12 := hperm.length_eq
  rw [List.length_append] at hl12
  decreasing_trivial
  refine ⟨by show 0 ≤ sizeLine; omega, fun l0 hl0 => ?_⟩
  have e3 : Fs G H2 (upd H2 l0 (.lst [])) := Fm.new hl0
  have e03 := e2.trans e3.weak
  have g13 := e3.lst g1
  have g23 := e3.lst g2
  have hp3 := hp2.mono e3
  have hl03 : upd H2 l0 (.lst []) l0 = some (.lst []) := upd_same
  generalize upd H2 l0 (.lst []) = H3 at *
  refine r_neE g13 hl03 (plain_all fun x hx => hpl _ e03 x (hperm.mem_iff.mp (List.mem_append_left _ hx))) ?_
  decreasing_trivial
  cases xs1 with
  | nil =>
    refine iteN rfl ?_
    exact hD _ xs2 e03 hp3 (by simpa using hperm) g23
  | cons y ys1 =>
    refine iteE rfl ?_
    refine ⟨fun σ' H' => ∃ m', m' < (y :: ys1).length ∧ (σ' = [some (.ref p.p), v1, some (.ref l1), some (.ref l2)] ∧ Fr G H H' ∧ ∃ xs1 xs2, H' l1 = some (.lst xs1) ∧ H' l2 = some (.lst xs2) ∧ (xs1 ++ xs2).Perm xs ∧ xs1.length = m' ∧ Pen H' p (b + 4 * xs1.length)), fun _ _ z => z, ?_⟩
    have hlen1 : (y :: ys1).length = ys1.length + 1 := rfl
    decreasing_trivial
    refine ⟨.inl ⟨rfl, _, SqL.of g23⟩, ?_⟩
    decreasing_trivial
    refine ⟨.inl ⟨rfl, _, SqL.of g13⟩, ?_⟩
    decreasing_trivial
    refine ⟨l1, _, rfl, .inl (SqL.of g13), ?_⟩
    decreasing_trivial
    refine r_sp2 ⟨p, b + 4 * ys1.length, (((y :: ys1).length : Nat) : Int), rfl, rfl, by omega, by omega, hp3.less (by omega), fun H4 d e4 hp4 h0 hd => ?_⟩
    obtain ⟨j, rfl⟩ : ∃ j : Nat, d = ((j : Nat) : Int) := ⟨d.toNat, by omega⟩
    have hj : j < (y :: ys1).length := by omega
    have g14 := e4.lst g13
    have g24 := e4.lst g23
    have e04 := e03.trans e4
    decreasing_trivial
    refine ⟨l1, _, ((j : Nat) : Int), j, (y :: ys1)[j], rfl, rfl, g14, by omega, by omega, seqIndex_of (by omega) (by omega), List.getElem?_eq_getElem hj, ?_⟩
    decreasing_trivial
    have g25 : upd H4 l1 (.lst ((y :: ys1).eraseIdx j)) l2 = some (.lst xs2) := (upd_ne n12.symm).trans g24
    refine ⟨l2, xs2, _, rfl, rfl, g25, Nat.lt_of_le_of_lt (show xs2.length ≤ 1000 by omega) (by decide), ?_⟩
    decreasing_trivial
    have e05 := e04.edit (o := .lst ((y :: ys1).eraseIdx j)) n1 g14 rfl
    have hel : ((y :: ys1).eraseIdx j).length = ys1.length := by
      rw [List.length_eraseIdx, if_pos hj]
      rfl
    obtain ⟨u0, w0, j1, j2, _⟩ := hp00
    have na1 := n1.ne j2 rfl
    have na2 := n2.ne j2 rfl
    obtain ⟨u, l, k1, k2, k3, k4, k5, k6⟩ := hp4
    have np1 : p.p ≠ l1 := ne_of k1 g14 (by intro z; cases z)
    have np2 : p.p ≠ l2 := ne_of k1 g24 (by intro z; cases z)
    have hpen6 : Pen (upd (upd H4 l1 (.lst ((y :: ys1).eraseIdx j))) l2 (.lst (xs2 ++ [(y :: ys1)[j]]))) p (b + 4 * ys1.length) :=
      ⟨u, l, (upd_ne np2).trans ((upd_ne np1).trans k1), (upd_ne na2).trans ((upd_ne na1).trans k2), k3, k4, k5, k6⟩
    refine ⟨ys1.length, by omega, rfl, e05.edit n2 g25 rfl, (y :: ys1).eraseIdx j, xs2 ++ [(y :: ys1)[j]], (upd_ne n12).trans upd_same, upd_same, ?_, hel, by rw [hel]; exact hpen6⟩
    refine List.Perm.trans ?_ hperm
    exact erase_perm hj xs2
theorem d_law_shuffled (T : Txt K mg C) (D_law_draw : Df P w K mg base "_law_draw" 4 (spDrw G)) : Df P w K mg base "_law_shuffled" 5 (spShuf K G) := by
  have sc := sc_law_shuffled
  refine FnT.df (T.fn ("_law_shuffled", 88) (by decide)) sc len2 (fun _ _ _ _ _ _ us hl => match us, hl with | [_, _], _ => rfl) (fun f cdv A outer s H vs Q E hr h => ?_)
  have hu := hu_of hr
  have hu64 := hr.units
  obtain ⟨x1, x2, rfl, p, b, xs, rfl, hin, hlen, hpl, hp, q⟩ := h
  rcases hin with ⟨lz, rfl, rfl, hz⟩ | ⟨a, rfl, ha⟩
  · refine ⟨_, (pss_cons (ps_parA (i := 2) (j := 3) sc.nd (pa_cons (pe_callTy (call_list_str rfl) (by rfl) T.f_list (by decide +kernel) (pa_cons (pv 1) pa_nil)) (pa_cons (pe_lst pa_nil) pa_nil)))
  (pss_cons (ps_while PassesOwn.never (pt_cmpR (op_neDK K hu64) (pv 2) (pe_lst pa_nil) (nomark _)) (pss_one (ps_expr (cK_bm K (pe_bm PySem.F.plainAttrs_list PySem.F.slot_list_append PySem.F.type_list_append mt_append (pv 3) (pa_cons (cK_bm K (pe_bm PySem.F.plainAttrs_list PySem.F.slot_list_pop PySem.F.type_list_pop mt_popAt (pv 2) (pa_cons (pe_df D_law_draw (hr.mono (by decide)) rfl (pa_cons (pv 0) (pa_cons (pe_callB (call_len_seqK K) (by rfl) T.f_len PySem.boot_len (pa_cons (pv 2) pa_nil)) pa_nil))) pa_nil))) pa_nil))))))
  (pss_one (ps_ret (pv 3))))), ?_⟩
    decreasing_trivial
    have hsz : (⟨lz.toArray⟩ : Str).cps.toList = lz := by simp
    refine ⟨_, rfl, by show lz.toArray.size ≤ sizeLine; rw [List.size_toArray]; rw [List.length_map] at hlen; exact Nat.le_trans hlen (by decide), fun l1 hl1 => ?_⟩
    have e1 : ((⟨lz.toArray⟩ : Str).cps.toList.map fun c => V.str ⟨#[c]⟩) = lz.map vS := by rw [hsz]; rfl
    rw [e1]
    decreasing_trivial
    refine ⟨by show 0 ≤ sizeLine; omega, fun l2 hl2 => ?_⟩
    decreasing_trivial
    have g1 : Fs G H (upd H l1 (.lst (lz.map vS))) := Fm.new hl1
    have g2 : Fs G (upd H l1 (.lst (lz.map vS))) (upd (upd H l1 (.lst (lz.map vS))) l2 (.lst [])) := Fm.new hl2
    refine shuf_loop (H := H) (xs := (lz.map vS)) (b := b) ((g1.trans g2).weak) (Nw.of hl1) (g1.weak.nw hl2) (ne_of_none upd_same hl2) (g2.lst upd_same) upd_same hp (hp.mono (g1.trans g2)) hlen hpl (fun H' ys e hp' hperm h' => ?_)
    decreasing_trivial
    exact q H' l2 ys e (g1.weak.nw hl2) hp' hperm h'
  · refine ⟨_, (pss_cons (ps_parA (i := 2) (j := 3) sc.nd (pa_cons (pe_callTy (call_list_ofK K) (by rfl) T.f_list (by decide +kernel) (pa_cons (pv 1) pa_nil)) (pa_cons (pe_lst pa_nil) pa_nil)))
  (pss_cons (ps_while PassesOwn.never (pt_cmpR (op_neDK K hu64) (pv 2) (pe_lst pa_nil) (nomark _)) (pss_one (ps_expr (cK_bm K (pe_bm PySem.F.plainAttrs_list PySem.F.slot_list_append PySem.F.type_list_append mt_append (pv 3) (pa_cons (cK_bm K (pe_bm PySem.F.plainAttrs_list PySem.F.slot_list_pop PySem.F.type_list_pop mt_popAt (pv 2) (pa_cons (pe_df D_law_draw (hr.mono (by decide)) rfl (pa_cons (pv 0) (pa_cons (pe_callB (call_len_seqK K) (by rfl) T.f_len PySem.boot_len (pa_cons (pv 2) pa_nil)) pa_nil))) pa_nil))) pa_nil))))))
  (pss_one (ps_ret (pv 3))))), ?_⟩
    decreasing_trivial
    refine ⟨a, xs, rfl, .inl (SqL.of ha), fun l1 hl1 => ?_⟩
    decreasing_trivial
    refine ⟨by show 0 ≤ sizeLine; omega, fun l2 hl2 => ?_⟩
    decreasing_trivial
    have g1 : Fs G H (upd H l1 (.lst xs)) := Fm.new hl1
    have g2 : Fs G (upd H l1 (.lst xs)) (upd (upd H l1 (.lst xs)) l2 (.lst [])) := Fm.new hl2
    refine shuf_loop (H := H) (xs := xs) (b := b) ((g1.trans g2).weak) (Nw.of hl1) (g1.weak.nw hl2) (ne_of_none upd_same hl2) (g2.lst upd_same) upd_same hp (hp.mono (g1.trans g2)) hlen hpl (fun H' ys e hp' hperm h' => ?_)
    decreasing_trivial
    exact q H' l2 ys e (g1.weak.nw hl2) hp' hperm h'
end
end Hy
namespace Hy
open PySem PySem.Spec PyProof.Rows L2
local macro_rules | `(tactic| decreasing_trivial) => `(tactic| ((try (with_reducible conv => whnf)); repeat (first
    | with_reducible refine iteT ?_
    | with_reducible refine iteF ?_
    | with_reducible refine iteNT ?_
    | with_reducible refine iteNF ?_
    | with_reducible refine r_isi_int ?_
    | with_reducible refine r_isi_bool ?_
    | with_reducible refine r_isi_str ?_
    | with_reducible refine r_eqN ?_
    | with_reducible refine r_neN ?_
    | with_reducible refine r_eqS ?_
    | with_reducible refine r_neS ?_
    | with_reducible refine r_seq ?_
    | with_reducible refine r_asg ?_
    | with_reducible refine r_gname ?_
    | with_reducible refine r_ret ?_
    | with_reducible refine r_drop ?_
    | with_reducible refine r_next ?_
    | with_reducible refine r_op ?_
    | with_reducible refine r_var (by with_unfolding_all exact rfl) ?_
    | with_reducible refine r_c ?_
    | with_reducible refine r_cons ?_
    | with_reducible refine r_nil ?_
    | with_reducible refine r_un ?_
    | with_reducible refine r_I0 ?_
    | with_reducible refine r_U ?_
    | with_reducible refine r_df ?_
    | with_reducible refine r_cb ?_
    | with_reducible refine r_ifS ?_
    | with_reducible refine r_ifE ?_
    | with_reducible refine r_test ?_
    | with_reducible refine r_B ?_
    | with_reducible refine r_tand ?_
    | with_reducible refine r_tor ?_
    | with_reducible refine r_tnot ?_
    | with_reducible refine r_andV ?_
    | with_reducible refine r_orV ?_
    | with_reducible refine r_notV ?_
    | with_reducible refine r_blif ?_
    | with_reducible refine r_bl ?_
    | with_reducible refine r_chain ?_
    | with_reducible refine r_tup ?_
    | with_reducible refine r_lst ?_
    | with_reducible refine r_fld ?_
    | with_reducible refine r_dget ?_
    | with_reducible refine r_din ?_
    | with_reducible refine r_pt ?_
    | with_reducible refine r_mt ?_
    | with_reducible refine r_iEnumS ?_
    | with_reducible refine r_bm ?_
    | with_reducible refine r_iStr ?_
    | with_reducible refine r_lcT ?_
    | with_reducible refine r_dcT ?_
    | with_reducible refine r_iList ?_
    | with_reducible refine r_iTup ?_
    | with_reducible refine r_iRng1 ?_
    | with_reducible refine r_iRng2 ?_
    | with_reducible refine r_iEnum ?_
    | with_reducible refine r_iZip ?_
    | with_reducible refine r_iKeys ?_
    | with_reducible refine r_iItems ?_
    | with_reducible refine r_iVals ?_
    | with_reducible refine r_lstRg ?_
    | with_reducible refine r_rg1 ?_
    | with_reducible refine r_sortDf ?_
    | with_reducible refine r_bits ?_
    | with_reducible refine r_forT ?_
    | with_reducible refine r_augS ?_
    | with_reducible refine r_gsub ?_
    | with_reducible refine r_bm0 ?_
    | with_reducible refine r_sortLam ?_
    | with_reducible refine r_sfld ?_
    | with_reducible refine r_dput ?_
    | with_reducible refine r_dnewK ?_
    | with_reducible refine r_mk ?_
    | with_reducible refine r_con ?_
    | with_reducible refine r_lockS ?_
    | with_reducible refine r_sl ?_
    | with_reducible refine r_part ?_
    | with_reducible refine r_nopart ?_
    | with_reducible refine r_dget2 ?_
    | with_reducible refine r_isN ?_
    | with_reducible refine r_notN ?_
    | with_reducible refine r_par ?_
    | with_reducible refine r_par2 ?_
    | with_reducible refine r_yes ?_
    | with_reducible refine r_scT ?_)))
section
variable {P : Program} {w : World} {K : PySem.W.Frag} {mg : Str → Option Value} {base : Heap} {C : Ad} {G : List (Addr × Str)}
theorem sc_law_font : FnScope ["_law_pen_here", "_law_fewest", "_law_most", "_law_letters", "_law_signs", "_law_heads", "_law_left", "_law_one", "_law_way", "_law_two"] ["_law_pen_here", "_law_fewest", "_law_most"] (defScope (top 89)) := ⟨rfl, rfl, rfl, by decide +kernel, rfl, by decide +kernel, by decide +kernel⟩
theorem d_law_font (T : Txt K mg C) (D_law_draw : Df P w K mg base "_law_draw" 4 (spDrw G)) (D_law_shuffled : Df P w K mg base "_law_shuffled" 5 (spShuf K G)) : Df P w K mg base "_law_font" 6 (spLFont G) := by
  have sc := sc_law_font
  refine FnT.df (T.fn ("_law_font", 89) (by decide)) sc len3 (fun _ _ _ _ _ _ us hl => match us, hl with | [_, _, _], _ => rfl) (fun f cdv A outer s H vs Q E hr h => ?_)
  have hu := hu_of hr
  have hu64 := hr.units
  have hu0 := Nat.lt_of_succ_lt hu
  obtain ⟨x1, x2, x3, rfl, h⟩ := h
  refine ⟨_, (pss_cons (ps_set (i := 3) sc.nd rfl (by first | exact Or.inl rfl | exact Or.inr rfl) (pe_df D_law_shuffled (hr.mono (by decide)) rfl (pa_cons (pv 0) (pa_cons pe_str pa_nil))))
  (pss_cons (ps_parA (i := 4) (j := 5) sc.nd (pa_cons (cK_bm K (pe_bm PySem.F.plainAttrs_str PySem.F.slot_str_join PySem.F.type_str_join (mt_joinK K) pe_str (pa_cons (pe_slice (sl_listK K) (pv 3) po_none (po_some (pe_op op_add (pv 1) (pe_df D_law_draw (hr.mono (by decide)) rfl (pa_cons (pv 0) (pa_cons (pe_op op_add (pe_op op_sub (pv 2) (pv 1)) pe_int) pa_nil)))))) pa_nil))) (pa_cons pe_dnewK pa_nil)))
  (pss_cons (ps_set (i := 6) sc.nd rfl (by first | exact Or.inl rfl | exact Or.inr rfl) (pe_df D_law_shuffled (hr.mono (by decide)) rfl (pa_cons (pv 0) (pa_cons (pv 4) pa_nil))))
  (pss_cons (ps_while PassesOwn.never (pt_cmpR (op_neDK K hu64) (pv 6) (pe_lst pa_nil) (nomark _)) (pss_cons (ps_parA (i := 7) (j := 8) sc.nd (pa_cons (cK_bm0 K (pe_bm0 PySem.F.plainAttrs_list PySem.F.slot_list_pop PySem.F.type_list_pop mt_pop (pv 6))) (pa_cons (pe_df D_law_draw (hr.mono (by decide)) rfl (pa_cons (pv 0) (pa_cons pe_int pa_nil))) pa_nil)))
  (pss_cons (ps_if (pt_cmpR op_eq (pv 8) pe_int (nomark _)) (pss_one (ps_dput hu (pv 5) (pv 7) (pv 7) rfl)) pss_nil)
  (pss_one (ps_if (PW.pt (pw_and (pt_cmpR op_eq (pv 8) pe_int (nomark _)) (pw_and1 (pt_cmpR (op_neDK K hu64) (pv 6) (pe_lst pa_nil) (nomark _))))) (pss_cons (ps_set (i := 9) sc.nd rfl (by first | exact Or.inl rfl | exact Or.inr rfl) (cK_bm0 K (pe_bm0 PySem.F.plainAttrs_list PySem.F.slot_list_pop PySem.F.type_list_pop mt_pop (pv 6))))
  (pss_cons (ps_dput hu (pv 5) (pv 7) (pv 9) rfl)
  (pss_one (ps_dput hu (pv 5) (pv 9) (pv 7) rfl)))) pss_nil)))))
  (pss_one (ps_ret (pe_tup (pa_cons (pv 4) (pa_cons (pv 5) pa_nil))))))))), ?_⟩
  obtain ⟨p, b, rfl, rfl, rfl, hp, q⟩ := h
  decreasing_trivial
  refine r_sp2 ⟨p, b + 1744, signsL.map vS, rfl, .inl ⟨signsL, rfl, rfl, sg_small⟩, by decide, fun H' _ => plain_vs sg_small H', hp.less (by have : (signsL.map vS).length = 36 := rfl; omega), fun H1 a1 ys1 e1 n1 hp1 hperm1 h1 => ?_⟩
  obtain ⟨ls, rfl, hls⟩ := perm_map_inv (f := vS) (g := unS) unS_vS hperm1
  decreasing_trivial
  refine ⟨rfl, ?_⟩
  decreasing_trivial
  refine r_sp2 ⟨p, b + 1740, 5 - 2 + 1, rfl, rfl, by decide, by decide, hp1, fun H2 d e2 hp2 hd0 hd4 => ?_⟩
  decreasing_trivial
  refine ⟨_, rfl, ?_⟩
  decreasing_trivial
  obtain ⟨j, rfl⟩ : ∃ j : Nat, d = ((j : Nat) : Int) := ⟨d.toNat, by omega⟩
  have hl36 : ls.length = 36 := hls.length_eq
  have h12 := e2.lst h1
  refine ⟨a1, _, rfl, SqL.of h12, fun a2 ha2 => ?_⟩
  have ecut : cutV (ls.map vS) none (some (2 + ((j : Nat) : Int))) = (ls.take (2 + j)).map vS := by
    have e : (2 : Int) + ((j : Nat) : Int) = ((2 + j : Nat) : Int) := by omega
    rw [e]
    unfold cutV
    rw [HT.sIx_none, HT.sIx_nat, List.length_map, List.drop_zero, Nat.sub_zero, Nat.min_eq_left (by omega), List.map_take]
  rw [ecut]
  generalize hws : ls.take (2 + j) = ws at *
  have hwl : ws.length = 2 + j := by rw [← hws, List.length_take]; omega
  have hwn : ws.Nodup := by
    rw [← hws]
    exact (hls.nodup_iff.mpr (by decide)).sublist (List.take_sublist _ _)
  have hwsg : ∀ c ∈ ws, c ∈ signsL := fun c hc => hls.mem_iff.mp (List.mem_of_mem_take (hws ▸ hc))
  have e3 : Fs G H2 (upd H2 a2 (.lst (ws.map vS))) := Fm.new ha2
  have h3 : upd H2 a2 (.lst (ws.map vS)) a2 = some (.lst (ws.map vS)) := upd_same
  have hp3 := hp2.mono e3
  have e03 := (e1.trans e2).trans e3.weak
  generalize upd H2 a2 (.lst (ws.map vS)) = H3 at *
  decreasing_trivial
  refine ⟨"", a2, ws.map S1, rfl, rfl, .inl (SqL.of (by rw [h3, List.map_map]; rfl)), join_small (by omega), ?_⟩
  rw [join_signs]
  decreasing_trivial
  refine fun h hh => ?_
  have e4 : Fs G H3 (upd H3 h (.dK [])) := Fm.new hh
  have h4 : upd H3 h (.dK []) h = some (.dK []) := upd_same
  have hp4 := hp3.mono e4
  have nph : p.p ≠ h := by
    obtain ⟨_, _, k1, _⟩ := hp3
    exact ne_of_none k1 hh
  have e04 := e03.trans e4.weak
  have nh : NwR G H h := e03.nw hh
  generalize upd H3 h (.dK []) = H4 at *
  decreasing_trivial
  refine r_sp2 ⟨p, b + 20, ws.map vS, rfl, .inl ⟨ws, rfl, rfl, fun c hc => sg_small c (hwsg c hc)⟩, by rw [List.length_map]; omega, fun H' _ => plain_vs (fun c hc => sg_small c (hwsg c hc)) H', hp4.less (by rw [List.length_map]; omega), fun H5 a4 ys e5 n5 hp5 hperm5 h5 => ?_⟩
  obtain ⟨rem0, rfl, hr0⟩ := perm_map_inv (f := vS) (g := unS) unS_vS hperm5
  have e05 := e04.trans e5
  have n5' : NwR G H a4 := e04.nw' n5
  have h45 := e5.dct h4 (by intro v e; cases e)
  have ha4h : a4 ≠ h := fun z => by
    subst z
    rw [h5] at h45
    cases h45
  have hr0l := hr0.length_eq
  decreasing_trivial
  refine ⟨fun m σ H' => ∃ v7 v8 v9 rem kvs hd, σ = [some (.ref p.p), some (.int 2), some (.int 5), some (.ref a1), some (.str ⟨ws.toArray⟩), some (.ref h), some (.ref a4), v7, v8, v9] ∧ Fr G H H' ∧ H' a4 = some (.lst (rem.map vS)) ∧ H' h = some (.dK kvs) ∧ HdW ws rem hd kvs ∧ rem.Nodup ∧ (∀ c ∈ rem, c ∈ ws) ∧ kvs.length + 2 * rem.length ≤ 10 ∧ rem.length = m ∧ Pen H' p (b + 4 * rem.length), ⟨_, none, none, none, rem0, [], fun _ => none, rfl, e05, h5, h45, HdW.zero _ _, hr0.nodup_iff.mpr hwn, fun c hc => hr0.mem_iff.mp hc, by show 0 + _ ≤ _; omega, rfl, hp5.less (by omega)⟩, fun m σ H6 hW => ?_⟩
  obtain ⟨v7, v8, v9, rem, kvs, hd, rfl, e6, g1, g2, hH, hrn, hrw, hkl, rfl, hp6⟩ := hW
  decreasing_trivial
  refine ⟨by show 0 ≤ sizeLine; omega, fun l0 hl0 => ?_⟩
  have f1 : Fs G H6 (upd H6 l0 (.lst [])) := Fm.new hl0
  have e7 := e6.trans f1.weak
  have g17 := f1.lst g1
  have dkv : dOk kvs := dOk_of fun p hp => by
    obtain ⟨⟨c, e⟩, _⟩ := hH.ent p hp
    exact ⟨S1 c, e, by show 1 ≤ 2; decide⟩
  have g27 := f1.dct g2 dkv
  have hp7 := hp6.mono f1
  have hl07 : upd H6 l0 (.lst []) l0 = some (.lst []) := upd_same
  generalize upd H6 l0 (.lst []) = H7 at *
  refine r_neE g17 hl07 (plain_all (plain_vs (fun c hc => sg_small c (hwsg c (hrw c hc))) H7)) ?_
  decreasing_trivial
  rcases List.eq_nil_or_concat rem with rfl | ⟨r, one, rfl⟩
  · refine iteN rfl ?_
    decreasing_trivial
    refine ⟨by show 2 ≤ sizeLine; decide, fun t ht => ?_⟩
    have f2 : Fs G H7 (upd H7 t (.tup [.str ⟨ws.toArray⟩, .ref h])) := Fm.new ht
    refine q _ t ⟨ws, hd⟩ (e7.trans f2.weak) ((hp7.mono f2).less (by omega)) ⟨⟨hwn, by show 2 ≤ ws.length; omega, by show ws.length ≤ 5; omega, hwsg, fun c d e => ?_⟩, h, kvs, upd_same, .inl (f2.dct g27 dkv), hH.val, hH.ent, hH.nd⟩
    obtain ⟨o1, o2, o3, _⟩ := hH.ok c d e
    exact ⟨o1, o2, o3⟩
  · refine iteE (by simp) ?_
    refine ⟨_, fun _ _ z => z, ?_⟩
    rw [List.concat_eq_append] at g17 hrn hrw hkl hp7 hH ⊢
    rw [List.map_append] at g17
    rw [List.length_append] at hkl hp7
    have hl1 : [one].length = 1 := rfl
    have hone := hrw one (List.mem_append_right _ (List.mem_cons_self ..))
    rw [List.nodup_append] at hrn
    have hnr : one ∉ r := fun z => hrn.2.2 one z one (List.mem_cons_self ..) rfl
    decreasing_trivial
    refine ⟨.inl ⟨rfl, _, SqL.of g17⟩, ?_⟩
    refine ⟨a4, _, vS one, rfl, rfl, g17, by simp, ?_⟩
    decreasing_trivial
    have ed : (List.map vS r ++ List.map vS [one]).dropLast = r.map vS := by simp
    rw [ed]
    have npa := Pen.neL hp n5' hp7 g17
    have nha : p.a ≠ h := by
      obtain ⟨_, _, _, k2, _⟩ := hp7
      exact ne_of k2 g27 (by intro z; cases z)
    have e8 : Fr G H (upd H7 a4 (.lst (r.map vS))) := e7.edit n5' g17 rfl
    have hp8 := hp7.upd (o := .lst (r.map vS)) npa.1 npa.2
    have g18 : upd H7 a4 (.lst (r.map vS)) a4 = some (.lst (r.map vS)) := upd_same
    have g28 : upd H7 a4 (.lst (r.map vS)) h = some (.dK kvs) := (upd_ne ha4h.symm).trans g27
    generalize upd H7 a4 (.lst (r.map vS)) = H8 at *
    refine r_sp2 ⟨p, b + 4 * r.length, 4, rfl, rfl, by decide, by decide, hp8.less (by omega), fun H9 d9 f9 hp9 h90 h94 => ?_⟩
    have e9 := e8.trans f9
    have g19 := f9.lst g18
    have g29 := f9.dct g28 dkv
    decreasing_trivial
    have hlk : kvs.length < sizeLine := Nat.lt_of_le_of_lt (show kvs.length ≤ 1000 by omega) (by decide)
    have hrr : (r ++ [one]).length = r.length + 1 := by simp
    have hsub : ∀ c ∈ r, c ∈ r ++ [one] := fun c hc => List.mem_append_left _ hc
    have hmem1 : one ∈ r ++ [one] := List.mem_append_right _ (List.mem_cons_self ..)
    refine iteD (fun ez => ?_) (fun ez => ?_)
    · have ez := of_decide_eq_true ez
      subst ez
      decreasing_trivial
      refine r_dput1 (k := kS one) g29 hlk ?_
      decreasing_trivial
      refine iteN (by decide) ?_
      decreasing_trivial
      refine ⟨r.length, by omega, _, _, _, r, _, _, rfl, e9.edit nh g29 rfl, (upd_ne ha4h).trans g19, upd_same, hH.self hmem1 hone hsub hnr, hrn.1, fun c hc => hrw c (hsub c hc), ?_, rfl, hp9.upd nph nha⟩
      have := put_len kvs (kS one) (vS one)
      omega
    · decreasing_trivial
      refine iteD (fun eo => ?_) (fun eo => ?_)
      · decreasing_trivial
        refine ⟨by show 0 ≤ sizeLine; omega, fun l1 hl1 => ?_⟩
        have f10 : Fs G H9 (upd H9 l1 (.lst [])) := Fm.new hl1
        have e10 := e9.trans f10.weak
        have g110 := f10.lst g19
        have g210 := f10.dct g29 dkv
        have hp10 := hp9.mono f10
        have hl110 : upd H9 l1 (.lst []) l1 = some (.lst []) := upd_same
        generalize upd H9 l1 (.lst []) = H10 at *
        refine r_neE g110 hl110 (plain_all (plain_vs (fun c hc => sg_small c (hwsg c (hrw c (hsub c hc)))) H10)) ?_
        decreasing_trivial
        rcases List.eq_nil_or_concat r with rfl | ⟨r2, two, rfl⟩
        · refine iteN rfl ?_
          decreasing_trivial
          exact ⟨0, by simp, _, _, _, [], _, _, rfl, e10, g110, g210, hH.less (fun c hc => by cases hc), .nil, (fun c hc => by cases hc), (by show kvs.length + 2 * 0 ≤ 10; omega), rfl, hp10.less (by show b + 4 * 0 ≤ _; omega)⟩
        · refine iteE (by simp) ?_
          rw [List.concat_eq_append] at g110 hrn hsub hp10 hkl hH hmem1 hrw hnr ⊢
          rw [List.map_append] at g110
          rw [List.length_append] at hkl hp10
          have hl2 : [two].length = 1 := rfl
          have htwo : two ∈ r2 ++ [two] := List.mem_append_right _ (List.mem_cons_self ..)
          have hrn1 := List.nodup_append.mp hrn.1
          have hnt : two ∉ r2 := fun z => hrn1.2.2 two z two (List.mem_cons_self ..) rfl
          have hsub2 : ∀ c ∈ r2, c ∈ r2 ++ [two] := fun c hc => List.mem_append_left _ hc
          decreasing_trivial
          refine ⟨.inl ⟨rfl, _, SqL.of g110⟩, ?_⟩
          refine ⟨a4, _, vS two, rfl, rfl, g110, by simp, ?_⟩
          decreasing_trivial
          have ed2 : (List.map vS r2 ++ List.map vS [two]).dropLast = r2.map vS := by simp
          rw [ed2]
          have e11 : Fr G H (upd H10 a4 (.lst (r2.map vS))) := e10.edit n5' g110 rfl
          have hp11 := hp10.upd (o := .lst (r2.map vS)) npa.1 npa.2
          have g111 : upd H10 a4 (.lst (r2.map vS)) a4 = some (.lst (r2.map vS)) := upd_same
          have g211 : upd H10 a4 (.lst (r2.map vS)) h = some (.dK kvs) := (upd_ne ha4h.symm).trans g210
          generalize upd H10 a4 (.lst (r2.map vS)) = H11 at *
          refine r_dput1 (k := kS one) g211 hlk ?_
          decreasing_trivial
          have hk1 := put_len kvs (kS one) (vS two)
          refine r_dput1 (k := kS two) upd_same (Nat.lt_of_le_of_lt (show (putK kvs (kS one) (vS two)).length ≤ 1000 by omega) (by decide)) ?_
          decreasing_trivial
          have hk2 := put_len (putK kvs (kS one) (vS two)) (kS two) (vS one)
          refine ⟨r2.length, by simp, _, _, _, r2, _, _, rfl, (e11.edit nh g211 rfl).edit nh upd_same rfl, (upd_ne ha4h).trans ((upd_ne ha4h).trans g111), upd_same,
            hH.pair hmem1 (hsub two htwo) hone (hrw two (hsub two htwo)) (fun c hc => hsub c (hsub2 c hc)) (fun z => hnr (hsub2 _ z)) hnt, hrn1.1, fun c hc => hrw c (hsub c (hsub2 c hc)), by omega, rfl, ((hp11.upd nph nha).upd nph nha).less (by omega)⟩
      · decreasing_trivial
        exact ⟨r.length, by omega, _, _, _, r, _, _, rfl, e9, g19, g29, hH.less hsub, hrn.1, fun c hc => hrw c (hsub c hc), by omega, rfl, hp9⟩
end
end Hy
namespace Hy
open PySem PySem.Spec PyProof.Rows L2
local macro_rules | `(tactic| decreasing_trivial) => `(tactic| ((try (with_reducible conv => whnf)); repeat (first
    | with_reducible refine iteT ?_
    | with_reducible refine iteF ?_
    | with_reducible refine iteNT ?_
    | with_reducible refine iteNF ?_
    | with_reducible refine r_isi_int ?_
    | with_reducible refine r_isi_bool ?_
    | with_reducible refine r_isi_str ?_
    | with_reducible refine r_eqN ?_
    | with_reducible refine r_neN ?_
    | with_reducible refine r_eqS ?_
    | with_reducible refine r_neS ?_
    | with_reducible refine r_seq ?_
    | with_reducible refine r_asg ?_
    | with_reducible refine r_gname ?_
    | with_reducible refine r_ret ?_
    | with_reducible refine r_drop ?_
    | with_reducible refine r_next ?_
    | with_reducible refine r_op ?_
    | with_reducible refine r_var (by with_unfolding_all exact rfl) ?_
    | with_reducible refine r_c ?_
    | with_reducible refine r_cons ?_
    | with_reducible refine r_nil ?_
    | with_reducible refine r_un ?_
    | with_reducible refine r_I0 ?_
    | with_reducible refine r_U ?_
    | with_reducible refine r_df ?_
    | with_reducible refine r_cb ?_
    | with_reducible refine r_ifS ?_
    | with_reducible refine r_ifE ?_
    | with_reducible refine r_test ?_
    | with_reducible refine r_B ?_
    | with_reducible refine r_tand ?_
    | with_reducible refine r_tor ?_
    | with_reducible refine r_tnot ?_
    | with_reducible refine r_andV ?_
    | with_reducible refine r_orV ?_
    | with_reducible refine r_notV ?_
    | with_reducible refine r_blif ?_
    | with_reducible refine r_bl ?_
    | with_reducible refine r_chain ?_
    | with_reducible refine r_tup ?_
    | with_reducible refine r_lst ?_
    | with_reducible refine r_fld ?_
    | with_reducible refine r_dget ?_
    | with_reducible refine r_din ?_
    | with_reducible refine r_pt ?_
    | with_reducible refine r_mt ?_
    | with_reducible refine r_iEnumS ?_
    | with_reducible refine r_bm ?_
    | with_reducible refine r_iStr ?_
    | with_reducible refine r_lcT ?_
    | with_reducible refine r_dcT ?_
    | with_reducible refine r_iList ?_
    | with_reducible refine r_iTup ?_
    | with_reducible refine r_iRng1 ?_
    | with_reducible refine r_iRng2 ?_
    | with_reducible refine r_iEnum ?_
    | with_reducible refine r_iZip ?_
    | with_reducible refine r_iKeys ?_
    | with_reducible refine r_iItems ?_
    | with_reducible refine r_iVals ?_
    | with_reducible refine r_lstRg ?_
    | with_reducible refine r_rg1 ?_
    | with_reducible refine r_sortDf ?_
    | with_reducible refine r_bits ?_
    | with_reducible refine r_forT ?_
    | with_reducible refine r_augS ?_
    | with_reducible refine r_gsub ?_
    | with_reducible refine r_bm0 ?_
    | with_reducible refine r_sortLam ?_
    | with_reducible refine r_sfld ?_
    | with_reducible refine r_dput ?_
    | with_reducible refine r_dnewK ?_
    | with_reducible refine r_mk ?_
    | with_reducible refine r_con ?_
    | with_reducible refine r_lockS ?_
    | with_reducible refine r_sl ?_
    | with_reducible refine r_part ?_
    | with_reducible refine r_nopart ?_
    | with_reducible refine r_dget2 ?_
    | with_reducible refine r_isN ?_
    | with_reducible refine r_notN ?_
    | with_reducible refine r_par ?_
    | with_reducible refine r_par2 ?_
    | with_reducible refine r_yes ?_
    | with_reducible refine r_scT ?_)))
section
variable {P : Program} {w : World} {K : PySem.W.Frag} {mg : Str → Option Value} {base : Heap} {C : Ad} {G : List (Addr × Str)}
theorem plain_pair {K : PySem.W.Frag} {H : Hp} {t : Addr} {a b : Nat} (h : H t = some (.tup [vS a, vS b])) (ha : a < 128) (hb : b < 128) : Plain K H (.ref t) := by
  refine ⟨.tuple [.str (S1 a), .str (S1 b)], .tup (SqT.of h) (.cons (.str _) (.cons (.str _) .nil)), ?_, ?_⟩
  · show (PyData.canLay0 (.str (S1 a)) && (PyData.canLay0 (.str (S1 b)) && true)) = true
    have h1 : PyData.canLay0 (.str (S1 a)) = true := by
      show ((#[a] : Array Nat).all (· < 0x110000)) = true
      simp
      omega
    have h2 : PyData.canLay0 (.str (S1 b)) = true := by
      show ((#[b] : Array Nat).all (· < 0x110000)) = true
      simp
      omega
    rw [h1, h2]
    rfl
  · exact Nat.le_refl _
/-- the first i signs' pairs -/
structure TurnsI (F : Ft) (i : Nat) (tl : List (Nat × Nat)) : Prop where
  dis : tl.Pairwise fun p q => p.1 ≠ q.1 ∧ p.1 ≠ q.2 ∧ p.2 ≠ q.1 ∧ p.2 ≠ q.2
  hd : ∀ p ∈ tl, F.hd p.1 = some p.2
  fst : ∀ p ∈ tl, ∃ c d, (p = (c, d) ∨ p = (d, c)) ∧ F.hd c = some d ∧ F.rk c ≤ F.rk d ∧ F.rk c < i
  all : ∀ c d, F.hd c = some d → F.rk c ≤ F.rk d → F.rk c < i → (c, d) ∈ tl ∨ (d, c) ∈ tl
  len : tl.length ≤ i
theorem TurnsI.zero (F : Ft) : TurnsI F 0 [] := ⟨.nil, fun p h => (by cases h), fun p h => (by cases h), fun c d _ _ h => absurd h (Nat.not_lt_zero _), Nat.le_refl _⟩
theorem TurnsI.skip {F : Ft} (o : F.Ok) {i c : Nat} {tl : List (Nat × Nat)} (h : TurnsI F i tl) (hc : F.ws[i]? = some c) (hn : ∀ d, F.hd c = some d → ¬ F.rk c ≤ F.rk d) : TurnsI F (i + 1) tl := by
  refine ⟨h.dis, h.hd, fun p hp => ?_, fun a d e1 e2 e3 => ?_, Nat.le_succ_of_le h.len⟩
  · obtain ⟨a, d, h1, h2, h3, h4⟩ := h.fst p hp
    exact ⟨a, d, h1, h2, h3, Nat.lt_succ_of_lt h4⟩
  · refine h.all a d e1 e2 ?_
    rcases Nat.lt_or_eq_of_le (Nat.lt_succ_iff.mp e3) with e4 | e4
    · exact e4
    · have hm := (o.hd1 _ _ e1).1
      have h1 : F.ws[F.rk a]? = some a := by
        have h2 : F.rk a < F.ws.length := List.idxOf_lt_length_of_mem hm
        rw [List.getElem?_eq_getElem h2]
        exact congrArg some (List.getElem_idxOf h2)
      rw [e4, hc] at h1
      cases h1
      exact absurd e2 (hn d e1)
theorem TurnsI.add {F : Ft} (o : F.Ok) {i c d : Nat} {tl : List (Nat × Nat)} (h : TurnsI F i tl) (hc : F.ws[i]? = some c) (hd : F.hd c = some d) (hle : F.rk c ≤ F.rk d) {p : Nat × Nat} (hp : p = (c, d) ∨ p = (d, c)) : TurnsI F (i + 1) (tl ++ [p]) := by
  obtain ⟨m1, m2, m3⟩ := o.hd1 _ _ hd
  have hi := (List.getElem?_eq_some_iff.mp hc).1
  have hrc : F.rk c = i := by
    show F.ws.idxOf c = i
    rw [← (List.getElem?_eq_some_iff.mp hc).2]
    exact o.nd.idxOf_getElem i hi
  have hnew : ∀ q ∈ tl, q.1 ≠ c ∧ q.1 ≠ d ∧ q.2 ≠ c ∧ q.2 ≠ d := fun q hq => by
    obtain ⟨a, b, h1, h2, h3, h4⟩ := h.fst q hq
    obtain ⟨n1, n2, n3⟩ := o.hd1 _ _ h2
    have ac : a ≠ c := fun e => by
      rw [e] at h4
      omega
    have ad : a ≠ d := fun e => by
      rw [e] at h2
      rw [m3] at h2
      cases h2
      rw [e] at h4
      omega
    have bc : b ≠ c := fun e => by
      rw [e] at n3
      rw [hd] at n3
      cases n3
      exact ad rfl
    have bd : b ≠ d := fun e => by
      rw [e] at n3
      rw [m3] at n3
      cases n3
      exact ac rfl
    rcases h1 with rfl | rfl
    · exact ⟨ac, ad, bc, bd⟩
    · exact ⟨bc, bd, ac, ad⟩
  refine ⟨List.pairwise_append.mpr ⟨h.dis, List.pairwise_singleton _ _, fun q hq r hr => ?_⟩, fun q hq => ?_, fun q hq => ?_, fun a b e1 e2 e3 => ?_, ?_⟩
  · have hr : r = p := by simpa using hr
    subst hr
    obtain ⟨n1, n2, n3, n4⟩ := hnew q hq
    rcases hp with rfl | rfl
    · exact ⟨n1, n2, n3, n4⟩
    · exact ⟨n2, n1, n4, n3⟩
  · rcases List.mem_append.mp hq with hq | hq
    · exact h.hd q hq
    · have hr : q = p := by simpa using hq
      subst hr
      rcases hp with rfl | rfl
      · exact hd
      · exact m3
  · rcases List.mem_append.mp hq with hq | hq
    · obtain ⟨a, d, h1, h2, h3, h4⟩ := h.fst q hq
      exact ⟨a, d, h1, h2, h3, Nat.lt_succ_of_lt h4⟩
    · have hr : q = p := by simpa using hq
      subst hr
      exact ⟨c, d, hp, hd, hle, by omega⟩
  · rcases Nat.lt_or_eq_of_le (Nat.lt_succ_iff.mp e3) with e4 | e4
    · exact (h.all a b e1 e2 e4).imp (fun z => List.mem_append_left _ z) fun z => List.mem_append_left _ z
    · have hm := (o.hd1 _ _ e1).1
      have : a = c := rk_inj hm m1 (e4.trans hrc.symm)
      subst this
      rw [hd] at e1
      cases e1
      rcases hp with rfl | rfl
      · exact .inl (List.mem_append_right _ (List.mem_cons_self ..))
      · exact .inr (List.mem_append_right _ (List.mem_cons_self ..))
  · rw [List.length_append]
    have := h.len
    show tl.length + 1 ≤ i + 1
    omega
theorem TurnsI.done {F : Ft} (o : F.Ok) {tl : List (Nat × Nat)} (h : TurnsI F F.ws.length tl) : TurnsOf F tl := by
  refine ⟨h.dis, h.hd, fun c d e => ?_, Nat.le_trans h.len o.hi⟩
  obtain ⟨m1, m2, m3⟩ := o.hd1 _ _ e
  rcases Nat.le_total (F.rk c) (F.rk d) with hl | hl
  · exact h.all c d e hl (List.idxOf_lt_length_of_mem m1)
  · exact (h.all d c m3 hl (List.idxOf_lt_length_of_mem m2)).symm
theorem TurnsOf.perm {F : Ft} {s t : List (Nat × Nat)} (h : TurnsOf F s) (p : t.Perm s) : TurnsOf F t :=
  ⟨(p.pairwise_iff (fun {x y} hxy => ⟨fun e => hxy.1 e.symm, fun e => hxy.2.2.1 e.symm, fun e => hxy.2.1 e.symm, fun e => hxy.2.2.2 e.symm⟩)).mpr h.dis, fun x hx => h.hd x (p.mem_iff.mp hx), fun c d e => (h.all c d e).imp (fun z => p.mem_iff.mpr z) fun z => p.mem_iff.mpr z, by rw [p.length_eq]; exact h.len⟩
theorem paired_perm {α β : Type} {R : β → α → Prop} : ∀ {ys xs : List β}, ys.Perm xs → ∀ {l : List α}, Paired R xs l → ∃ l', Paired R ys l' ∧ l'.Perm l := by
  intro ys xs p
  induction p with
  | nil =>
    intro l h
    exact ⟨l, h, .refl _⟩
  | cons x p ih =>
    intro l h
    cases h with
    | cons a t =>
      obtain ⟨l', h1, h2⟩ := ih t
      exact ⟨_ :: l', .cons a h1, h2.cons _⟩
  | swap x y zs =>
    intro l h
    cases h with
    | cons a t =>
      cases t with
      | cons b t => exact ⟨_, .cons b (.cons a t), .swap _ _ _⟩
  | trans p1 p2 ih1 ih2 =>
    intro l h
    obtain ⟨l1, h1, h2⟩ := ih2 h
    obtain ⟨l2, h3, h4⟩ := ih1 h1
    exact ⟨l2, h3, h4.trans h2⟩
theorem sc_law_turns : FnScope ["_law_pen_here", "_law_font_here", "_law_signs", "_law_heads", "_law_turns_here", "_law_one"] ["_law_pen_here", "_law_font_here"] (defScope (top 90)) := ⟨rfl, rfl, rfl, by decide +kernel, rfl, by decide +kernel, by decide +kernel⟩
theorem d_law_turns (T : Txt K mg C) (D_law_pick : Df P w K mg base "_law_pick" 5 (spPick G)) (D_law_shuffled : Df P w K mg base "_law_shuffled" 5 (spShuf K G)) : Df P w K mg base "_law_turns" 6 (spLTurns G) := by
  have sc := sc_law_turns
  refine FnT.df (T.fn ("_law_turns", 90) (by decide)) sc len2 (fun _ _ _ _ _ _ us hl => match us, hl with | [_, _], _ => rfl) (fun f cdv A outer s H vs Q E hr h => ?_)
  have hu := hu_of hr
  have hu64 := hr.units
  have hu0 := Nat.lt_of_succ_lt hu
  obtain ⟨x1, x2, rfl, h⟩ := h
  refine ⟨_, (pss_cons (ps_asg (pv 1) (pg_tupK K (n := 2) rfl (pgs_cons (pg_name (i := 2) sc.nd rfl (by first | exact Or.inl rfl | exact Or.inr rfl)) (pgs_cons (pg_name (i := 3) sc.nd rfl (by first | exact Or.inl rfl | exact Or.inr rfl)) pgs_nil))))
  (pss_cons (ps_set (i := 4) sc.nd rfl (by first | exact Or.inl rfl | exact Or.inr rfl) (pe_lst pa_nil))
  (pss_cons (ps_for PassesOwn.never rfl (pi_str (pv 2)) (pg_name (i := 5) sc.nd rfl (by first | exact Or.inl rfl | exact Or.inr rfl)) (pss_one (ps_if (PW.pt (pw_and (pt_cmp (pc_din hu (pv 5) (pv 3))) (pw_and1 (pt_cmpR op_le (cK_bm K (pe_bm PySem.F.plainAttrs_str PySem.F.slot_str_index PySem.F.type_str_index mt_sindex (pv 2) (pa_cons (pv 5) pa_nil))) (cK_bm K (pe_bm PySem.F.plainAttrs_str PySem.F.slot_str_index PySem.F.type_str_index mt_sindex (pv 2) (pa_cons (pe_dget hu (pv 3) (pv 5) (fun _ _ => rfl)) pa_nil))) (nomark _))))) (pss_one (ps_expr (cK_bm K (pe_bm PySem.F.plainAttrs_list PySem.F.slot_list_append PySem.F.type_list_append mt_append (pv 4) (pa_cons (pe_df D_law_pick (hr.mono (by decide)) rfl (pa_cons (pv 0) (pa_cons (pe_lst (pa_cons (pe_tup (pa_cons (pv 5) (pa_cons (pe_dget hu (pv 3) (pv 5) (fun _ _ => rfl)) pa_nil))) (pa_cons (pe_tup (pa_cons (pe_dget hu (pv 3) (pv 5) (fun _ _ => rfl)) (pa_cons (pv 5) pa_nil))) pa_nil))) pa_nil))) pa_nil))))) pss_nil)))
  (pss_one (ps_ret (pe_df D_law_shuffled (hr.mono (by decide)) rfl (pa_cons (pv 0) (pa_cons (pv 4) pa_nil)))))))), ?_⟩
  obtain ⟨p, b, lf, F, rfl, rfl, hL, hp, q⟩ := h
  obtain ⟨o, hh, hk, h1, h2, h3⟩ := id hL
  have hwl := o.hi
  decreasing_trivial
  refine ⟨lf, _, rfl, SqT.of h1, rfl, _, _, rfl, _, _, rfl, rfl, ?_⟩
  decreasing_trivial
  refine ⟨by show 0 ≤ sizeLine; omega, fun l hl => ?_⟩
  have e1 : Fs G H (upd H l (.lst [])) := Fm.new hl
  have nl : NwR G H l := Nw.of hl
  have hp1 := hp.mono e1
  have hl1 : upd H l (.lst []) l = some (.lst []) := upd_same
  have hn1 := hp.ne hl
  have er := e1.weak
  generalize upd H l (.lst []) = H1 at *
  decreasing_trivial
  refine ⟨F.W, rfl, ?_⟩
  refine for_it walk_str (fun i σ H2 => ∃ v5 vs tl, σ = [some (.ref p.p), some (.ref lf), some (.str F.W), some (.ref hh), some (.ref l), v5] ∧ Fr G H H2 ∧ Pen H2 p (b + 20 + 4 * (10 - i)) ∧ H2 l = some (.lst vs) ∧ Paired (RTurn H2) vs tl ∧ TurnsI F i tl) ⟨none, [], [], rfl, er, hp1.less (by omega), hl1, .nil, TurnsI.zero F⟩ (fun i σ H2 _ hp => trivial) (fun i x σ H2 H3 hi hW hx => ?_) (fun σ H2 hW => ?_)
  · obtain ⟨v5, vs, tl, rfl, e2, hp2, hl2, hpr, hT⟩ := hW
    obtain ⟨rfl, c, hc, rfl⟩ := hx
    have hc' : F.ws[i]? = some c := by simpa [Ft.W] using hc
    have hcw := List.mem_of_getElem? hc'
    have hi5 : i < 5 := Nat.lt_of_lt_of_le (List.getElem?_eq_some_iff.mp hc').1 hwl
    have h22 := e2.rdK h2 (dOk_hd h3)
    have hlen := hT.len
    have hlv := Paired.length hpr
    decreasing_trivial
    refine r_din1 (k := kS c) h22 rfl ?_
    rw [h3.1 c]
    cases hd : F.hd c with
    | none =>
      decreasing_trivial
      exact ⟨_, vs, tl, rfl, e2, hp2.less (by omega), hl2, hpr, hT.skip o hc' fun d e => by rw [hd] at e; cases e⟩
    | some d =>
      obtain ⟨m1, m2, m3⟩ := o.hd1 _ _ hd
      decreasing_trivial
      refine iteE rfl ?_
      decreasing_trivial
      refine ⟨rfl, ?_⟩
      decreasing_trivial
      refine r_sindex o hcw ?_
      decreasing_trivial
      refine ⟨rfl, ?_⟩
      decreasing_trivial
      have hv : valV hk (kS c) = some (vS d) := by rw [h3.1 c, hd]; rfl
      refine r_dget1 (k := kS c) h22 rfl hv ?_
      refine r_sindex o m2 ?_
      decreasing_trivial
      refine iteD (fun ez => ?_) (fun ez => ?_)
      · have ez := of_decide_eq_true ez
        have h21 := e2.rdK h2 (dOk_hd h3)
        decreasing_trivial
        refine ⟨.inl ⟨rfl, _, SqL.of hl2⟩, ?_⟩
        decreasing_trivial
        refine r_dget1 (k := kS c) h22 rfl hv ?_
        decreasing_trivial
        refine ⟨by show 2 ≤ sizeLine; decide, fun t1 ht1 => ?_⟩
        have f1 : Fs G H3 (upd H3 t1 (.tup [V.str ⟨#[c]⟩, vS d])) := Fm.new ht1
        have g1 : upd H3 t1 (.tup [V.str ⟨#[c]⟩, vS d]) t1 = some (.tup [vS c, vS d]) := upd_same
        have hl3 := f1.lst hl2
        have h23 := f1.rdK h22 (dOk_hd h3)
        have e3 := e2.trans f1.weak
        have hp3 := hp2.mono f1
        have hpr3 := paired_imp hpr fun x z r => stb_turn.mono f1 r
        generalize upd H3 t1 (.tup [V.str ⟨#[c]⟩, vS d]) = H4 at *
        decreasing_trivial
        refine r_dget1 (k := kS c) h23 rfl hv ?_
        decreasing_trivial
        refine ⟨by show 2 ≤ sizeLine; decide, fun t2 ht2 => ?_⟩
        have f2 : Fs G H4 (upd H4 t2 (.tup [vS d, V.str ⟨#[c]⟩])) := Fm.new ht2
        have g2 : upd H4 t2 (.tup [vS d, V.str ⟨#[c]⟩]) t2 = some (.tup [vS d, vS c]) := upd_same
        have g12 := f2.tup g1
        have hl4 := f2.lst hl3
        have e4 := e3.trans f2.weak
        have hp4 := hp3.mono f2
        have hpr4 := paired_imp hpr3 fun x z r => stb_turn.mono f2 r
        generalize upd H4 t2 (.tup [vS d, V.str ⟨#[c]⟩]) = H5 at *
        decreasing_trivial
        refine ⟨by show 2 ≤ sizeLine; decide, fun l2 hl20 => ?_⟩
        have f3 : Fs G H5 (upd H5 l2 (.lst [V.ref t1, V.ref t2])) := Fm.new hl20
        have gl : upd H5 l2 (.lst [V.ref t1, V.ref t2]) l2 = some (.lst [V.ref t1, V.ref t2]) := upd_same
        have g13 := f3.tup g12
        have g23 := f3.tup g2
        have hl5 := f3.lst hl4
        have e5 := e4.trans f3.weak
        have hp5 := hp4.mono f3
        have hpr5 := paired_imp hpr4 fun x z r => stb_turn.mono f3 r
        generalize upd H5 l2 (.lst [V.ref t1, V.ref t2]) = H6 at *
        decreasing_trivial
        refine r_sp2 ⟨p, b + 20 + 4 * (10 - (i + 1)), l2, [V.ref t1, V.ref t2], rfl, rfl, gl, by simp, by show 2 ≤ 1000; decide, hp5.less (by omega), fun H7 v f7 hp7 hv7 => ?_⟩
        have hl7 := f7.lst hl5
        have g17 := f7.tup g13
        have g27 := f7.tup g23
        have hpr7 := paired_imp hpr5 fun x z r => stb_turn.mono f7 r
        have e7 := e5.trans f7
        have hpv : ∃ pr : Nat × Nat, RTurn H7 v pr ∧ (pr = (c, d) ∨ pr = (d, c)) := by
          rcases List.mem_cons.mp hv7 with rfl | hv7
          · exact ⟨(c, d), ⟨t1, rfl, g17⟩, .inl rfl⟩
          · have : v = .ref t2 := by simpa using hv7
            subst this
            exact ⟨(d, c), ⟨t2, rfl, g27⟩, .inr rfl⟩
        obtain ⟨pr, hr, hpr0⟩ := hpv
        decreasing_trivial
        refine ⟨l, vs, v, rfl, rfl, hl7, Nat.lt_of_le_of_lt (show vs.length ≤ 1000 by omega) (by decide), ?_⟩
        decreasing_trivial
        exact ⟨_, vs ++ [v], tl ++ [pr], rfl, e7.edit nl hl7 rfl, hp7.upd hn1.1 hn1.2, upd_same, Paired.snoc (paired_imp hpr7 fun x z r => stb_turn.lst hl7 r) (stb_turn.lst hl7 hr), hT.add o hc' hd (by omega) hpr0⟩
      · have ez := of_decide_eq_false ez
        decreasing_trivial
        exact ⟨_, vs, tl, rfl, e2, hp2.less (by omega), hl2, hpr, hT.skip o hc' fun d' e => by rw [hd] at e; cases e; omega⟩
  · obtain ⟨v5, vs, tl, rfl, e2, hp2, hl2, hpr, hT⟩ := hW
    have hT2 : TurnsOf F tl := TurnsI.done o (by simpa [Ft.W] using hT)
    have hlen := hT2.len
    have hlv := Paired.length hpr
    decreasing_trivial
    refine r_sp2 ⟨p, b, vs, rfl, .inr ⟨l, rfl, hl2⟩, by omega, fun H' e' v hv => ?_, hp2.less (by omega), fun H3 a ys e3 n3 hp3 hperm h3 => ?_⟩
    · obtain ⟨j, hj⟩ := List.mem_iff_getElem?.mp hv
      obtain ⟨pr, hpj, t, rfl, htt⟩ := paired_at hpr hj
      have hm := hT2.hd _ (List.mem_of_getElem? hpj)
      obtain ⟨m1, m2, _⟩ := o.hd1 _ _ hm
      exact plain_pair (e'.tup htt) (ws_small o m1) (ws_small o m2)
    · obtain ⟨tl', h4, h5⟩ := paired_perm hperm hpr
      exact q H3 a tl' (e2.trans e3) hp3 (hT2.perm h5) ⟨ys, h3, paired_imp h4 fun _ _ r => stb_turn.mono e3 r⟩
end
end Hy
namespace Hy
open PySem PySem.Spec PyProof.Rows L2
local macro_rules | `(tactic| decreasing_trivial) => `(tactic| ((try (with_reducible conv => whnf)); repeat (first
    | with_reducible refine iteT ?_
    | with_reducible refine iteF ?_
    | with_reducible refine iteNT ?_
    | with_reducible refine iteNF ?_
    | with_reducible refine r_isi_int ?_
    | with_reducible refine r_isi_bool ?_
    | with_reducible refine r_isi_str ?_
    | with_reducible refine r_eqN ?_
    | with_reducible refine r_neN ?_
    | with_reducible refine r_eqS ?_
    | with_reducible refine r_neS ?_
    | with_reducible refine r_seq ?_
    | with_reducible refine r_asg ?_
    | with_reducible refine r_gname ?_
    | with_reducible refine r_ret ?_
    | with_reducible refine r_drop ?_
    | with_reducible refine r_next ?_
    | with_reducible refine r_op ?_
    | with_reducible refine r_var (by with_unfolding_all exact rfl) ?_
    | with_reducible refine r_c ?_
    | with_reducible refine r_cons ?_
    | with_reducible refine r_nil ?_
    | with_reducible refine r_un ?_
    | with_reducible refine r_I0 ?_
    | with_reducible refine r_U ?_
    | with_reducible refine r_df ?_
    | with_reducible refine r_cb ?_
    | with_reducible refine r_ifS ?_
    | with_reducible refine r_ifE ?_
    | with_reducible refine r_test ?_
    | with_reducible refine r_B ?_
    | with_reducible refine r_tand ?_
    | with_reducible refine r_tor ?_
    | with_reducible refine r_tnot ?_
    | with_reducible refine r_andV ?_
    | with_reducible refine r_orV ?_
    | with_reducible refine r_notV ?_
    | with_reducible refine r_blif ?_
    | with_reducible refine r_bl ?_
    | with_reducible refine r_chain ?_
    | with_reducible refine r_tup ?_
    | with_reducible refine r_lst ?_
    | with_reducible refine r_fld ?_
    | with_reducible refine r_dget ?_
    | with_reducible refine r_din ?_
    | with_reducible refine r_pt ?_
    | with_reducible refine r_mt ?_
    | with_reducible refine r_iEnumS ?_
    | with_reducible refine r_bm ?_
    | with_reducible refine r_iStr ?_
    | with_reducible refine r_lcT ?_
    | with_reducible refine r_dcT ?_
    | with_reducible refine r_iList ?_
    | with_reducible refine r_iTup ?_
    | with_reducible refine r_iRng1 ?_
    | with_reducible refine r_iRng2 ?_
    | with_reducible refine r_iEnum ?_
    | with_reducible refine r_iZip ?_
    | with_reducible refine r_iKeys ?_
    | with_reducible refine r_iItems ?_
    | with_reducible refine r_iVals ?_
    | with_reducible refine r_lstRg ?_
    | with_reducible refine r_rg1 ?_
    | with_reducible refine r_sortDf ?_
    | with_reducible refine r_bits ?_
    | with_reducible refine r_forT ?_
    | with_reducible refine r_augS ?_
    | with_reducible refine r_gsub ?_
    | with_reducible refine r_bm0 ?_
    | with_reducible refine r_sortLam ?_
    | with_reducible refine r_sfld ?_
    | with_reducible refine r_dput ?_
    | with_reducible refine r_dnewK ?_
    | with_reducible refine r_mk ?_
    | with_reducible refine r_con ?_
    | with_reducible refine r_lockS ?_
    | with_reducible refine r_sl ?_
    | with_reducible refine r_part ?_
    | with_reducible refine r_nopart ?_
    | with_reducible refine r_dget2 ?_
    | with_reducible refine r_isN ?_
    | with_reducible refine r_notN ?_
    | with_reducible refine r_par ?_
    | with_reducible refine r_par2 ?_
    | with_reducible refine r_yes ?_
    | with_reducible refine r_scT ?_)))
section
variable {P : Program} {w : World} {K : PySem.W.Frag} {mg : Str → Option Value} {base : Heap} {C : Ad} {G : List (Addr × Str)}
theorem K2_list (k : Nat × Nat) : (K2 k).cps.toList = [k.1, k.2] := rfl
theorem sc_law_shows : FnScope ["_law_font_here", "_law_kind", "_law_sides", "_law_side", "_law_sign"] ["_law_font_here", "_law_kind"] (defScope (top 92)) := ⟨rfl, rfl, rfl, by decide +kernel, rfl, by decide +kernel, by decide +kernel⟩
theorem d_law_shows (T : Txt K mg C)  : Df P w K mg base "_law_shows" 1 (spLShows G) := by
  have sc := sc_law_shows
  refine FnT.df (T.fn ("_law_shows", 92) (by decide)) sc len2 (fun _ _ _ _ _ _ us hl => match us, hl with | [_, _], _ => rfl) (fun f cdv A outer s H vs Q E hr h => ?_)
  have hu := hu_of hr
  have hu64 := hr.units
  have hu0 := Nat.lt_of_succ_lt hu
  obtain ⟨x1, x2, rfl, h⟩ := h
  refine ⟨_, (pss_cons (ps_set (i := 2) sc.nd rfl (by first | exact Or.inl rfl | exact Or.inr rfl) (pe_lc (own := [("_law_side", 3)]) rfl sc.nd (pi_str (pv 1)) (blkOk_by (N := ["_law_font_here", "_law_kind", "_law_sides", "_law_side", "_law_sign"]) (sc := defScope (top 92)) (by decide +kernel)) (fun _ _ _ _ _ => (pg_name (i := 3) sc.nd rfl (by first | exact Or.inl rfl | exact Or.inr rfl))) (fun _ _ _ _ _ => pts_one (pt_cmpR op_ne (pv 3) pe_str (nomark _))) (fun _ _ _ _ _ => (pv 3))))
  (pss_cons (ps_set (i := 2) sc.nd rfl (by first | exact Or.inl rfl | exact Or.inr rfl) (pe_op op_cat (pv 2) (pe_lc (own := [("_law_side", 3)]) rfl sc.nd (pi_listK K (pv 2)) (blkOk_by (N := ["_law_font_here", "_law_kind", "_law_sides", "_law_side", "_law_sign"]) (sc := defScope (top 92)) (by decide +kernel)) (fun _ _ _ _ _ => (pg_name (i := 3) sc.nd rfl (by first | exact Or.inl rfl | exact Or.inr rfl))) (fun _ _ _ _ _ => pts_one (pt_cmp (pc_din hu (pv 3) (pe_ix (ix_tupK K) (pv 0) pe_int (fun _ _ => rfl))))) (fun _ _ _ _ _ => (pe_dget hu (pe_ix (ix_tupK K) (pv 0) pe_int (fun _ _ => rfl)) (pv 3) (fun _ _ => rfl))))))
  (pss_one (ps_ret (cK_bm K (pe_bm PySem.F.plainAttrs_str PySem.F.slot_str_join PySem.F.type_str_join (mt_joinK K) pe_str (pa_cons (pe_lc (own := [("_law_sign", 4)]) rfl sc.nd (pi_str (pe_ix (ix_tupK K) (pv 0) pe_int (fun _ _ => rfl))) (blkOk_by (N := ["_law_font_here", "_law_kind", "_law_sides", "_law_side", "_law_sign"]) (sc := defScope (top 92)) (by decide +kernel)) (fun _ _ _ _ _ => (pg_name (i := 4) sc.nd rfl (by first | exact Or.inl rfl | exact Or.inr rfl))) (fun _ _ _ _ _ => pts_one (pt_cmpR (op_in_seqK K) (pv 4) (pv 2) (by rfl))) (fun _ _ _ _ _ => (pv 4))) pa_nil))))))), ?_⟩
  obtain ⟨lf, F, k, rfl, hL, rfl, hk0, q⟩ := h
  obtain ⟨o, hh, hk, h1, h2, h3⟩ := id hL
  decreasing_trivial
  refine ⟨K2 k, rfl, fun D hD => ?_⟩
  refine cp_it walk_str (Lp ⟨false, G⟩ H D (giv (fun c => decide (c ≠ 45)) vS [k.1, k.2])) (Lp.start hD (giv_zero _ _ _)) (fun _ _ _ _ => trivial) (fun i x H1 H2 hi hp hx => ?_) (fun H1 hp => ?_)
  · obtain ⟨rfl, c, hc, rfl⟩ := hx
    have hc' : [k.1, k.2][i]? = some c := by simpa [K2] using hc
    decreasing_trivial
    refine ⟨rfl, ?_⟩
    decreasing_trivial
    have e8 : (!decide ((⟨#[c]⟩ : Str) = ("-" : Str))) = decide (c ≠ 45) := by
      have e9 : ((⟨#[c]⟩ : Str) = ("-" : Str)) ↔ c = 45 := S1_dash c
      by_cases e : c = 45
      · rw [decide_eq_true (e9.mpr e), decide_eq_false (fun z => z e)]
        rfl
      · rw [decide_eq_false (fun z => e (e9.mp z)), decide_eq_true e]
        rfl
    rw [e8]
    refine iteD (fun e => ?_) (fun e => ?_)
    · decreasing_trivial
      exact hp.add hD (Fm.refl _) (Nat.le_trans (giv_len _ _ _ _) (by show 2 ≤ 1000; decide)) (giv_yes hc' e)
    · exact hp.skip (Fm.refl _) (giv_no hc' e)
  · have e1 : (K2 k).cps.size = [k.1, k.2].length := rfl
    have hs := hp.2
    rw [e1, giv_all] at hs
    have hs : H1 D = some (.lst ((F.sides k).map vS)) := hs
    have ee := hp.1
    have hsl : (F.sides k).length ≤ 2 := List.length_filter_le _ _
    decreasing_trivial
    refine ⟨D, rfl, ⟨_, SqL.of hs⟩, fun D2 hD2 => ?_⟩
    have h11 := ee.tup h1
    have h21 := ee.rdK h2 (dOk_hd h3)
    refine cp_it (walk_list (xs := (F.sides k).map vS)) (Lp ⟨false, G⟩ H1 D2 (giv (fun c => (F.hd c).isSome) (fun c => vS ((F.hd c).getD 0)) (F.sides k))) (Lp.start hD2 (giv_zero _ _ _)) (fun i H2 _ hp => SqL.of (hp.1.lst hs)) (fun i x H2 H3 hi hp hx => ?_) (fun H2 hp => ?_)
    · obtain ⟨rfl, hx⟩ := hx
      rw [List.getElem?_map] at hx
      cases hc : (F.sides k)[i]? with
      | none =>
        rw [hc] at hx
        cases hx
      | some c =>
      rw [hc] at hx
      cases hx
      have h12 := hp.1.tup h11
      have h22 := hp.1.rdK h21 (dOk_hd h3)
      decreasing_trivial
      refine ⟨rfl, ?_⟩
      decreasing_trivial
      refine ⟨lf, _, 1, _, rfl, rfl, SqT.of h12, rfl, ?_⟩
      refine r_din1 (k := kS c) h22 rfl ?_
      rw [h3.1 c]
      cases hd : F.hd c with
      | none =>
        decreasing_trivial
        refine iteN rfl ?_
        exact hp.skip (Fm.refl _) (giv_no hc (by rw [hd]; rfl))
      | some d =>
        decreasing_trivial
        refine iteE rfl ?_
        decreasing_trivial
        refine ⟨lf, _, 1, _, rfl, rfl, SqT.of h12, rfl, ?_⟩
        decreasing_trivial
        refine r_dget1 (k := kS c) h22 rfl (v := vS d) (by rw [h3.1 c, hd]; rfl) ?_
        refine hp.add hD2 (Fm.refl _) (Nat.le_trans (giv_len _ _ _ _) (by omega)) ?_
        rw [giv_yes hc (by rw [hd]; rfl), hd]
        rfl
    · have hs2 := hp.2
      rw [List.length_map, giv_all] at hs2
      have e5 : ((F.sides k).filter fun c => (F.hd c).isSome).map (fun c => vS ((F.hd c).getD 0)) = ((F.sides k).filterMap F.hd).map vS := by
        generalize F.sides k = l
        induction l with
        | nil => rfl
        | cons a l ih =>
          rw [List.filter_cons, List.filterMap_cons]
          cases ha : F.hd a with
          | none => exact ih
          | some d =>
            rw [if_pos (show (some d).isSome = true from rfl), List.map_cons, List.map_cons, ih, ha]
            rfl
      rw [e5] at hs2
      have hs1 := hp.1.lst hs
      have e2 := ee.trans hp.1
      have hfl : ((F.sides k).filterMap F.hd).length ≤ (F.sides k).length := List.length_filterMap_le _ _
      decreasing_trivial
      refine ⟨D, D2, _, _, rfl, rfl, hs1, hs2, ?_, fun D3 hD3 => ?_⟩
      · rw [List.length_map, List.length_map]
        exact Nat.le_trans (show _ ≤ 4 by omega) (by decide)
      have e3 : Fs G H (upd H2 D3 (.lst ((F.sides k).map vS ++ ((F.sides k).filterMap F.hd).map vS))) := e2.trans (Fm.new hD3)
      have hs3 : upd H2 D3 (.lst ((F.sides k).map vS ++ ((F.sides k).filterMap F.hd).map vS)) D3 = some (.lst ((F.shl k).map vS)) := by
        rw [upd_same, ← List.map_append]
        rfl
      generalize upd H2 D3 (.lst ((F.sides k).map vS ++ ((F.sides k).filterMap F.hd).map vS)) = H3 at *
      decreasing_trivial
      have h13 := e3.tup h1
      refine ⟨rfl, ?_⟩
      decreasing_trivial
      refine ⟨lf, _, 0, _, rfl, rfl, SqT.of h13, rfl, ?_⟩
      refine ⟨F.W, rfl, fun D4 hD4 => ?_⟩
      refine cp_it walk_str (Lp ⟨false, G⟩ H3 D4 (giv (fun c => decide (c ∈ F.shl k)) vS F.ws)) (Lp.start hD4 (giv_zero _ _ _)) (fun _ _ _ _ => trivial) (fun i x H4 H5 hi hp4 hx => ?_) (fun H4 hp4 => ?_)
      · obtain ⟨rfl, c, hc, rfl⟩ := hx
        have hc' : F.ws[i]? = some c := by simpa [Ft.W] using hc
        decreasing_trivial
        refine ⟨rfl, ?_⟩
        decreasing_trivial
        refine ⟨D3, (F.shl k).map vS, rfl, .inl (SqL.of (hp4.1.lst hs3)), rfl, flat_vs _, ?_⟩
        have e8 : inV (vS c) ((F.shl k).map vS) = decide (c ∈ F.shl k) := in_vs c _
        decreasing_trivial
        show if (inV (vS c) ((F.shl k).map vS)) = true then _ else _
        rw [e8]
        refine iteD (fun e => ?_) (fun e => ?_)
        · decreasing_trivial
          exact hp4.add hD4 (Fm.refl _) (Nat.le_trans (giv_len _ _ _ _) (by have := o.hi; omega)) (giv_yes hc' e)
        · exact hp4.skip (Fm.refl _) (giv_no hc' e)
      · have e6 : F.W.cps.size = F.ws.length := by simp [Ft.W]
        have hs4 := hp4.2
        rw [e6, giv_all] at hs4
        decreasing_trivial
        refine ⟨"", D4, (F.sh k).map S1, rfl, rfl, .inl (SqL.of (by rw [hs4, List.map_map]; rfl)), ?_, ?_⟩
        · exact join_small (Nat.le_trans (List.length_filter_le _ _) (by have := o.hi; omega))
        · rw [join_signs]
          exact q H4 (e3.trans hp4.1)
end
end Hy
namespace Hy
open PySem PySem.Spec PyProof.Rows L2
local macro_rules | `(tactic| decreasing_trivial) => `(tactic| ((try (with_reducible conv => whnf)); repeat (first
    | with_reducible refine iteT ?_
    | with_reducible refine iteF ?_
    | with_reducible refine iteNT ?_
    | with_reducible refine iteNF ?_
    | with_reducible refine r_isi_int ?_
    | with_reducible refine r_isi_bool ?_
    | with_reducible refine r_isi_str ?_
    | with_reducible refine r_eqN ?_
    | with_reducible refine r_neN ?_
    | with_reducible refine r_eqS ?_
    | with_reducible refine r_neS ?_
    | with_reducible refine r_seq ?_
    | with_reducible refine r_asg ?_
    | with_reducible refine r_gname ?_
    | with_reducible refine r_ret ?_
    | with_reducible refine r_drop ?_
    | with_reducible refine r_next ?_
    | with_reducible refine r_op ?_
    | with_reducible refine r_var (by with_unfolding_all exact rfl) ?_
    | with_reducible refine r_c ?_
    | with_reducible refine r_cons ?_
    | with_reducible refine r_nil ?_
    | with_reducible refine r_un ?_
    | with_reducible refine r_I0 ?_
    | with_reducible refine r_U ?_
    | with_reducible refine r_df ?_
    | with_reducible refine r_cb ?_
    | with_reducible refine r_ifS ?_
    | with_reducible refine r_ifE ?_
    | with_reducible refine r_test ?_
    | with_reducible refine r_B ?_
    | with_reducible refine r_tand ?_
    | with_reducible refine r_tor ?_
    | with_reducible refine r_tnot ?_
    | with_reducible refine r_andV ?_
    | with_reducible refine r_orV ?_
    | with_reducible refine r_notV ?_
    | with_reducible refine r_blif ?_
    | with_reducible refine r_bl ?_
    | with_reducible refine r_chain ?_
    | with_reducible refine r_tup ?_
    | with_reducible refine r_lst ?_
    | with_reducible refine r_fld ?_
    | with_reducible refine r_dget ?_
    | with_reducible refine r_din ?_
    | with_reducible refine r_pt ?_
    | with_reducible refine r_mt ?_
    | with_reducible refine r_iEnumS ?_
    | with_reducible refine r_bm ?_
    | with_reducible refine r_iStr ?_
    | with_reducible refine r_lcT ?_
    | with_reducible refine r_dcT ?_
    | with_reducible refine r_iList ?_
    | with_reducible refine r_iTup ?_
    | with_reducible refine r_iRng1 ?_
    | with_reducible refine r_iRng2 ?_
    | with_reducible refine r_iEnum ?_
    | with_reducible refine r_iZip ?_
    | with_reducible refine r_iKeys ?_
    | with_reducible refine r_iItems ?_
    | with_reducible refine r_iVals ?_
    | with_reducible refine r_lstRg ?_
    | with_reducible refine r_rg1 ?_
    | with_reducible refine r_sortDf ?_
    | with_reducible refine r_bits ?_
    | with_reducible refine r_forT ?_
    | with_reducible refine r_augS ?_
    | with_reducible refine r_gsub ?_
    | with_reducible refine r_bm0 ?_
    | with_reducible refine r_sortLam ?_
    | with_reducible refine r_sfld ?_
    | with_reducible refine r_dput ?_
    | with_reducible refine r_dnewK ?_
    | with_reducible refine r_mk ?_
    | with_reducible refine r_con ?_
    | with_reducible refine r_lockS ?_
    | with_reducible refine r_sl ?_
    | with_reducible refine r_part ?_
    | with_reducible refine r_nopart ?_
    | with_reducible refine r_dget2 ?_
    | with_reducible refine r_isN ?_
    | with_reducible refine r_notN ?_
    | with_reducible refine r_par ?_
    | with_reducible refine r_par2 ?_
    | with_reducible refine r_yes ?_
    | with_reducible refine r_scT ?_)))
section
variable {P : Program} {w : World} {K : PySem.W.Frag} {mg : Str → Option Value} {base : Heap} {C : Ad} {G : List (Addr × Str)}
theorem atI_pl {F : Ft} {i : Nat} (h : i ≤ F.n) {z : Int} (hz : z = (i : Nat)) : atI (F.ws ++ [45]) z = some (pl F i) := by
  subst hz
  have hl : i < (F.ws ++ [45]).length := by
    rw [List.length_append]
    exact Nat.lt_succ_of_le h
  unfold atI ixN
  rw [if_pos (by omega), if_pos (by omega)]
  have e : (F.ws ++ [45])[i]? = some (pl F i) := by
    unfold pl
    rw [List.getD_eq_getElem?_getD, List.getElem?_eq_getElem hl]
    rfl
  simpa using e
theorem pl_get {F : Ft} {i : Nat} (h : i ≤ F.n) : (F.ws ++ [45])[i]? = some (pl F i) := by
  unfold pl
  rw [List.getD_eq_getElem?_getD, List.getElem?_eq_getElem (by rw [List.length_append]; exact Nat.lt_succ_of_le h)]
  rfl
theorem sc_law_kinds : FnScope ["_law_font_here", "_law_places", "_law_found", "_law_k", "_law_m"] ["_law_font_here"] (defScope (top 93)) := ⟨rfl, rfl, rfl, by decide +kernel, rfl, by decide +kernel, by decide +kernel⟩
theorem d_law_kinds (T : Txt K mg C)  : Df P w K mg base "_law_kinds" 1 (spLKinds G) := by
  have sc := sc_law_kinds
  refine FnT.df (T.fn ("_law_kinds", 93) (by decide)) sc len1 (fun _ _ _ _ _ _ us hl => match us, hl with | [_], _ => rfl) (fun f cdv A outer s H vs Q E hr h => ?_)
  have hu := hu_of hr
  have hu64 := hr.units
  have hu0 := Nat.lt_of_succ_lt hu
  obtain ⟨x1, rfl, h⟩ := h
  refine ⟨_, (pss_cons (ps_asg (pe_tup (pa_cons (pe_op op_add_str (pe_ix (ix_tupK K) (pv 0) pe_int (fun _ _ => rfl)) pe_str) (pa_cons (pe_lst pa_nil) pa_nil))) (pg_tupK K (n := 2) rfl (pgs_cons (pg_name (i := 1) sc.nd rfl (by first | exact Or.inl rfl | exact Or.inr rfl)) (pgs_cons (pg_name (i := 2) sc.nd rfl (by first | exact Or.inl rfl | exact Or.inr rfl)) pgs_nil))))
  (pss_cons (ps_for PassesOwn.never rfl (pi_range1 rfl T.f_range (pa_cons (pe_callB call_len_str (by rfl) T.f_len PySem.boot_len (pa_cons (pe_ix (ix_tupK K) (pv 0) pe_int (fun _ _ => rfl)) pa_nil)) pa_nil)) (pg_name (i := 3) sc.nd rfl (by first | exact Or.inl rfl | exact Or.inr rfl)) (pss_one (ps_set (i := 2) sc.nd rfl (by first | exact Or.inl rfl | exact Or.inr rfl) (pe_op op_cat (pv 2) (pe_lc (own := [("_law_m", 4)]) rfl sc.nd (pi_range2 rfl T.f_range (pa_cons (pv 3) (pa_cons (pe_callB call_len_str (by rfl) T.f_len PySem.boot_len (pa_cons (pv 1) pa_nil)) pa_nil))) (blkOk_by (N := ["_law_font_here", "_law_places", "_law_found", "_law_k", "_law_m"]) (sc := defScope (top 93)) (by decide +kernel)) (fun _ _ _ _ _ => (pg_name (i := 4) sc.nd rfl (by first | exact Or.inl rfl | exact Or.inr rfl))) (fun _ _ _ _ _ => pts_nil) (fun _ _ _ _ _ => (pe_op op_add_str (pe_ix ix_str (pv 1) (pv 3) (fun _ _ => rfl)) (pe_ix ix_str (pv 1) (pv 4) (fun _ _ => rfl)))))))))
  (pss_one (ps_ret (pv 2))))), ?_⟩
  obtain ⟨lf, F, rfl, hL, q⟩ := h
  obtain ⟨o, hh, hk, h1, h2, h3⟩ := id hL
  have hwl := o.hi
  have hn : F.n = F.ws.length := rfl
  decreasing_trivial
  refine ⟨lf, _, 0, _, rfl, rfl, SqT.of h1, rfl, ?_⟩
  decreasing_trivial
  refine ⟨F.W, "-", rfl, rfl, ?_, ?_⟩
  · rw [W_len]
    exact Nat.le_trans (show F.n + 1 ≤ 100 by omega) (by decide)
  decreasing_trivial
  refine ⟨by show 0 ≤ sizeLine; omega, fun l hl => ?_⟩
  have e1 : Fs G H (upd H l (.lst [])) := Fm.new hl
  have nl : Nw ⟨false, G⟩ H l := Nw.of hl
  have hl1 : upd H l (.lst []) l = some (.lst []) := upd_same
  generalize upd H l (.lst []) = H1 at *
  decreasing_trivial
  refine ⟨by show 2 ≤ sizeLine; decide, fun t ht => ?_⟩
  refine ⟨t, _, rfl, SqT.of upd_same, rfl, _, _, rfl, _, _, rfl, rfl, ?_⟩
  have e2 : Fs G H (upd H1 t (.tup [V.str (F.W ++ "-"), V.ref l])) := e1.trans (Fm.new ht)
  have hl2 : upd H1 t (.tup [V.str (F.W ++ "-"), V.ref l]) l = some (.lst []) := (upd_ne (ne_of_none hl1 ht)).trans hl1
  generalize upd H1 t (.tup [V.str (F.W ++ "-"), V.ref l]) = H2 at *
  have hWd : (F.W ++ "-" : Str) = ⟨(F.ws ++ [45]).toArray⟩ := by
    refine TL.ext_tl ?_
    rw [TL.tl_append]
    show F.ws.toArray.toList ++ [45] = (F.ws ++ [45]).toArray.toList
    simp
  have hWl : (F.W ++ "-" : Str).length = F.n + 1 := by
    rw [hWd]
    simp [PySem.Str.length, Ft.n]
  decreasing_trivial
  refine ⟨lf, _, 0, _, rfl, rfl, SqT.of (e2.tup h1), rfl, ?_⟩
  decreasing_trivial
  refine ⟨F.W, rfl, Nat.le_trans (show F.W.length ≤ 1000 by rw [W_len]; omega) (by decide), ?_⟩
  rw [W_len]
  decreasing_trivial
  refine ⟨_, rfl, by omega, by omega, ?_⟩
  refine for_it walk_range (fun i σ H3 => ∃ v3 v4 D, σ = [some (.ref lf), some (.str (F.W ++ "-")), some (.ref D), v3, v4] ∧ Fs G H H3 ∧ Nw ⟨false, G⟩ H D ∧ H3 D = some (.lst (((List.range i).flatMap (kRow F)).map vK))) ⟨none, none, l, rfl, e2, nl, hl2⟩ (fun i σ H3 _ hp => trivial) (fun i x σ H3 H4 hi hW hx => ?_) (fun σ H3 hW => ?_)
  · obtain ⟨v3, v4, D, rfl, e3, nD, hD⟩ := hW
    obtain ⟨rfl, rfl⟩ := hx
    rw [Int.toNat_natCast] at hi
    have hlen : (((List.range i).flatMap (kRow F)).map vK).length ≤ 20 := by
      rw [List.length_map]
      have h5 := kinds_len o
      have h6 : kinds F = (List.range i).flatMap (kRow F) ++ (List.range' i (F.n - i)).flatMap (kRow F) := by
        unfold kinds
        rw [← List.flatMap_append]
        congr 1
        rw [List.range_eq_range', List.range_eq_range']
        have h7 : F.n = i + (F.n - i) := by omega
        conv => lhs; rw [h7]
        rw [← List.range'_append_1]
        simp
      rw [h6, List.length_append] at h5
      omega
    decreasing_trivial
    refine ⟨_, rfl, Nat.le_trans (show (F.W ++ "-" : Str).length ≤ 1000 by rw [hWl]; omega) (by decide), ?_⟩
    rw [hWl]
    decreasing_trivial
    refine ⟨_, _, rfl, by omega, fun D2 hD2 => ?_⟩
    have e0 : (((F.n + 1 : Nat) : Int) - (0 + ((i : Nat) : Int))).toNat = F.n + 1 - i := by omega
    rw [e0]
    refine cp_it walk_range (Lp ⟨false, G⟩ H4 D2 (giv (fun _ => true) (fun j => vK (pl F i, pl F (i + j))) (List.range (F.n + 1 - i)))) (Lp.start hD2 (giv_zero _ _ _)) (fun _ _ _ _ => trivial) (fun j x H5 H6 hj hp hx => ?_) (fun H5 hp => ?_)
    · obtain ⟨rfl, rfl⟩ := hx
      decreasing_trivial
      refine ⟨rfl, ?_⟩
      decreasing_trivial
      have hz : (F.W ++ "-" : Str).cps.toList = F.ws ++ [45] := by rw [hWd]
      have hsz : (F.W ++ "-" : Str).length ≤ sizeLine := Nat.le_trans (show (F.W ++ "-" : Str).length ≤ 1000 by rw [hWl]; omega) (by decide)
      refine ⟨_, _, pl F i, rfl, rfl, hsz, by rw [hz]; exact atI_pl (by omega) (by omega), ?_⟩
      decreasing_trivial
      refine ⟨_, _, pl F (i + j), rfl, rfl, hsz, by rw [hz]; exact atI_pl (by omega) (by omega), ?_⟩
      refine ⟨_, _, rfl, rfl, by show 1 + 1 ≤ sizeLine; decide, ?_⟩
      have hcj : (List.range (F.n + 1 - i))[j]? = some j := List.getElem?_range hj
      exact hp.add hD2 (Fm.refl _) (Nat.le_trans (giv_len _ _ _ _) (by rw [List.length_range]; omega)) (giv_yes hcj rfl)
    · have h6 := hp.2
      have e7 : giv (fun _ => true) (fun j => vK (pl F i, pl F (i + j))) (List.range (F.n + 1 - i)) (F.n + 1 - i) = (kRow F i).map vK := by
        have := giv_all (p := fun _ => true) (f := fun j => vK (pl F i, pl F (i + j))) (l := List.range (F.n + 1 - i))
        rw [List.length_range] at this
        rw [this, List.filter_eq_self.mpr (fun _ _ => rfl)]
        unfold kRow
        rw [List.map_map]
        rfl
      rw [e7] at h6
      have h7 := hp.1.lst hD
      have hkl : ((kRow F i).map vK).length ≤ 6 := by
        unfold kRow
        rw [List.length_map, List.length_map, List.length_range]
        omega
      decreasing_trivial
      refine ⟨D, D2, _, _, rfl, rfl, h7, h6, Nat.le_trans (show _ ≤ 1000 by omega) (by decide), fun D3 hD3 => ?_⟩
      have e9 : Fs G H (upd H5 D3 (.lst (((List.range i).flatMap (kRow F)).map vK ++ (kRow F i).map vK))) := (e3.trans hp.1).trans (Fm.new hD3)
      decreasing_trivial
      refine ⟨_, _, D3, rfl, e9, (e3.trans hp.1).nw hD3, ?_⟩
      rw [upd_same, ← List.map_append, List.range_succ, List.flatMap_append]
      simp
  · obtain ⟨v3, v4, D, rfl, e3, nD, hD⟩ := hW
    decreasing_trivial
    refine q H3 D e3 nD ?_
    rw [hD, Int.toNat_natCast]
    rfl
end
end Hy
namespace Hy
open PySem PySem.Spec PyProof.Rows L2
local macro_rules | `(tactic| decreasing_trivial) => `(tactic| ((try (with_reducible conv => whnf)); repeat (first
    | with_reducible refine iteT ?_
    | with_reducible refine iteF ?_
    | with_reducible refine iteNT ?_
    | with_reducible refine iteNF ?_
    | with_reducible refine r_isi_int ?_
    | with_reducible refine r_isi_bool ?_
    | with_reducible refine r_isi_str ?_
    | with_reducible refine r_eqN ?_
    | with_reducible refine r_neN ?_
    | with_reducible refine r_eqS ?_
    | with_reducible refine r_neS ?_
    | with_reducible refine r_seq ?_
    | with_reducible refine r_asg ?_
    | with_reducible refine r_gname ?_
    | with_reducible refine r_ret ?_
    | with_reducible refine r_drop ?_
    | with_reducible refine r_next ?_
    | with_reducible refine r_op ?_
    | with_reducible refine r_var (by with_unfolding_all exact rfl) ?_
    | with_reducible refine r_c ?_
    | with_reducible refine r_cons ?_
    | with_reducible refine r_nil ?_
    | with_reducible refine r_un ?_
    | with_reducible refine r_I0 ?_
    | with_reducible refine r_U ?_
    | with_reducible refine r_df ?_
    | with_reducible refine r_cb ?_
    | with_reducible refine r_ifS ?_
    | with_reducible refine r_ifE ?_
    | with_reducible refine r_test ?_
    | with_reducible refine r_B ?_
    | with_reducible refine r_tand ?_
    | with_reducible refine r_tor ?_
    | with_reducible refine r_tnot ?_
    | with_reducible refine r_andV ?_
    | with_reducible refine r_orV ?_
    | with_reducible refine r_notV ?_
    | with_reducible refine r_blif ?_
    | with_reducible refine r_bl ?_
    | with_reducible refine r_chain ?_
    | with_reducible refine r_tup ?_
    | with_reducible refine r_lst ?_
    | with_reducible refine r_fld ?_
    | with_reducible refine r_dget ?_
    | with_reducible refine r_din ?_
    | with_reducible refine r_pt ?_
    | with_reducible refine r_mt ?_
    | with_reducible refine r_iEnumS ?_
    | with_reducible refine r_bm ?_
    | with_reducible refine r_iStr ?_
    | with_reducible refine r_lcT ?_
    | with_reducible refine r_dcT ?_
    | with_reducible refine r_iList ?_
    | with_reducible refine r_iTup ?_
    | with_reducible refine r_iRng1 ?_
    | with_reducible refine r_iRng2 ?_
    | with_reducible refine r_iEnum ?_
    | with_reducible refine r_iZip ?_
    | with_reducible refine r_iKeys ?_
    | with_reducible refine r_iItems ?_
    | with_reducible refine r_iVals ?_
    | with_reducible refine r_lstRg ?_
    | with_reducible refine r_rg1 ?_
    | with_reducible refine r_sortDf ?_
    | with_reducible refine r_bits ?_
    | with_reducible refine r_forT ?_
    | with_reducible refine r_augS ?_
    | with_reducible refine r_gsub ?_
    | with_reducible refine r_bm0 ?_
    | with_reducible refine r_sortLam ?_
    | with_reducible refine r_sfld ?_
    | with_reducible refine r_dput ?_
    | with_reducible refine r_dnewK ?_
    | with_reducible refine r_mk ?_
    | with_reducible refine r_con ?_
    | with_reducible refine r_lockS ?_
    | with_reducible refine r_sl ?_
    | with_reducible refine r_part ?_
    | with_reducible refine r_nopart ?_
    | with_reducible refine r_dget2 ?_
    | with_reducible refine r_isN ?_
    | with_reducible refine r_notN ?_
    | with_reducible refine r_par ?_
    | with_reducible refine r_par2 ?_
    | with_reducible refine r_yes ?_
    | with_reducible refine r_scT ?_)))
section
variable {P : Program} {w : World} {K : PySem.W.Frag} {mg : Str → Option Value} {base : Heap} {C : Ad} {G : List (Addr × Str)}
theorem sc_law_made_font : FnScope ["_law_pen_here", "_law_font_here"] ["_law_pen_here", "_law_font_here"] (defScope (top 91)) := ⟨rfl, rfl, rfl, by decide +kernel, rfl, by decide +kernel, by decide +kernel⟩
theorem d_law_made_font (T : Txt K mg C) (D_Font_init : Ct P w K mg base "Font" C.CF 4 (spFontInit C G)) (D_law_turns : Df P w K mg base "_law_turns" 6 (spLTurns G)) : Df P w K mg base "_law_made_font" 7 (spMFont C G) := by
  have sc := sc_law_made_font
  refine FnT.df (T.fn ("_law_made_font", 91) (by decide)) sc len2 (fun _ _ _ _ _ _ us hl => match us, hl with | [_, _], _ => rfl) (fun f cdv A outer s H vs Q E hr h => ?_)
  have hu := hu_of hr
  have hu64 := hr.units
  have hu0 := Nat.lt_of_succ_lt hu
  obtain ⟨x1, x2, rfl, h⟩ := h
  refine ⟨_, (pss_one (ps_ret (pe_mk D_Font_init (hr.mono (by decide)) rfl (pa_cons (pe_ix (ix_tupK K) (pv 1) pe_int (fun _ _ => rfl)) (pa_cons (pe_df D_law_turns (hr.mono (by decide)) rfl (pa_cons (pv 0) (pa_cons (pv 1) pa_nil))) pa_nil))))), ?_⟩
  obtain ⟨p, b, lf, F, rfl, rfl, hL, hp, q⟩ := h
  obtain ⟨o, hh, hk, h1, h2, h3⟩ := id hL
  decreasing_trivial
  refine ⟨lf, _, 0, _, rfl, rfl, SqT.of h1, rfl, ?_⟩
  decreasing_trivial
  refine r_sp2 ⟨p, b, lf, F, rfl, rfl, hL, hp, fun H1 a tl e1 hp1 ht hl => ?_⟩
  decreasing_trivial
  refine fun x dx hx hdx hne => ?_
  have f1 : Fs G H1 (upd H1 dx (.own x)) := Fm.new hdx
  have hx1 : upd H1 dx (.own x) x = none := (upd_ne hne.symm).trans hx
  have f2 : Fs G H1 (upd (upd H1 dx (.own x)) x (.ins C.CF dx [])) := f1.trans (Fm.new hx1)
  refine r_sp3 ⟨x, dx, a, F, tl, H1, rfl, rfl, rfl, upd_same, f2, Nw.of hx, o, ht, hl, fun H2 e2 hF => ?_⟩
  exact ⟨rfl, q H2 x (e1.trans e2.weak) (hp1.mono e2) hF⟩
end
end Hy
namespace Hy
open PySem PySem.Spec PyProof.Rows L2
local macro_rules | `(tactic| decreasing_trivial) => `(tactic| ((try (with_reducible conv => whnf)); repeat (first
    | with_reducible refine iteT ?_
    | with_reducible refine iteF ?_
    | with_reducible refine iteNT ?_
    | with_reducible refine iteNF ?_
    | with_reducible refine r_isi_int ?_
    | with_reducible refine r_isi_bool ?_
    | with_reducible refine r_isi_str ?_
    | with_reducible refine r_eqN ?_
    | with_reducible refine r_neN ?_
    | with_reducible refine r_eqS ?_
    | with_reducible refine r_neS ?_
    | with_reducible refine r_seq ?_
    | with_reducible refine r_asg ?_
    | with_reducible refine r_gname ?_
    | with_reducible refine r_ret ?_
    | with_reducible refine r_drop ?_
    | with_reducible refine r_next ?_
    | with_reducible refine r_op ?_
    | with_reducible refine r_var (by with_unfolding_all exact rfl) ?_
    | with_reducible refine r_c ?_
    | with_reducible refine r_cons ?_
    | with_reducible refine r_nil ?_
    | with_reducible refine r_un ?_
    | with_reducible refine r_I0 ?_
    | with_reducible refine r_U ?_
    | with_reducible refine r_df ?_
    | with_reducible refine r_cb ?_
    | with_reducible refine r_ifS ?_
    | with_reducible refine r_ifE ?_
    | with_reducible refine r_test ?_
    | with_reducible refine r_B ?_
    | with_reducible refine r_tand ?_
    | with_reducible refine r_tor ?_
    | with_reducible refine r_tnot ?_
    | with_reducible refine r_andV ?_
    | with_reducible refine r_orV ?_
    | with_reducible refine r_notV ?_
    | with_reducible refine r_blif ?_
    | with_reducible refine r_bl ?_
    | with_reducible refine r_chain ?_
    | with_reducible refine r_tup ?_
    | with_reducible refine r_lst ?_
    | with_reducible refine r_fld ?_
    | with_reducible refine r_dget ?_
    | with_reducible refine r_din ?_
    | with_reducible refine r_pt ?_
    | with_reducible refine r_mt ?_
    | with_reducible refine r_iEnumS ?_
    | with_reducible refine r_bm ?_
    | with_reducible refine r_iStr ?_
    | with_reducible refine r_lcT ?_
    | with_reducible refine r_dcT ?_
    | with_reducible refine r_iList ?_
    | with_reducible refine r_iTup ?_
    | with_reducible refine r_iRng1 ?_
    | with_reducible refine r_iRng2 ?_
    | with_reducible refine r_iEnum ?_
    | with_reducible refine r_iZip ?_
    | with_reducible refine r_iKeys ?_
    | with_reducible refine r_iItems ?_
    | with_reducible refine r_iVals ?_
    | with_reducible refine r_lstRg ?_
    | with_reducible refine r_rg1 ?_
    | with_reducible refine r_sortDf ?_
    | with_reducible refine r_bits ?_
    | with_reducible refine r_forT ?_
    | with_reducible refine r_augS ?_
    | with_reducible refine r_gsub ?_
    | with_reducible refine r_bm0 ?_
    | with_reducible refine r_sortLam ?_
    | with_reducible refine r_sfld ?_
    | with_reducible refine r_dput ?_
    | with_reducible refine r_dnewK ?_
    | with_reducible refine r_mk ?_
    | with_reducible refine r_con ?_
    | with_reducible refine r_lockS ?_
    | with_reducible refine r_sl ?_
    | with_reducible refine r_part ?_
    | with_reducible refine r_nopart ?_
    | with_reducible refine r_dget2 ?_
    | with_reducible refine r_isN ?_
    | with_reducible refine r_notN ?_
    | with_reducible refine r_par ?_
    | with_reducible refine r_par2 ?_
    | with_reducible refine r_yes ?_
    | with_reducible refine r_scT ?_)))
section
variable {P : Program} {w : World} {K : PySem.W.Frag} {mg : Str → Option Value} {base : Heap} {C : Ad} {G : List (Addr × Str)}
def unK : V → Nat × Nat
  | .str z => (z.cps.toList.headD 0, (z.cps.toList.drop 1).headD 0)
  | _ => (0, 0)
theorem unK_vK (k : Nat × Nat) : unK (vK k) = k := rfl
theorem cut_take {xs : List V} {d : Nat} : cutV xs none (some ((d : Nat) : Int)) = xs.take d := by
  unfold cutV
  rw [HT.sIx_none, HT.sIx_nat, List.drop_zero, Nat.sub_zero]
  exact (List.take_eq_take_min ..).symm
/-- the pairs of kinds and numbers that are drawn -/
def CntI (ks : List (Nat × Nat)) (i : Nat) (as : List (Key × V)) : Prop := ∃ zs : List ((Nat × Nat) × Int), as = stK zs ∧ zs.map (·.1) = ks.take i ∧ ∀ p ∈ zs, 1 ≤ p.2 ∧ p.2 ≤ 10000000000000000000000000000
theorem sc_law_stock : FnScope ["_law_pen_here", "_law_font_here", "_law_most", "_law_great", "_law_some", "_law_counts", "_law_kind"] ["_law_pen_here", "_law_font_here", "_law_most", "_law_great"] (defScope (top 94)) := ⟨rfl, rfl, rfl, by decide +kernel, rfl, by decide +kernel, by decide +kernel⟩
theorem d_law_stock (T : Txt K mg C) (D_law_draw : Df P w K mg base "_law_draw" 4 (spDrw G)) (D_law_kinds : Df P w K mg base "_law_kinds" 1 (spLKinds G)) (D_law_pick : Df P w K mg base "_law_pick" 5 (spPick G)) (D_law_shuffled : Df P w K mg base "_law_shuffled" 5 (spShuf K G)) : Df P w K mg base "_law_stock" 6 (spLStock G) := by
  have sc := sc_law_stock
  refine FnT.df (T.fn ("_law_stock", 94) (by decide)) sc len4 (fun _ _ _ _ _ _ us hl => match us, hl with | [_, _, _, _], _ => rfl) (fun f cdv A outer s H vs Q E hr h => ?_)
  have hu := hu_of hr
  have hu64 := hr.units
  have hu0 := Nat.lt_of_succ_lt hu
  obtain ⟨x1, x2, x3, x4, rfl, h⟩ := h
  refine ⟨_, (pss_cons (ps_set (i := 4) sc.nd rfl (by first | exact Or.inl rfl | exact Or.inr rfl) (pe_slice (sl_listK K) (pe_df D_law_shuffled (hr.mono (by decide)) rfl (pa_cons (pv 0) (pa_cons (pe_df D_law_kinds (hr.mono (by decide)) rfl (pa_cons (pv 1) pa_nil)) pa_nil))) po_none (po_some (pe_df D_law_draw (hr.mono (by decide)) rfl (pa_cons (pv 0) (pa_cons (pe_op op_add (pv 2) pe_int) pa_nil))))))
  (pss_cons (ps_set (i := 5) sc.nd rfl (by first | exact Or.inl rfl | exact Or.inr rfl) (pe_callTy (call_dictPK K rfl) (by rfl) T.f_dict (by decide +kernel) (pa_cons (pe_lc (own := [("_law_kind", 6)]) rfl sc.nd (pi_listK K (pv 4)) (blkOk_by (N := ["_law_pen_here", "_law_font_here", "_law_most", "_law_great", "_law_some", "_law_counts", "_law_kind"]) (sc := defScope (top 94)) (by decide +kernel)) (fun _ _ _ _ _ => (pg_name (i := 6) sc.nd rfl (by first | exact Or.inl rfl | exact Or.inr rfl))) (fun _ _ _ _ _ => pts_nil) (fun _ _ _ _ _ => (pe_tup (pa_cons (pv 6) (pa_cons (pe_op op_add pe_int (pe_df D_law_draw (hr.mono (by decide)) rfl (pa_cons (pv 0) (pa_cons (pe_df D_law_pick (hr.mono (by decide)) rfl (pa_cons (pv 0) (pa_cons (pe_lst (pa_cons pe_int (pa_cons pe_int (pa_cons pe_int (pa_cons pe_int (pa_cons (pv 3) pa_nil)))))) pa_nil))) pa_nil)))) pa_nil))))) pa_nil)))
  (pss_one (ps_ret (pe_callTy (call_dictPK K rfl) (by rfl) T.f_dict (by decide +kernel) (pa_cons (pe_lc (own := [("_law_kind", 6)]) rfl sc.nd (pi_listK K (pe_df D_law_kinds (hr.mono (by decide)) rfl (pa_cons (pv 1) pa_nil))) (blkOk_by (N := ["_law_pen_here", "_law_font_here", "_law_most", "_law_great", "_law_some", "_law_counts", "_law_kind"]) (sc := defScope (top 94)) (by decide +kernel)) (fun _ _ _ _ _ => (pg_name (i := 6) sc.nd rfl (by first | exact Or.inl rfl | exact Or.inr rfl))) (fun _ _ _ _ _ => pts_one (pt_cmp (pc_din hu (pv 6) (pv 5)))) (fun _ _ _ _ _ => (pe_tup (pa_cons (pv 6) (pa_cons (pe_dget hu (pv 5) (pv 6) (fun _ _ => rfl)) pa_nil))))) pa_nil)))))), ?_⟩
  obtain ⟨p, b, lf, F, rfl, rfl, rfl, rfl, hL, hp, q⟩ := h
  have o := hL.1
  have hkl := kinds_len o
  decreasing_trivial
  refine r_sp1 ⟨lf, F, rfl, hL, fun H1 a1 e1 n1 h1 => ?_⟩
  have hp1 := hp.mono e1
  decreasing_trivial
  refine r_sp2 ⟨p, b + 200, (kinds F).map vK, rfl, .inr ⟨a1, rfl, h1⟩, by rw [List.length_map]; omega, fun H' _ v hv => ?_, hp1.less (by rw [List.length_map]; omega), fun H2 a2 ys e2 n2 hp2 hperm h2 => ?_⟩
  · obtain ⟨k, hk, rfl⟩ := List.mem_map.mp hv
    exact plain_k o ((kinds_mem o).mp hk)
  obtain ⟨ks, rfl, hks⟩ := perm_map_inv (f := vK) (g := unK) unK_vK hperm
  have e02 := e1.weak.trans e2
  decreasing_trivial
  refine r_sp2 ⟨p, b + 196, 6 + 1, rfl, rfl, by decide, by decide, hp2, fun H3 d e3 hp3 hd0 hd7 => ?_⟩
  obtain ⟨j, rfl⟩ : ∃ j : Nat, d = ((j : Nat) : Int) := ⟨d.toNat, by omega⟩
  have h23 := e3.lst h2
  decreasing_trivial
  refine ⟨_, rfl, ?_⟩
  refine ⟨a2, _, rfl, SqL.of h23, fun a3 ha3 => ?_⟩
  rw [cut_take, ← List.map_take]
  have e4 : Fs G H3 (upd H3 a3 (.lst ((ks.take j).map vK))) := Fm.new ha3
  have h3 : upd H3 a3 (.lst ((ks.take j).map vK)) a3 = some (.lst ((ks.take j).map vK)) := upd_same
  have hp4 := hp3.mono e4
  have e04 := (e02.trans e3).trans e4.weak
  have hsl : (ks.take j).length ≤ 6 := by
    rw [List.length_take]
    omega
  have hsn : (ks.take j).Nodup := (hks.nodup_iff.mpr (kinds_nd o)).sublist (List.take_sublist _ _)
  have hsk : ∀ k ∈ ks.take j, F.kOk k := fun k hk => (kinds_mem o).mp (hks.mem_iff.mp (List.mem_of_mem_take hk))
  generalize ks.take j = some' at *
  generalize upd H3 a3 (.lst (some'.map vK)) = H4 at *
  decreasing_trivial
  refine ⟨a3, rfl, ⟨_, SqL.of h3⟩, fun D hD => ?_⟩
  refine cp_it (walk_list (xs := some'.map vK)) (Lx ⟨true, G⟩ RPr H4 D (CntI some') p (fun i => b + 50 + 8 * (6 - i))) (Lx.start hD ⟨[], rfl, rfl, fun _ h => by cases h⟩ (hp4.less (by omega))) (fun i H5 _ hp => SqL.of (hp.1.lst h3)) (fun i x H5 H6 hi hW hx => ?_) (fun H5 hW => ?_)
  · obtain ⟨rfl, hx⟩ := hx
    rw [List.length_map] at hi
    rw [List.getElem?_map] at hx
    cases hc : some'[i]? with
    | none =>
      rw [hc] at hx
      cases hx
    | some k =>
    rw [hc] at hx
    cases hx
    have hp5 : Pen H6 p (b + 50 + 8 * (6 - i)) := hW.2.2
    decreasing_trivial
    refine ⟨rfl, ?_⟩
    decreasing_trivial
    refine ⟨by show 5 ≤ sizeLine; decide, fun l hl => ?_⟩
    have f1 : Fs G H6 (upd H6 l (.lst [V.int 1, V.int 3, V.int 3, V.int 6, V.int 10000000000000000000000000000])) := Fm.new hl
    have g1 : upd H6 l (.lst [V.int 1, V.int 3, V.int 3, V.int 6, V.int 10000000000000000000000000000]) l = some (.lst [V.int 1, V.int 3, V.int 3, V.int 6, V.int 10000000000000000000000000000]) := upd_same
    have hp6 := hp5.mono f1
    generalize upd H6 l (.lst [V.int 1, V.int 3, V.int 3, V.int 6, V.int 10000000000000000000000000000]) = H7 at *
    decreasing_trivial
    refine r_sp2 ⟨p, b + 50 + 8 * (6 - (i + 1)) + 4, l, _, rfl, rfl, g1, by simp, by show 5 ≤ 1000; decide, hp6.less (by omega), fun H8 v f2 hp8 hv => ?_⟩
    have hv2 : ∃ m : Int, v = .int m ∧ 1 ≤ m ∧ m ≤ 10000000000000000000000000000 := by
      simp only [List.mem_cons, List.not_mem_nil, or_false] at hv
      rcases hv with rfl | rfl | rfl | rfl | rfl
      · exact ⟨1, rfl, by decide, by decide⟩
      · exact ⟨3, rfl, by decide, by decide⟩
      · exact ⟨3, rfl, by decide, by decide⟩
      · exact ⟨6, rfl, by decide, by decide⟩
      · exact ⟨_, rfl, by decide, by decide⟩
    obtain ⟨m, rfl, hm1, hm2⟩ := hv2
    decreasing_trivial
    refine r_sp2 ⟨p, b + 50 + 8 * (6 - (i + 1)), m, rfl, rfl, by omega, by omega, hp8, fun H9 z f3 hp9 hz0 hz1 => ?_⟩
    decreasing_trivial
    refine ⟨by show 2 ≤ sizeLine; decide, fun t ht => ?_⟩
    have f4 : Fs G H9 (upd H9 t (.tup [vK k, V.int (1 + z)])) := Fm.new ht
    refine hW.add stb_pr hp4 hD (((f1.weak.trans f2).trans f3).trans f4.weak) (a := (kK k, V.int (1 + z))) ⟨t, rfl, upd_same⟩ (hp9.mono f4) (fun as has => ?_) (fun as has => ?_)
    · obtain ⟨zs, rfl, h4, _⟩ := has
      have := congrArg List.length h4
      rw [List.length_map, List.length_take] at this
      unfold stK
      rw [List.length_map]
      omega
    · obtain ⟨zs, rfl, h4, h5⟩ := has
      refine ⟨zs ++ [(k, 1 + z)], ?_, ?_, fun p hp => ?_⟩
      · unfold stK
        rw [List.map_append]
        rfl
      · rw [List.map_append, h4, List.take_add_one, hc]
        rfl
      · rcases List.mem_append.mp hp with hp | hp
        · exact h5 p hp
        · have : p = (k, 1 + z) := by simpa using hp
          subst this
          exact ⟨by show 1 ≤ 1 + z; omega, by show 1 + z ≤ _; omega⟩
  · obtain ⟨e5, ⟨vs, as, g1, g2, ⟨zs, rfl, g4, g5⟩, g6⟩, hp5⟩ := hW
    rw [List.length_map, List.take_length] at g4
    dsimp only at hp5
    have hzn : (zs.map (·.1)).Nodup := by rw [g4]; exact hsn
    decreasing_trivial
    refine r_dictPr g1 g2 (stK_nd hzn) fun cd hcd => ?_
    have e6 : Fs G H5 (upd H5 cd (.dK (stK zs))) := Fm.new hcd
    have g7 : upd H5 cd (.dK (stK zs)) cd = some (.dK (stK zs)) := upd_same
    have e06 := (e04.trans e5).trans e6.weak
    have hp6 := hp5.mono e6
    generalize upd H5 cd (.dK (stK zs)) = H6 at *
    decreasing_trivial
    refine r_sp1 ⟨lf, F, rfl, hL.mono e06, fun H7 a7 e7 n7 h7 => ?_⟩
    have g77 := e7.dct g7 (dOk_st zs)
    have hp7 := hp6.mono e7
    decreasing_trivial
    refine ⟨a7, rfl, ⟨_, SqL.of h7⟩, fun D2 hD2 => ?_⟩
    have hcv : ∀ k, ∃ z : Int, (k ∈ some' → valV (stK zs) (kK k) = some (.int z) ∧ 1 ≤ z ∧ z ≤ 10000000000000000000000000000) ∧ (k ∉ some' → valV (stK zs) (kK k) = none) := fun k => by
      by_cases hk : k ∈ some'
      · rw [← g4] at hk
        obtain ⟨pr, hpr, rfl⟩ := List.mem_map.mp hk
        refine ⟨pr.2, fun _ => ⟨valV_self (stK_nd hzn) (List.mem_map.mpr ⟨pr, hpr, rfl⟩), g5 pr hpr⟩, fun hn => ?_⟩
        rw [← g4] at hn
        exact absurd hk hn
      · refine ⟨0, fun z => absurd z hk, fun _ => val_none fun p hp e => hk ?_⟩
        obtain ⟨pr, hpr, rfl⟩ := List.mem_map.mp hp
        rw [← g4, ← kK_inj.mp e]
        exact List.mem_map.mpr ⟨pr, hpr, rfl⟩
    obtain ⟨cv, hcv⟩ : ∃ cv : Nat × Nat → Int, ∀ k, (k ∈ some' → valV (stK zs) (kK k) = some (.int (cv k)) ∧ 1 ≤ cv k ∧ cv k ≤ 10000000000000000000000000000) ∧ (k ∉ some' → valV (stK zs) (kK k) = none) := ⟨fun k => Classical.choose (hcv k), fun k => Classical.choose_spec (hcv k)⟩
    refine cp_it (walk_list (xs := (kinds F).map vK)) (Lr ⟨false, G⟩ RPr H7 D2 (giv (fun k => decide (k ∈ some')) (fun k => (kK k, V.int (cv k))) (kinds F))) (Lr.start hD2 (giv_zero _ _ _)) (fun i H8 _ hp => SqL.of (hp.1.lst h7)) (fun i x H8 H9 hi hW hx => ?_) (fun H8 hW => ?_)
    · obtain ⟨rfl, hx⟩ := hx
      rw [List.getElem?_map] at hx
      cases hc : (kinds F)[i]? with
      | none =>
        rw [hc] at hx
        cases hx
      | some k =>
      rw [hc] at hx
      cases hx
      have g78 := hW.1.dct g77 (dOk_st zs)
      decreasing_trivial
      refine ⟨rfl, ?_⟩
      decreasing_trivial
      refine r_din1 (k := kK k) (.inl g78) rfl ?_
      by_cases hk : k ∈ some'
      · obtain ⟨c1, c2, c3⟩ := (hcv k).1 hk
        rw [c1]
        decreasing_trivial
        refine iteE rfl ?_
        decreasing_trivial
        refine r_dget1 (k := kK k) (.inl g78) rfl c1 ?_
        decreasing_trivial
        refine ⟨by show 2 ≤ sizeLine; decide, fun t ht => ?_⟩
        have f4 : Fs G H9 (upd H9 t (.tup [vK k, V.int (cv k)])) := Fm.new ht
        exact hW.add stb_pr hD2 f4 ⟨t, rfl, upd_same⟩ (Nat.le_trans (giv_len _ _ _ _) (by omega)) (giv_yes hc (decide_eq_true hk))
      · rw [(hcv k).2 hk]
        decreasing_trivial
        refine iteN rfl ?_
        exact hW.skip stb_pr (Fm.refl _) (giv_no hc (decide_eq_false hk))
    · obtain ⟨e8, vs2, g8, g9⟩ := hW
      rw [List.length_map, giv_all] at g9
      have estK : ((kinds F).filter fun k => decide (k ∈ some')).map (fun k => (kK k, V.int (cv k))) = stK (((kinds F).filter fun k => decide (k ∈ some')).map fun k => (k, cv k)) := by
        unfold stK
        rw [List.map_map]
        rfl
      rw [estK] at g9
      have hmm : (((kinds F).filter fun k => decide (k ∈ some')).map fun k => (k, cv k)).map (·.1) = (kinds F).filter fun k => decide (k ∈ some') := by
        rw [List.map_map]
        exact List.map_id' _
      have hst : LSt F (((kinds F).filter fun k => decide (k ∈ some')).map fun k => (k, cv k)) := by
        have hlen : (((kinds F).filter fun k => decide (k ∈ some')).map fun k => (k, cv k)).length ≤ 6 := by
          rw [List.length_map]
          exact Nat.le_trans (nd_len ((kinds_nd o).filter _) fun k hk => of_decide_eq_true (List.mem_filter.mp hk).2) hsl
        refine ⟨⟨?_, fun p hp => ?_, fun p hp => ?_, fun p hp => ?_, by omega⟩, fun p hp => ?_, hlen⟩
        · rw [hmm]
          exact (kinds_nd o).filter _
        · obtain ⟨k, hk, rfl⟩ := List.mem_map.mp hp
          exact (kinds_mem o).mp (List.mem_filter.mp hk).1
        · obtain ⟨k, hk, rfl⟩ := List.mem_map.mp hp
          have := ((hcv k).1 (of_decide_eq_true (List.mem_filter.mp hk).2)).2
          show 0 < cv k
          omega
        · obtain ⟨k, hk, rfl⟩ := List.mem_map.mp hp
          have := ((hcv k).1 (of_decide_eq_true (List.mem_filter.mp hk).2)).2
          show cv k ≤ _
          omega
        · obtain ⟨k, hk, rfl⟩ := List.mem_map.mp hp
          exact ((hcv k).1 (of_decide_eq_true (List.mem_filter.mp hk).2)).2.2
      decreasing_trivial
      refine r_dictPr g8 g9 (stK_nd hst.1.nd) fun r hr2 => ?_
      have e9 : Fs G H8 (upd H8 r (.dK (stK (((kinds F).filter fun k => decide (k ∈ some')).map fun k => (k, cv k))))) := Fm.new hr2
      exact q _ r _ (e06.trans (e7.trans (e8.trans e9)).weak) (((hp7.mono e8).mono e9).less (by omega)) hst upd_same
end
end Hy
namespace Hy
open PySem PySem.Spec PyProof.Rows L2
local macro_rules | `(tactic| decreasing_trivial) => `(tactic| ((try (with_reducible conv => whnf)); repeat (first
    | with_reducible refine iteT ?_
    | with_reducible refine iteF ?_
    | with_reducible refine iteNT ?_
    | with_reducible refine iteNF ?_
    | with_reducible refine r_isi_int ?_
    | with_reducible refine r_isi_bool ?_
    | with_reducible refine r_isi_str ?_
    | with_reducible refine r_eqN ?_
    | with_reducible refine r_neN ?_
    | with_reducible refine r_eqS ?_
    | with_reducible refine r_neS ?_
    | with_reducible refine r_seq ?_
    | with_reducible refine r_asg ?_
    | with_reducible refine r_gname ?_
    | with_reducible refine r_ret ?_
    | with_reducible refine r_drop ?_
    | with_reducible refine r_next ?_
    | with_reducible refine r_op ?_
    | with_reducible refine r_var (by with_unfolding_all exact rfl) ?_
    | with_reducible refine r_c ?_
    | with_reducible refine r_cons ?_
    | with_reducible refine r_nil ?_
    | with_reducible refine r_un ?_
    | with_reducible refine r_I0 ?_
    | with_reducible refine r_U ?_
    | with_reducible refine r_df ?_
    | with_reducible refine r_cb ?_
    | with_reducible refine r_ifS ?_
    | with_reducible refine r_ifE ?_
    | with_reducible refine r_test ?_
    | with_reducible refine r_B ?_
    | with_reducible refine r_tand ?_
    | with_reducible refine r_tor ?_
    | with_reducible refine r_tnot ?_
    | with_reducible refine r_andV ?_
    | with_reducible refine r_orV ?_
    | with_reducible refine r_notV ?_
    | with_reducible refine r_blif ?_
    | with_reducible refine r_bl ?_
    | with_reducible refine r_chain ?_
    | with_reducible refine r_tup ?_
    | with_reducible refine r_lst ?_
    | with_reducible refine r_fld ?_
    | with_reducible refine r_dget ?_
    | with_reducible refine r_din ?_
    | with_reducible refine r_pt ?_
    | with_reducible refine r_mt ?_
    | with_reducible refine r_iEnumS ?_
    | with_reducible refine r_bm ?_
    | with_reducible refine r_iStr ?_
    | with_reducible refine r_lcT ?_
    | with_reducible refine r_dcT ?_
    | with_reducible refine r_iList ?_
    | with_reducible refine r_iTup ?_
    | with_reducible refine r_iRng1 ?_
    | with_reducible refine r_iRng2 ?_
    | with_reducible refine r_iEnum ?_
    | with_reducible refine r_iZip ?_
    | with_reducible refine r_iKeys ?_
    | with_reducible refine r_iItems ?_
    | with_reducible refine r_iVals ?_
    | with_reducible refine r_lstRg ?_
    | with_reducible refine r_rg1 ?_
    | with_reducible refine r_sortDf ?_
    | with_reducible refine r_bits ?_
    | with_reducible refine r_forT ?_
    | with_reducible refine r_augS ?_
    | with_reducible refine r_gsub ?_
    | with_reducible refine r_bm0 ?_
    | with_reducible refine r_sortLam ?_
    | with_reducible refine r_sfld ?_
    | with_reducible refine r_dput ?_
    | with_reducible refine r_dnewK ?_
    | with_reducible refine r_mk ?_
    | with_reducible refine r_con ?_
    | with_reducible refine r_lockS ?_
    | with_reducible refine r_sl ?_
    | with_reducible refine r_part ?_
    | with_reducible refine r_nopart ?_
    | with_reducible refine r_dget2 ?_
    | with_reducible refine r_isN ?_
    | with_reducible refine r_notN ?_
    | with_reducible refine r_par ?_
    | with_reducible refine r_par2 ?_
    | with_reducible refine r_yes ?_
    | with_reducible refine r_scT ?_)))
section
variable {P : Program} {w : World} {K : PySem.W.Frag} {mg : Str → Option Value} {base : Heap} {C : Ad} {G : List (Addr × Str)}
theorem stK_keys (st : List ((Nat × Nat) × Int)) : (stK st).map (fun kv => kV kv.1) = st.map fun p => vK p.1 := by
  unfold stK
  rw [List.map_map]
  rfl
theorem sc_law_made_case : FnScope ["_law_pen_here", "_law_house", "_law_stock_here", "_law_rows", "_law_kind"] ["_law_pen_here", "_law_house", "_law_stock_here"] (defScope (top 95)) := ⟨rfl, rfl, rfl, by decide +kernel, rfl, by decide +kernel, by decide +kernel⟩
theorem d_law_made_case (T : Txt K mg C) (D_Case_init : Ct P w K mg base "Case" C.CC 10 (spCaseInit C G)) (D_law_pick : Df P w K mg base "_law_pick" 5 (spPick G)) (D_law_shuffled : Df P w K mg base "_law_shuffled" 5 (spShuf K G)) : Df P w K mg base "_law_made_case" 12 (spMCase C G) := by
  have sc := sc_law_made_case
  refine FnT.df (T.fn ("_law_made_case", 95) (by decide)) sc len3 (fun _ _ _ _ _ _ us hl => match us, hl with | [_, _, _], _ => rfl) (fun f cdv A outer s H vs Q E hr h => ?_)
  have hu := hu_of hr
  have hu64 := hr.units
  have hu0 := Nat.lt_of_succ_lt hu
  obtain ⟨x1, x2, x3, rfl, h⟩ := h
  refine ⟨_, (pss_cons (ps_setLc (i := 3) (own := [("_law_kind", 4)]) rfl sc.nd rfl rfl (sw_true rfl rfl rfl (by decide +kernel)) (pi_listK K (pe_df D_law_shuffled (hr.mono (by decide)) rfl (pa_cons (pv 0) (pa_cons (pe_callTy (call_list_dK rfl) (by rfl) T.f_list (by decide +kernel) (pa_cons (pv 2) pa_nil)) pa_nil)))) (blkOk_by (N := ["_law_pen_here", "_law_house", "_law_stock_here", "_law_rows", "_law_kind"]) (sc := defScope (top 95)) (by decide +kernel)) (fun _ _ _ _ _ => (pg_name (i := 4) sc.nd rfl (by first | exact Or.inl rfl | exact Or.inr rfl))) (fun _ _ _ _ _ => pts_nil) (fun _ _ _ _ _ => (pe_tup (pa_cons (pe_df D_law_pick (hr.mono (by decide)) rfl (pa_cons (pv 0) (pa_cons (pe_lst (pa_cons (pv 4) (pa_cons (pe_rev2 (pv 4)) pa_nil))) pa_nil))) (pa_cons (pe_dget hu (pv 2) (pv 4) (fun _ _ => rfl)) pa_nil)))))
  (pss_one (ps_ret (pe_mk D_Case_init (hr.mono (by decide)) rfl (pa_cons (pv 1) (pa_cons (pe_df D_law_pick (hr.mono (by decide)) rfl (pa_cons (pv 0) (pa_cons (pe_lst (pa_cons (pv 3) (pa_cons (pe_callTy (call_tuple_ofK K) (by rfl) T.f_tuple (by decide +kernel) (pa_cons (pv 3) pa_nil)) pa_nil))) pa_nil))) pa_nil)))))), ?_⟩
  obtain ⟨p, b, f', d, F, st, rfl, rfl, rfl, hF, hd, so, hT, hp, q⟩ := h
  have o := hF.1
  have hl20 := so.len
  decreasing_trivial
  refine ⟨d, stK st, rfl, hd, fun l1 hl1 => ?_⟩
  rw [stK_keys]
  have e1 : Fs G H (upd H l1 (.lst (st.map fun p => vK p.1))) := Fm.new hl1
  have g1 : upd H l1 (.lst (st.map fun p => vK p.1)) l1 = some (.lst (st.map fun p => vK p.1)) := upd_same
  have hp1 := hp.mono e1
  generalize upd H l1 (.lst (st.map fun p => vK p.1)) = H1 at *
  decreasing_trivial
  refine r_sp2 ⟨p, b + 200, st.map fun p => vK p.1, rfl, .inr ⟨l1, rfl, g1⟩, by rw [List.length_map]; omega, fun H' _ v hv => ?_, hp1.less (by rw [List.length_map]; omega), fun H2 a2 ys e2 n2 hp2 hperm h2 => ?_⟩
  · obtain ⟨k, hk, rfl⟩ := List.mem_map.mp hv
    exact plain_k o (so.ok k hk)
  obtain ⟨s2, rfl, hs2⟩ := perm_map_ex (f := fun p : (Nat × Nat) × Int => vK p.1) hperm rfl
  have e02 := e1.weak.trans e2
  have so2 := so.perm hs2
  have hl2 := so2.len
  have hd2 := e02.dct hd (dOk_st st)
  decreasing_trivial
  refine ⟨a2, rfl, ⟨_, SqL.of h2⟩, fun D hD => ?_⟩
  refine cp_it (walk_list (xs := s2.map fun p => vK p.1)) (Lx ⟨true, G⟩ RRow H2 D (fun i as => as = s2.take i) p (fun i => b + 50 + 4 * (20 - i))) (Lx.start hD rfl (hp2.less (by omega))) (fun i H5 _ hp => SqL.of (hp.1.lst h2)) (fun i x H5 H6 hi hW hx => ?_) (fun H5 hW => ?_)
  · obtain ⟨rfl, hx⟩ := hx
    rw [List.length_map] at hi
    rw [List.getElem?_map] at hx
    cases hc : s2[i]? with
    | none =>
      rw [hc] at hx
      cases hx
    | some pr =>
    rw [hc] at hx
    cases hx
    have hp5 : Pen H6 p (b + 50 + 4 * (20 - i)) := hW.2.2
    have hmem := hs2.mem_iff.mp (List.mem_of_getElem? hc)
    have hval := so.val hmem
    have hd5 := hW.1.dct hd2 (dOk_st st)
    decreasing_trivial
    refine ⟨rfl, ?_⟩
    decreasing_trivial
    refine ⟨vK pr.1, rfl, pr.1.1, pr.1.2, rfl, ?_⟩
    decreasing_trivial
    refine ⟨by show 2 ≤ sizeLine; decide, fun l hl => ?_⟩
    have f1 : Fs G H6 (upd H6 l (.lst [vK pr.1, V.str ⟨#[pr.1.2, pr.1.1]⟩])) := Fm.new hl
    have k1 : upd H6 l (.lst [vK pr.1, V.str ⟨#[pr.1.2, pr.1.1]⟩]) l = some (.lst [vK pr.1, V.str ⟨#[pr.1.2, pr.1.1]⟩]) := upd_same
    have hp6 := hp5.mono f1
    generalize upd H6 l (.lst [vK pr.1, V.str ⟨#[pr.1.2, pr.1.1]⟩]) = H7 at *
    decreasing_trivial
    refine r_sp2 ⟨p, b + 50 + 4 * (20 - (i + 1)), l, _, rfl, rfl, k1, by simp, by show 2 ≤ 1000; decide, hp6.less (by omega), fun H8 v f2 hp8 hv => ?_⟩
    have hv2 : ∃ z : Str, v = .str z ∧ (z = K2 pr.1 ∨ z = K2 (pr.1.2, pr.1.1)) := by
      simp only [List.mem_cons, List.not_mem_nil, or_false] at hv
      rcases hv with rfl | rfl
      · exact ⟨_, rfl, .inl rfl⟩
      · exact ⟨_, rfl, .inr rfl⟩
    obtain ⟨z, rfl, hz⟩ := hv2
    have hd8 := f2.dct (f1.dct hd5 (dOk_st st)) (dOk_st st)
    decreasing_trivial
    refine r_dget1 (k := kK pr.1) (.inl hd8) rfl hval ?_
    decreasing_trivial
    refine ⟨by show 2 ≤ sizeLine; decide, fun t ht => ?_⟩
    have f4 : Fs G H8 (upd H8 t (.tup [V.str z, V.int pr.2])) := Fm.new ht
    refine hW.add stb_row hp2 hD ((f1.weak.trans f2).trans f4.weak) (a := pr) ⟨t, z, rfl, upd_same, hz⟩ (hp8.mono f4) (fun as has => ?_) (fun as has => ?_)
    · rw [has, List.length_take]
      omega
    · rw [has, List.take_add_one, hc]
      rfl
  · obtain ⟨e5, ⟨vs, as, g2, g3, g4, g6⟩, hp5⟩ := hW
    rw [List.length_map, List.take_length] at g4
    subst g4
    have hp5 : Pen H5 p (b + 50) := hp5.less (by dsimp only; omega)
    have e05 := e02.trans e5
    decreasing_trivial
    refine ⟨D, vs, rfl, .inl ⟨SqL.of g2, fun l3 hl3 => ?_⟩⟩
    have e6 : Fs G H5 (upd H5 l3 (.tup vs)) := Fm.new hl3
    have k3 : upd H5 l3 (.tup vs) l3 = some (.tup vs) := upd_same
    have r1 : RowsAt (upd H5 l3 (.tup vs)) D as := ⟨vs, .inl (e6.lst g2), paired_imp g3 fun _ _ r => stb_row.mono e6 r⟩
    have r2 : RowsAt (upd H5 l3 (.tup vs)) l3 as := ⟨vs, .inr k3, paired_imp g3 fun _ _ r => stb_row.mono e6 r⟩
    have hp6 := hp5.mono e6
    generalize upd H5 l3 (.tup vs) = H6 at *
    decreasing_trivial
    refine ⟨by show 2 ≤ sizeLine; decide, fun l4 hl4 => ?_⟩
    have e7 : Fs G H6 (upd H6 l4 (.lst [V.ref D, V.ref l3])) := Fm.new hl4
    have k4 : upd H6 l4 (.lst [V.ref D, V.ref l3]) l4 = some (.lst [V.ref D, V.ref l3]) := upd_same
    have r1' := r1.mono e7
    have r2' := r2.mono e7
    have hp7 := hp6.mono e7
    generalize upd H6 l4 (.lst [V.ref D, V.ref l3]) = H7 at *
    decreasing_trivial
    refine r_sp2 ⟨p, b, l4, _, rfl, rfl, k4, by simp, by show 2 ≤ 1000; decide, hp7.less (by omega), fun H8 v e8 hp8 hv => ?_⟩
    have hv2 : ∃ a, v = .ref a ∧ RowsAt H8 a as := by
      simp only [List.mem_cons, List.not_mem_nil, or_false] at hv
      rcases hv with rfl | rfl
      · exact ⟨_, rfl, r1'.mono e8⟩
      · exact ⟨_, rfl, r2'.mono e8⟩
    obtain ⟨a, rfl, ra⟩ := hv2
    have e08 := e05.trans ((e6.trans e7).weak.trans e8)
    decreasing_trivial
    refine fun x dx hx hdx hne => ?_
    have f1 : Fs G H8 (upd H8 dx (.own x)) := Fm.new hdx
    have hx1 : upd H8 dx (.own x) x = none := (upd_ne hne.symm).trans hx
    have f2 : Fs G H8 (upd (upd H8 dx (.own x)) x (.ins C.CC dx [])) := f1.trans (Fm.new hx1)
    refine r_sp3 ⟨x, dx, f', a, F, as, H8, rfl, rfl, rfl, upd_same, f2, Nw.of hx, hF.mono e08, ra, so2, e08.tb hT, fun H9 s3 e9 hs3 hC => ?_⟩
    exact ⟨rfl, q H9 x s3 (e08.trans e9.weak) (hp8.mono e9) (hs3.trans hs2) hC⟩
end
end Hy
namespace Hy
open PySem PySem.Spec PyProof.Rows L2
local macro_rules | `(tactic| decreasing_trivial) => `(tactic| ((try (with_reducible conv => whnf)); repeat (first
    | with_reducible refine iteT ?_
    | with_reducible refine iteF ?_
    | with_reducible refine iteNT ?_
    | with_reducible refine iteNF ?_
    | with_reducible refine r_isi_int ?_
    | with_reducible refine r_isi_bool ?_
    | with_reducible refine r_isi_str ?_
    | with_reducible refine r_eqN ?_
    | with_reducible refine r_neN ?_
    | with_reducible refine r_eqS ?_
    | with_reducible refine r_neS ?_
    | with_reducible refine r_seq ?_
    | with_reducible refine r_asg ?_
    | with_reducible refine r_gname ?_
    | with_reducible refine r_ret ?_
    | with_reducible refine r_drop ?_
    | with_reducible refine r_next ?_
    | with_reducible refine r_op ?_
    | with_reducible refine r_var (by with_unfolding_all exact rfl) ?_
    | with_reducible refine r_c ?_
    | with_reducible refine r_cons ?_
    | with_reducible refine r_nil ?_
    | with_reducible refine r_un ?_
    | with_reducible refine r_I0 ?_
    | with_reducible refine r_U ?_
    | with_reducible refine r_df ?_
    | with_reducible refine r_cb ?_
    | with_reducible refine r_ifS ?_
    | with_reducible refine r_ifE ?_
    | with_reducible refine r_test ?_
    | with_reducible refine r_B ?_
    | with_reducible refine r_tand ?_
    | with_reducible refine r_tor ?_
    | with_reducible refine r_tnot ?_
    | with_reducible refine r_andV ?_
    | with_reducible refine r_orV ?_
    | with_reducible refine r_notV ?_
    | with_reducible refine r_blif ?_
    | with_reducible refine r_bl ?_
    | with_reducible refine r_chain ?_
    | with_reducible refine r_tup ?_
    | with_reducible refine r_lst ?_
    | with_reducible refine r_fld ?_
    | with_reducible refine r_dget ?_
    | with_reducible refine r_din ?_
    | with_reducible refine r_pt ?_
    | with_reducible refine r_mt ?_
    | with_reducible refine r_iEnumS ?_
    | with_reducible refine r_bm ?_
    | with_reducible refine r_iStr ?_
    | with_reducible refine r_lcT ?_
    | with_reducible refine r_dcT ?_
    | with_reducible refine r_iList ?_
    | with_reducible refine r_iTup ?_
    | with_reducible refine r_iRng1 ?_
    | with_reducible refine r_iRng2 ?_
    | with_reducible refine r_iEnum ?_
    | with_reducible refine r_iZip ?_
    | with_reducible refine r_iKeys ?_
    | with_reducible refine r_iItems ?_
    | with_reducible refine r_iVals ?_
    | with_reducible refine r_lstRg ?_
    | with_reducible refine r_rg1 ?_
    | with_reducible refine r_sortDf ?_
    | with_reducible refine r_bits ?_
    | with_reducible refine r_forT ?_
    | with_reducible refine r_augS ?_
    | with_reducible refine r_gsub ?_
    | with_reducible refine r_bm0 ?_
    | with_reducible refine r_sortLam ?_
    | with_reducible refine r_sfld ?_
    | with_reducible refine r_dput ?_
    | with_reducible refine r_dnewK ?_
    | with_reducible refine r_mk ?_
    | with_reducible refine r_con ?_
    | with_reducible refine r_lockS ?_
    | with_reducible refine r_sl ?_
    | with_reducible refine r_part ?_
    | with_reducible refine r_nopart ?_
    | with_reducible refine r_dget2 ?_
    | with_reducible refine r_isN ?_
    | with_reducible refine r_notN ?_
    | with_reducible refine r_par ?_
    | with_reducible refine r_par2 ?_
    | with_reducible refine r_yes ?_
    | with_reducible refine r_scT ?_)))
section
variable {P : Program} {w : World} {K : PySem.W.Frag} {mg : Str → Option Value} {base : Heap} {C : Ad} {G : List (Addr × Str)}
theorem sc_law_made_wants : FnScope ["_law_pen_here", "_law_house", "_law_need_here", "_law_zeros", "_law_sign"] ["_law_pen_here", "_law_house", "_law_need_here"] (defScope (top 99)) := ⟨rfl, rfl, rfl, by decide +kernel, rfl, by decide +kernel, by decide +kernel⟩
theorem d_law_made_wants (T : Txt K mg C) (D_Wants_init : Ct P w K mg base "Wants" C.CW 4 (spWantsInit C G)) (D_law_draw : Df P w K mg base "_law_draw" 4 (spDrw G)) (D_law_shuffled : Df P w K mg base "_law_shuffled" 5 (spShuf K G)) : Df P w K mg base "_law_made_wants" 6 (spMWants C G) := by
  have sc := sc_law_made_wants
  refine FnT.df (T.fn ("_law_made_wants", 99) (by decide)) sc len3 (fun _ _ _ _ _ _ us hl => match us, hl with | [_, _, _], _ => rfl) (fun f cdv A outer s H vs Q E hr h => ?_)
  have hu := hu_of hr
  have hu64 := hr.units
  have hu0 := Nat.lt_of_succ_lt hu
  obtain ⟨x1, x2, x3, rfl, h⟩ := h
  refine ⟨_, (pss_cons (ps_set (i := 3) sc.nd rfl (by first | exact Or.inl rfl | exact Or.inr rfl) (pe_df D_law_draw (hr.mono (by decide)) rfl (pa_cons (pv 0) (pa_cons pe_int pa_nil))))
  (pss_one (ps_ret (pe_mk D_Wants_init (hr.mono (by decide)) rfl (pa_cons (pv 1) (pa_cons (pe_callTy (call_dictPK K rfl) (by rfl) T.f_dict (by decide +kernel) (pa_cons (pe_lc (own := [("_law_sign", 4)]) rfl sc.nd (pi_listK K (pe_df D_law_shuffled (hr.mono (by decide)) rfl (pa_cons (pv 0) (pa_cons (pe_callTy (call_list_dK rfl) (by rfl) T.f_list (by decide +kernel) (pa_cons (pv 2) pa_nil)) pa_nil)))) (blkOk_by (N := ["_law_pen_here", "_law_house", "_law_need_here", "_law_zeros", "_law_sign"]) (sc := defScope (top 99)) (by decide +kernel)) (fun _ _ _ _ _ => (pg_name (i := 4) sc.nd rfl (by first | exact Or.inl rfl | exact Or.inr rfl))) (fun _ _ _ _ _ => pts_one (pt_cmpR op_ge (pe_dget hu (pv 2) (pv 4) (fun _ _ => rfl)) (pv 3) (nomark _))) (fun _ _ _ _ _ => (pe_tup (pa_cons (pv 4) (pa_cons (pe_dget hu (pv 2) (pv 4) (fun _ _ => rfl)) pa_nil))))) pa_nil)) pa_nil)))))), ?_⟩
  obtain ⟨p, b, f', d, F, n, rfl, rfl, rfl, hF, hd, hn0, hp, q⟩ := h
  have o := hF.1
  have hw5 := o.hi
  decreasing_trivial
  refine r_sp2 ⟨p, b + 80, 2, rfl, rfl, by decide, by decide, hp.less (by omega), fun H1 z e1 hp1 hz0 hz2 => ?_⟩
  have hd1 := e1.dct hd (dOk_nm F n)
  decreasing_trivial
  refine ⟨d, nmK F n, rfl, hd1, fun l1 hl1 => ?_⟩
  have ek : (nmK F n).map (fun kv => kV kv.1) = F.ws.map vS := by
    unfold nmK
    rw [List.map_map]
    rfl
  rw [ek]
  have e2 : Fs G H1 (upd H1 l1 (.lst (F.ws.map vS))) := Fm.new hl1
  have g2 : upd H1 l1 (.lst (F.ws.map vS)) l1 = some (.lst (F.ws.map vS)) := upd_same
  have hp2 := hp1.mono e2
  have hd2 := e2.dct hd1 (dOk_nm F n)
  generalize upd H1 l1 (.lst (F.ws.map vS)) = H2 at *
  decreasing_trivial
  refine r_sp2 ⟨p, b + 10, F.ws.map vS, rfl, .inr ⟨l1, rfl, g2⟩, by rw [List.length_map]; omega, fun H' _ v hv => plain_vs (fun c hc => ws_small o hc) H' v hv, hp2.less (by rw [List.length_map]; omega), fun H3 a3 ys e3 n3 hp3 hperm h3 => ?_⟩
  obtain ⟨ls, rfl, hls⟩ := perm_map_inv (f := vS) (g := unS) unS_vS hperm
  have hd3 := e3.dct hd2 (dOk_nm F n)
  have e03 := (e1.trans e2.weak).trans e3
  have hll := hls.length_eq
  decreasing_trivial
  refine ⟨a3, rfl, ⟨_, SqL.of h3⟩, fun D hD => ?_⟩
  refine cp_it (walk_list (xs := ls.map vS)) (Lr ⟨false, G⟩ RPr H3 D (giv (fun c => decide (z ≤ n c)) (fun c => (kS c, V.int (n c))) ls)) (Lr.start hD (giv_zero _ _ _)) (fun i H5 _ hp => SqL.of (hp.1.lst h3)) (fun i x H5 H6 hi hW hx => ?_) (fun H5 hW => ?_)
  · obtain ⟨rfl, hx⟩ := hx
    rw [List.getElem?_map] at hx
    cases hc : ls[i]? with
    | none =>
      rw [hc] at hx
      cases hx
    | some c =>
    rw [hc] at hx
    cases hx
    have hcw : c ∈ F.ws := hls.mem_iff.mp (List.mem_of_getElem? hc)
    have hd5 := hW.1.dct hd3 (dOk_nm F n)
    have hval : valV (nmK F n) (kS c) = some (.int (n c)) := by rw [nm_get, if_pos hcw]
    decreasing_trivial
    refine ⟨rfl, ?_⟩
    decreasing_trivial
    refine r_dget1 (k := kS c) (.inl hd5) rfl hval ?_
    decreasing_trivial
    refine iteD (fun ez => ?_) (fun ez => ?_)
    · decreasing_trivial
      refine r_dget1 (k := kS c) (.inl hd5) rfl hval ?_
      decreasing_trivial
      refine ⟨by show 2 ≤ sizeLine; decide, fun t ht => ?_⟩
      have f4 : Fs G H6 (upd H6 t (.tup [vS c, V.int (n c)])) := Fm.new ht
      exact hW.add stb_pr hD f4 ⟨t, rfl, upd_same⟩ (Nat.le_trans (giv_len _ _ _ _) (by omega)) (giv_yes hc ez)
    · exact hW.skip stb_pr (Fm.refl _) (giv_no hc ez)
  · obtain ⟨e5, vs, g5, g6⟩ := hW
    rw [List.length_map, giv_all] at g6
    have hlsn : ls.Nodup := hls.nodup_iff.mpr o.nd
    have hkn : (((ls.filter fun c => decide (z ≤ n c)).map fun c => (kS c, V.int (n c))).map (·.1)).Nodup := by
      rw [List.map_map]
      exact List.pairwise_map.mpr ((hlsn.filter _).imp fun hab e => hab (kS_inj.mp e))
    have hp5 := hp3.mono e5
    decreasing_trivial
    refine r_dictPr g5 g6 hkn fun r hr2 => ?_
    have hvm : ∀ c, valV ((ls.filter fun c => decide (z ≤ n c)).map fun c => (kS c, V.int (n c))) (kS c) = if c ∈ ls.filter (fun c => decide (z ≤ n c)) then some (.int (n c)) else none := fun c => val_map kS (fun a b => kS_inj) (fun c => V.int (n c)) _ c
    have hlen : ((ls.filter fun c => decide (z ≤ n c)).map fun c => (kS c, V.int (n c))).length ≤ 5 := by
      rw [List.length_map]
      exact Nat.le_trans (List.length_filter_le _ _) (by omega)
    have hkey : ∀ pr ∈ (ls.filter fun c => decide (z ≤ n c)).map fun c => (kS c, V.int (n c)), (∃ c ∈ F.ws, pr.1 = kS c) ∧ ∃ i : Int, pr.2 = .int i ∧ 0 ≤ i := fun pr hpr => by
      obtain ⟨c, hc, rfl⟩ := List.mem_map.mp hpr
      exact ⟨⟨c, hls.mem_iff.mp (List.mem_filter.mp hc).1, rfl⟩, n c, rfl, hn0 c⟩
    have hget : ∀ c ∈ F.ws, (valV ((ls.filter fun c => decide (z ≤ n c)).map fun c => (kS c, V.int (n c))) (kS c)).getD (.int 0) = .int (n c) := fun c hc => by
      rw [hvm c]
      by_cases h9 : z ≤ n c
      · rw [if_pos (List.mem_filter.mpr ⟨hls.mem_iff.mpr hc, decide_eq_true h9⟩)]
        rfl
      · rw [if_neg (c := c ∈ ls.filter (fun c => decide (z ≤ n c))) (fun y => h9 (of_decide_eq_true (List.mem_filter.mp y).2))]
        have := hn0 c
        have h0 : n c = 0 := by omega
        rw [h0]
        rfl
    generalize (ls.filter fun c => decide (z ≤ n c)).map (fun c => (kS c, V.int (n c))) = kvs at *
    have hck : CntK F kvs := ⟨hkey, by omega⟩
    have e6 : Fs G H5 (upd H5 r (.dK kvs)) := Fm.new hr2
    have g7 : upd H5 r (.dK kvs) r = some (.dK kvs) := upd_same
    have e06 := e03.trans (e5.trans e6).weak
    have hp6 := hp5.mono e6
    generalize upd H5 r (.dK kvs) = H6 at *
    decreasing_trivial
    refine fun x dx hx hdx hne => ?_
    have f1 : Fs G H6 (upd H6 dx (.own x)) := Fm.new hdx
    have hx1 : upd H6 dx (.own x) x = none := (upd_ne hne.symm).trans hx
    have f2 : Fs G H6 (upd (upd H6 dx (.own x)) x (.ins C.CW dx [])) := f1.trans (Fm.new hx1)
    refine r_sp3 ⟨x, dx, f', r, F, kvs, n, H6, rfl, rfl, rfl, upd_same, f2, Nw.of hx, hF.mono e06, g7, hck, hget, fun H7 e7 hW => ?_⟩
    exact ⟨rfl, q H7 x (e06.trans e7.weak) ((hp6.mono e7).less (by omega)) hW⟩
end
end Hy
namespace Hy
open PySem PySem.Spec PyProof.Rows L2
local macro_rules | `(tactic| decreasing_trivial) => `(tactic| ((try (with_reducible conv => whnf)); repeat (first
    | with_reducible refine iteT ?_
    | with_reducible refine iteF ?_
    | with_reducible refine iteNT ?_
    | with_reducible refine iteNF ?_
    | with_reducible refine r_isi_int ?_
    | with_reducible refine r_isi_bool ?_
    | with_reducible refine r_isi_str ?_
    | with_reducible refine r_eqN ?_
    | with_reducible refine r_neN ?_
    | with_reducible refine r_eqS ?_
    | with_reducible refine r_neS ?_
    | with_reducible refine r_seq ?_
    | with_reducible refine r_asg ?_
    | with_reducible refine r_gname ?_
    | with_reducible refine r_ret ?_
    | with_reducible refine r_drop ?_
    | with_reducible refine r_next ?_
    | with_reducible refine r_op ?_
    | with_reducible refine r_var (by with_unfolding_all exact rfl) ?_
    | with_reducible refine r_c ?_
    | with_reducible refine r_cons ?_
    | with_reducible refine r_nil ?_
    | with_reducible refine r_un ?_
    | with_reducible refine r_I0 ?_
    | with_reducible refine r_U ?_
    | with_reducible refine r_df ?_
    | with_reducible refine r_cb ?_
    | with_reducible refine r_ifS ?_
    | with_reducible refine r_ifE ?_
    | with_reducible refine r_test ?_
    | with_reducible refine r_B ?_
    | with_reducible refine r_tand ?_
    | with_reducible refine r_tor ?_
    | with_reducible refine r_tnot ?_
    | with_reducible refine r_andV ?_
    | with_reducible refine r_orV ?_
    | with_reducible refine r_notV ?_
    | with_reducible refine r_blif ?_
    | with_reducible refine r_bl ?_
    | with_reducible refine r_chain ?_
    | with_reducible refine r_tup ?_
    | with_reducible refine r_lst ?_
    | with_reducible refine r_fld ?_
    | with_reducible refine r_dget ?_
    | with_reducible refine r_din ?_
    | with_reducible refine r_pt ?_
    | with_reducible refine r_mt ?_
    | with_reducible refine r_iEnumS ?_
    | with_reducible refine r_bm ?_
    | with_reducible refine r_iStr ?_
    | with_reducible refine r_lcT ?_
    | with_reducible refine r_dcT ?_
    | with_reducible refine r_iList ?_
    | with_reducible refine r_iTup ?_
    | with_reducible refine r_iRng1 ?_
    | with_reducible refine r_iRng2 ?_
    | with_reducible refine r_iEnum ?_
    | with_reducible refine r_iZip ?_
    | with_reducible refine r_iKeys ?_
    | with_reducible refine r_iItems ?_
    | with_reducible refine r_iVals ?_
    | with_reducible refine r_lstRg ?_
    | with_reducible refine r_rg1 ?_
    | with_reducible refine r_sortDf ?_
    | with_reducible refine r_bits ?_
    | with_reducible refine r_forT ?_
    | with_reducible refine r_augS ?_
    | with_reducible refine r_gsub ?_
    | with_reducible refine r_bm0 ?_
    | with_reducible refine r_sortLam ?_
    | with_reducible refine r_sfld ?_
    | with_reducible refine r_dput ?_
    | with_reducible refine r_dnewK ?_
    | with_reducible refine r_mk ?_
    | with_reducible refine r_con ?_
    | with_reducible refine r_lockS ?_
    | with_reducible refine r_sl ?_
    | with_reducible refine r_part ?_
    | with_reducible refine r_nopart ?_
    | with_reducible refine r_dget2 ?_
    | with_reducible refine r_isN ?_
    | with_reducible refine r_notN ?_
    | with_reducible refine r_par ?_
    | with_reducible refine r_par2 ?_
    | with_reducible refine r_yes ?_
    | with_reducible refine r_scT ?_)))
section
variable {P : Program} {w : World} {K : PySem.W.Frag} {mg : Str → Option Value} {base : Heap} {C : Ad} {G : List (Addr × Str)}
theorem sc_law_planned : FnScope ["_law_pen_here", "_law_font_here", "_law_stock_here", "_law_found", "_law_kind", "_law_left", "_law_sign", "_law_part"] ["_law_pen_here", "_law_font_here", "_law_stock_here"] (defScope (top 96)) := ⟨rfl, rfl, rfl, by decide +kernel, rfl, by decide +kernel, by decide +kernel⟩
theorem d_law_planned (T : Txt K mg C) (D_law_draw : Df P w K mg base "_law_draw" 4 (spDrw G)) (D_law_pick : Df P w K mg base "_law_pick" 5 (spPick G)) (D_law_shows : Df P w K mg base "_law_shows" 1 (spLShows G)) (D_law_shuffled : Df P w K mg base "_law_shuffled" 5 (spShuf K G)) : Df P w K mg base "_law_planned" 6 (spPlanned G) := by
  have sc := sc_law_planned
  refine FnT.df (T.fn ("_law_planned", 96) (by decide)) sc len3 (fun _ _ _ _ _ _ us hl => match us, hl with | [_, _, _], _ => rfl) (fun f cdv A outer s H vs Q E hr h => ?_)
  have hu := hu_of hr
  have hu64 := hr.units
  have hu0 := Nat.lt_of_succ_lt hu
  obtain ⟨x1, x2, x3, rfl, h⟩ := h
  refine ⟨_, (pss_cons (ps_set (i := 3) sc.nd rfl (by first | exact Or.inl rfl | exact Or.inr rfl) pe_dnewT)
  (pss_cons (ps_lock (ps_for PassesOwn.never rfl (pi_keys (pv 2)) (pg_name (i := 4) sc.nd rfl (by first | exact Or.inl rfl | exact Or.inr rfl)) (pss_cons (ps_set (i := 5) sc.nd rfl (by first | exact Or.inl rfl | exact Or.inr rfl) (pe_dget hu (pv 2) (pv 4) (fun _ _ => rfl)))
  (pss_one (ps_for PassesOwn.never rfl (pi_listK K (pe_df D_law_shuffled (hr.mono (by decide)) rfl (pa_cons (pv 0) (pa_cons (pe_df D_law_shows (hr.mono (by decide)) rfl (pa_cons (pv 1) (pa_cons (pv 4) pa_nil))) pa_nil)))) (pg_name (i := 6) sc.nd rfl (by first | exact Or.inl rfl | exact Or.inr rfl)) (pss_cons (ps_set (i := 7) sc.nd rfl (by first | exact Or.inl rfl | exact Or.inr rfl) (pe_df D_law_pick (hr.mono (by decide)) rfl (pa_cons (pv 0) (pa_cons (pe_lst (pa_cons pe_int (pa_cons (pv 5) (pa_cons (pv 5) (pa_cons (pe_df D_law_draw (hr.mono (by decide)) rfl (pa_cons (pv 0) (pa_cons (pe_op op_add (pv 5) pe_int) pa_nil))) pa_nil))))) pa_nil))))
  (pss_cons (ps_set (i := 5) sc.nd rfl (by first | exact Or.inl rfl | exact Or.inr rfl) (pe_op op_sub (pv 5) (pv 7)))
  (pss_one (ps_if (pt_cmpR op_gt (pv 7) pe_int (nomark _)) (pss_one (ps_dput hu (pv 3) (pe_tup (pa_cons (pv 4) (pa_cons (pv 6) pa_nil))) (pv 7) rfl)) pss_nil)))))))))
  (pss_one (ps_ret (pv 3))))), ?_⟩
  obtain ⟨p, b, lf, d, F, st, rfl, rfl, rfl, hL, hd, ⟨so, hbd, hl6⟩, hp, q⟩ := h
  have o := hL.1
  have hw5 := o.hi
  decreasing_trivial
  refine fun r hr0 => ?_
  have nrd : r ≠ d := (ne_of_none hd hr0).symm
  decreasing_trivial
  refine ⟨d, _, (upd_ne nrd.symm).trans hd, trivial, fun od => ?_⟩
  rw [upd_comm nrd]
  have hLl : LFAt (upd H d (.frz od (.dK (stK st)))) lf F := hL.lock hd
  have hpl : Pen (upd H d (.frz od (.dK (stK st)))) p (b + 1000) := hp.lock hd (dOk_st st)
  have hr1 : upd H d (.frz od (.dK (stK st))) r = none := (upd_ne nrd).trans hr0
  have hfz : upd H d (.frz od (.dK (stK st))) d = some (.frz od (.dK (stK st))) := upd_same
  have hlock : ∀ {H1 : Hp}, Fr G (upd H d (.frz od (.dK (stK st)))) H1 → H1 d = some (.frz od (.dK (stK st))) ∧ Fr G H (upd H1 d (.dK (stK st))) := fun e => Fm.lock hd rfl e
  generalize upd H d (.frz od (.dK (stK st))) = HL at *
  have e1 : Fs G HL (upd HL r (.dT [])) := Fm.new hr1
  have nr : NwR G HL r := Nw.of hr1
  have g1 : upd HL r (.dT []) r = some (.dT []) := upd_same
  have hp1 := hpl.mono e1
  have hnp := hpl.ne hr1
  have e1 := e1.weak
  generalize upd HL r (.dT []) = H1 at *
  decreasing_trivial
  refine ⟨d, od, rfl, .inl ⟨_, e1.kp _ _ hfz rfl, ?_⟩⟩
  refine for_it (walk_keys (kvs := stK st)) (fun i σ H2 => ∃ v4 v5 v6 v7 kvs, σ = [some (.ref p.p), some (.ref lf), some (.ref d), some (.ref r), v4, v5, v6, v7] ∧ Fr G HL H2 ∧ Pen H2 p (b + 100 * (6 - i)) ∧ H2 r = some (.dT kvs) ∧ PlK (5 * i) kvs) ⟨none, none, none, none, [], rfl, e1, hp1.less (by omega), g1, PlK.zero⟩ (fun i σ H2 _ hp => ?_) (fun i x σ H2 H3 hi hW hx => ?_) (fun σ H2 hW => ?_)
  · obtain ⟨_, _, _, _, _, _, e2, _⟩ := hp
    exact e2.kp _ _ hfz rfl
  · obtain ⟨v4, v5, v6, v7, kvs, rfl, e2, hp2, hr2, hk⟩ := hW
    obtain ⟨rfl, k, v, hkv, rfl⟩ := hx
    unfold stK at hkv
    rw [List.getElem?_map] at hkv
    cases hc : st[i]? with
    | none =>
      rw [hc] at hkv
      cases hkv
    | some pr =>
    rw [hc] at hkv
    cases hkv
    have hi6 := (List.getElem?_eq_some_iff.mp hc).1
    have hmem := List.mem_of_getElem? hc
    have hval := so.val hmem
    have hok := so.ok _ hmem
    have hps := so.pos _ hmem
    have hpb := hbd _ hmem
    have hfz2 := e2.kp _ _ hfz rfl
    decreasing_trivial
    refine r_dget1 (k := kK pr.1) (.inr ⟨od, hfz2⟩) rfl hval ?_
    decreasing_trivial
    refine r_sp2 ⟨lf, F, pr.1, rfl, hLl.mono e2, rfl, hok, fun H4 e4 => ?_⟩
    have hshl : (F.sh pr.1).length ≤ 5 := Nat.le_trans (List.length_filter_le _ _) hw5
    have hshw : ∀ c ∈ F.sh pr.1, c ∈ F.ws := fun c hc => (List.mem_filter.mp hc).1
    decreasing_trivial
    refine r_sp2 ⟨p, b + 100 * (6 - (i + 1)) + 40, (F.sh pr.1).map vS, rfl, .inl ⟨F.sh pr.1, rfl, rfl, fun c hc => ws_small o (hshw c hc)⟩, by rw [List.length_map]; omega, fun H' _ => plain_vs (fun c hc => ws_small o (hshw c hc)) H', (hp2.mono e4).less (by rw [List.length_map]; omega), fun H5 a5 ys e5 n5 hp5 hperm h5 => ?_⟩
    obtain ⟨ls, rfl, hls⟩ := perm_map_inv (f := vS) (g := unS) unS_vS hperm
    have hll := hls.length_eq
    have e25 := (e2.trans e4.weak).trans e5
    have hr5 := (e4.weak.trans e5).kp _ _ hr2 rfl
    decreasing_trivial
    refine ⟨a5, rfl, ⟨_, SqL.of h5⟩, ?_⟩
    refine for_it (walk_list (xs := ls.map vS)) (fun j σ H6 => ∃ v6 v7 kvs, ∃ left : Int, σ = [some (.ref p.p), some (.ref lf), some (.ref d), some (.ref r), some (vK pr.1), some (.int left), v6, v7] ∧ Fr G HL H6 ∧ Pen H6 p (b + 100 * (6 - (i + 1)) + 8 * (5 - j)) ∧ H6 a5 = some (.lst (ls.map vS)) ∧ H6 r = some (.dT kvs) ∧ PlK (5 * i + j) kvs ∧ 0 ≤ left ∧ left ≤ 10000000000000000000000000000) ⟨_, _, kvs, _, rfl, e25, hp5.less (by omega), h5, hr5, hk, by omega, hpb⟩ (fun j σ H6 _ hp => ?_) (fun j x σ H6 H7 hj hW hx => ?_) (fun σ H6 hW => ?_)
    · obtain ⟨_, _, _, _, _, _, _, h6, _⟩ := hp
      exact SqL.of h6
    · obtain ⟨v6, v7, kvs6, left, rfl, e6, hp6, h6, hr6, hk6, hle0, hle1⟩ := hW
      obtain ⟨rfl, hx⟩ := hx
      rw [List.length_map] at hj
      rw [List.getElem?_map] at hx
      cases hcc : ls[j]? with
      | none =>
        rw [hcc] at hx
        cases hx
      | some c =>
      rw [hcc] at hx
      cases hx
      decreasing_trivial
      refine r_sp2 ⟨p, b + 100 * (6 - (i + 1)) + 8 * (5 - (j + 1)) + 4, left + 1, rfl, rfl, by omega, by omega, hp6.less (by omega), fun H8 z e8 hp8 hz0 hz1 => ?_⟩
      decreasing_trivial
      refine ⟨by show 4 ≤ sizeLine; decide, fun l hl => ?_⟩
      have f1 : Fs G H8 (upd H8 l (.lst [V.int 0, V.int left, V.int left, V.int z])) := Fm.new hl
      have k1 : upd H8 l (.lst [V.int 0, V.int left, V.int left, V.int z]) l = some (.lst [V.int 0, V.int left, V.int left, V.int z]) := upd_same
      have hp9 := hp8.mono f1
      have e9 := e8.trans f1.weak
      generalize upd H8 l (.lst [V.int 0, V.int left, V.int left, V.int z]) = H9 at *
      decreasing_trivial
      refine r_sp2 ⟨p, b + 100 * (6 - (i + 1)) + 8 * (5 - (j + 1)), l, _, rfl, rfl, k1, by simp, by show 4 ≤ 1000; decide, hp9.less (by omega), fun H10 v f2 hp10 hv => ?_⟩
      have hv2 : ∃ m : Int, v = .int m ∧ 0 ≤ m ∧ m ≤ left := by
        simp only [List.mem_cons, List.not_mem_nil, or_false] at hv
        rcases hv with rfl | rfl | rfl | rfl
        · exact ⟨0, rfl, by omega, by omega⟩
        · exact ⟨left, rfl, by omega, by omega⟩
        · exact ⟨left, rfl, by omega, by omega⟩
        · exact ⟨z, rfl, by omega, by omega⟩
      obtain ⟨m, rfl, hm0, hm1⟩ := hv2
      have e10 := e9.trans f2
      have h10 := e10.lst h6
      have hr10 := e10.kp _ _ hr6 rfl
      have e610 := e6.trans e10
      decreasing_trivial
      refine iteD (fun ez => ?_) (fun ez => ?_)
      · decreasing_trivial
        refine ⟨by show 2 ≤ sizeLine; decide, fun t ht => ?_⟩
        have f3 : Fs G H10 (upd H10 t (.tup [vK pr.1, vS c])) := Fm.new ht
        have k3 : upd H10 t (.tup [vK pr.1, vS c]) t = some (.tup ([kK pr.1, kS c].map kV)) := upd_same
        have hr11 := f3.kp _ _ hr10 rfl
        have h11 := f3.lst h10
        have hp11 := hp10.mono f3
        have e11 := e610.trans f3.weak
        have hlen11 : kvs6.length < sizeLine := Nat.lt_of_le_of_lt (Nat.le_trans hk6.2 (show 5 * i + j ≤ 1000 by omega)) (by decide)
        have ev : V.str ⟨#[c]⟩ = vS c := rfl
        generalize upd H10 t (.tup [vK pr.1, vS c]) = H11 at *
        refine ⟨r, _, rfl, DPut.t (k := [kK pr.1, kS c]) hr11 k3 hlen11, ?_⟩
        decreasing_trivial
        exact ⟨_, _, _, left - m, rfl, e11.edit nr hr11 rfl, hp11.upd hnp.1 hnp.2, (upd_ne (ne_of h11 hr11 (by intro z; cases z))).trans h11, upd_same, hk6.put (K2 pr.1) c hm0 (by omega), by omega, by omega⟩
      · decreasing_trivial
        exact ⟨_, _, _, left - m, rfl, e610, hp10, h10, hr10, hk6.mono (by omega), by omega, by omega⟩
    · obtain ⟨v6, v7, kvs6, left, rfl, e6, hp6, h6, hr6, hk6, hle0, hle1⟩ := hW
      decreasing_trivial
      exact ⟨_, _, _, _, kvs6, rfl, e6, hp6.less (by omega), hr6, hk6.mono (by rw [List.length_map]; omega)⟩
  · obtain ⟨v4, v5, v6, v7, kvs, rfl, e2, hp2, hr2, hk⟩ := hW
    obtain ⟨l1, l2⟩ := hlock e2
    refine ⟨l1, ?_⟩
    decreasing_trivial
    refine q _ r kvs l2 ((hp2.unlock l1).less (by omega)) (hk.mono ?_) ((upd_ne nrd).trans hr2)
    unfold stK
    rw [List.length_map]
    omega
end
end Hy
namespace Hy
open PySem PySem.Spec PyProof.Rows L2
local macro_rules | `(tactic| decreasing_trivial) => `(tactic| ((try (with_reducible conv => whnf)); repeat (first
    | with_reducible refine iteT ?_
    | with_reducible refine iteF ?_
    | with_reducible refine iteNT ?_
    | with_reducible refine iteNF ?_
    | with_reducible refine r_isi_int ?_
    | with_reducible refine r_isi_bool ?_
    | with_reducible refine r_isi_str ?_
    | with_reducible refine r_eqN ?_
    | with_reducible refine r_neN ?_
    | with_reducible refine r_eqS ?_
    | with_reducible refine r_neS ?_
    | with_reducible refine r_seq ?_
    | with_reducible refine r_asg ?_
    | with_reducible refine r_gname ?_
    | with_reducible refine r_ret ?_
    | with_reducible refine r_drop ?_
    | with_reducible refine r_next ?_
    | with_reducible refine r_op ?_
    | with_reducible refine r_var (by with_unfolding_all exact rfl) ?_
    | with_reducible refine r_c ?_
    | with_reducible refine r_cons ?_
    | with_reducible refine r_nil ?_
    | with_reducible refine r_un ?_
    | with_reducible refine r_I0 ?_
    | with_reducible refine r_U ?_
    | with_reducible refine r_df ?_
    | with_reducible refine r_cb ?_
    | with_reducible refine r_ifS ?_
    | with_reducible refine r_ifE ?_
    | with_reducible refine r_test ?_
    | with_reducible refine r_B ?_
    | with_reducible refine r_tand ?_
    | with_reducible refine r_tor ?_
    | with_reducible refine r_tnot ?_
    | with_reducible refine r_andV ?_
    | with_reducible refine r_orV ?_
    | with_reducible refine r_notV ?_
    | with_reducible refine r_blif ?_
    | with_reducible refine r_bl ?_
    | with_reducible refine r_chain ?_
    | with_reducible refine r_tup ?_
    | with_reducible refine r_lst ?_
    | with_reducible refine r_fld ?_
    | with_reducible refine r_dget ?_
    | with_reducible refine r_din ?_
    | with_reducible refine r_pt ?_
    | with_reducible refine r_mt ?_
    | with_reducible refine r_iEnumS ?_
    | with_reducible refine r_bm ?_
    | with_reducible refine r_iStr ?_
    | with_reducible refine r_lcT ?_
    | with_reducible refine r_dcT ?_
    | with_reducible refine r_iList ?_
    | with_reducible refine r_iTup ?_
    | with_reducible refine r_iRng1 ?_
    | with_reducible refine r_iRng2 ?_
    | with_reducible refine r_iEnum ?_
    | with_reducible refine r_iZip ?_
    | with_reducible refine r_iKeys ?_
    | with_reducible refine r_iItems ?_
    | with_reducible refine r_iVals ?_
    | with_reducible refine r_lstRg ?_
    | with_reducible refine r_rg1 ?_
    | with_reducible refine r_sortDf ?_
    | with_reducible refine r_bits ?_
    | with_reducible refine r_forT ?_
    | with_reducible refine r_augS ?_
    | with_reducible refine r_gsub ?_
    | with_reducible refine r_bm0 ?_
    | with_reducible refine r_sortLam ?_
    | with_reducible refine r_sfld ?_
    | with_reducible refine r_dput ?_
    | with_reducible refine r_dnewK ?_
    | with_reducible refine r_mk ?_
    | with_reducible refine r_con ?_
    | with_reducible refine r_lockS ?_
    | with_reducible refine r_sl ?_
    | with_reducible refine r_part ?_
    | with_reducible refine r_nopart ?_
    | with_reducible refine r_dget2 ?_
    | with_reducible refine r_isN ?_
    | with_reducible refine r_notN ?_
    | with_reducible refine r_par ?_
    | with_reducible refine r_par2 ?_
    | with_reducible refine r_yes ?_
    | with_reducible refine r_scT ?_)))
section
variable {P : Program} {w : World} {K : PySem.W.Frag} {mg : Str → Option Value} {base : Heap} {C : Ad} {G : List (Addr × Str)}
theorem sc_law_shown : FnScope ["_law_font_here", "_law_plan", "_law_pair", "_law_sign"] ["_law_font_here", "_law_plan"] (defScope (top 97)) := ⟨rfl, rfl, rfl, by decide +kernel, rfl, by decide +kernel, by decide +kernel⟩

theorem d_law_shown (T : Txt K mg C) : Df P w K mg base "_law_shown" 1 (spShown G) := by
  have sc := sc_law_shown
  refine FnT.df (T.fn ("_law_shown", 97) (by decide)) sc len2 (fun _ _ _ _ _ _ us hl => match us, hl with | [_, _], _ => rfl) (fun f cdv A outer s H vs Q E hr h => ?_)
  have hu := hu_of hr
  obtain ⟨x1, x2, rfl, h⟩ := h
  refine ⟨_, (pss_one (ps_ret (pe_callTy (call_dictPK K rfl) (by rfl) T.f_dict (by decide +kernel) (pa_cons (pe_lc (own := [("_law_sign", 3)]) rfl sc.nd (pi_str (pe_ix (ix_tupK K) (pv 0) pe_int (fun _ _ => rfl))) (blkOk_by (N := ["_law_font_here", "_law_plan", "_law_pair", "_law_sign"]) (sc := defScope (top 97)) (by decide +kernel)) (fun _ _ _ _ _ => (pg_name (i := 3) sc.nd rfl (by first | exact Or.inl rfl | exact Or.inr rfl))) (fun _ _ _ _ _ => pts_nil) (fun _ _ _ _ _ => (pe_tup (pa_cons (pv 3) (pa_cons (pe_callB (cr_sumK K) (by rfl) T.f_sum (by decide +kernel) (pa_cons (pe_lock (pe_lc (own := [("_law_pair", 2)]) rfl sc.nd (pi_keys (pv 1)) (blkOk_by (N := ["_law_font_here", "_law_plan", "_law_pair", "_law_sign"]) (sc := { kind := .function, names := [((".0" : Str), .local), ("_law_sign", .cell), ("sum", .globalImplicit), ("_law_plan", .cell)], isGenerator := false, isCoroutine := false }) (by decide +kernel)) (fun _ _ _ _ _ => (pg_name (i := 2) sc.nd rfl (by first | exact Or.inl rfl | exact Or.inr rfl))) (fun _ _ _ _ _ => pts_one (pt_cmpR op_eq (pe_ix (ix_tupK K) (pv 2) pe_int (fun _ _ => rfl)) (pv 3) (nomark _))) (fun _ _ _ _ _ => (pe_dget hu (pv 1) (pv 2) (fun _ _ => rfl))))) pa_nil)) pa_nil))))) pa_nil)))), ?_⟩
  obtain ⟨lf, qa, F, kvs, rfl, rfl, hL, hq, hk, q⟩ := h
  obtain ⟨o, hh, hk0, h1, h2, h3⟩ := id hL
  have hw5 := o.hi
  have hk60 := hk.2
  decreasing_trivial
  refine ⟨lf, _, 0, _, rfl, rfl, SqT.of h1, rfl, ?_⟩
  refine ⟨F.W, rfl, fun D hD => ?_⟩
  refine cp_it walk_str (Ly ⟨false, G⟩ RPr H D (NmI F 1000000000000000000000000000000)) (Ly.start hD (NmI.zero (by decide))) (fun _ _ _ _ => trivial) (fun i x H1 H2 hi hW hx => ?_) (fun H1 hW => ?_)
  · obtain ⟨rfl, c, hc, rfl⟩ := hx
    have hc' : F.ws[i]? = some c := by simpa [Ft.W] using hc
    have hq1 := hW.1.kp _ _ hq rfl
    decreasing_trivial
    refine ⟨rfl, ?_⟩
    decreasing_trivial
    refine ⟨qa, _, hq1, trivial, fun od => ?_⟩
    have hlock : ∀ {H3 : Hp}, Fs G (upd H2 qa (.frz od (.dT kvs))) H3 → H3 qa = some (.frz od (.dT kvs)) ∧ Fs G H2 (upd H3 qa (.dT kvs)) := fun e => Fm.lock hq1 rfl e
    have hfz : upd H2 qa (.frz od (.dT kvs)) qa = some (.frz od (.dT kvs)) := upd_same
    generalize upd H2 qa (.frz od (.dT kvs)) = HL at *
    decreasing_trivial
    refine ⟨qa, od, rfl, .inr ⟨kvs, hfz, fun D2 hD2 => ?_⟩⟩
    refine cp_it walk_keysT (Ly ⟨false, G⟩ RInt HL D2 (fun i as => as.length ≤ i ∧ ∀ z ∈ as, 0 ≤ z ∧ z ≤ 10000000000000000000000000000)) (Ly.start hD2 ⟨Nat.le_refl _, fun _ h => by cases h⟩) (fun i H5 _ hp => hp.1.kp _ _ hfz rfl) (fun j x H5 H6 hj hW2 hx => ?_) (fun H5 hW2 => ?_)
    · obtain ⟨rfl, k, v, qk, hkv, rfl, hqt⟩ := hx
      have hmem := List.mem_of_getElem? hkv
      obtain ⟨⟨z, c', ek⟩, v', ev, hv0, hv1⟩ := hk.1 _ hmem
      dsimp only at ek ev
      subst ek
      obtain ⟨v2, hg, hg0, hg1⟩ := hk.get ⟨_, hmem, rfl⟩
      have hfz5 := hW2.1.kp _ _ hfz rfl
      decreasing_trivial
      refine ⟨rfl, ?_⟩
      decreasing_trivial
      refine ⟨qk, _, 1, vS c', rfl, rfl, SqT.of hqt, rfl, ?_⟩
      decreasing_trivial
      refine r_eqS ?_
      decreasing_trivial
      refine iteD (fun ez => ?_) (fun ez => ?_)
      · decreasing_trivial
        refine ⟨qa, .int v2, rfl, .inr ⟨kvs, _, qk, .inr ⟨od, hfz5⟩, rfl, hqt, hg.symm⟩, ?_⟩
        refine hW2.add stb_int hD2 (Fm.refl _) (a := v2) rfl (fun as has => ?_) (fun as has => ?_)
        · have := has.1
          omega
        · refine ⟨by rw [List.length_append]; exact Nat.succ_le_succ has.1, fun y hy => ?_⟩
          rcases List.mem_append.mp hy with hy | hy
          · exact has.2 y hy
          · have : y = v2 := by simpa using hy
            rw [this]
            exact ⟨hg0, hg1⟩
      · exact hW2.skip stb_int (Fm.refl _) (fun as has => ⟨Nat.le_succ_of_le has.1, has.2⟩)
    · obtain ⟨e5, vs5, as5, g5, g6, ⟨g7, g8⟩, g9⟩ := hW2
      have := ints_of g6
      subst this
      obtain ⟨l1, l2⟩ := hlock e5
      refine ⟨l1, ?_⟩
      have dq : qa ≠ D2 := ne_of_none hfz hD2
      have g5' : upd H5 qa (.dT kvs) D2 = some (.lst (as5.map V.int)) := (upd_ne dq.symm).trans g5
      generalize upd H5 qa (.dT kvs) = H6 at *
      have hsb := sum_bound (B := 10000000000000000000000000000) (by decide) as5 g8
      decreasing_trivial
      refine ⟨D2, as5, rfl, SqL.of g5', ?_⟩
      decreasing_trivial
      refine ⟨by show 2 ≤ sizeLine; decide, fun t ht => ?_⟩
      have f4 : Fs G H6 (upd H6 t (.tup [vS c, V.int as5.sum])) := Fm.new ht
      have hlz : (as5.length : Int) ≤ 60 := by omega
      have hmul : (as5.length : Int) * 10000000000000000000000000000 ≤ 60 * 10000000000000000000000000000 := Int.mul_le_mul_of_nonneg_right hlz (by decide)
      refine hW.add stb_pr hD (l2.trans f4) (a := (kS c, V.int as5.sum)) ⟨t, rfl, upd_same⟩ (fun as has => has.len o) (fun as has => has.step o hc' hsb.1 (by omega))
  · obtain ⟨e5, vs, as, g5, g6, g7, g8⟩ := hW
    have e6 : F.W.cps.size = F.n := by simp [Ft.W, Ft.n]
    rw [e6] at g7
    obtain ⟨n, rfl, hn⟩ := g7.done
    decreasing_trivial
    refine r_dictPr g5 g6 (nm_nd o n) fun r hr2 => ?_
    exact q _ r n (e5.trans (Fm.new hr2)) (e5.nw hr2) hn upd_same
end
end Hy
namespace Hy
open PySem PySem.Spec PyProof.Rows L2
local macro_rules | `(tactic| decreasing_trivial) => `(tactic| ((try (with_reducible conv => whnf)); repeat (first
    | with_reducible refine iteT ?_
    | with_reducible refine iteF ?_
    | with_reducible refine iteNT ?_
    | with_reducible refine iteNF ?_
    | with_reducible refine r_isi_int ?_
    | with_reducible refine r_isi_bool ?_
    | with_reducible refine r_isi_str ?_
    | with_reducible refine r_eqN ?_
    | with_reducible refine r_neN ?_
    | with_reducible refine r_eqS ?_
    | with_reducible refine r_neS ?_
    | with_reducible refine r_seq ?_
    | with_reducible refine r_asg ?_
    | with_reducible refine r_gname ?_
    | with_reducible refine r_ret ?_
    | with_reducible refine r_drop ?_
    | with_reducible refine r_next ?_
    | with_reducible refine r_op ?_
    | with_reducible refine r_var (by with_unfolding_all exact rfl) ?_
    | with_reducible refine r_c ?_
    | with_reducible refine r_cons ?_
    | with_reducible refine r_nil ?_
    | with_reducible refine r_un ?_
    | with_reducible refine r_I0 ?_
    | with_reducible refine r_U ?_
    | with_reducible refine r_df ?_
    | with_reducible refine r_cb ?_
    | with_reducible refine r_ifS ?_
    | with_reducible refine r_ifE ?_
    | with_reducible refine r_test ?_
    | with_reducible refine r_B ?_
    | with_reducible refine r_tand ?_
    | with_reducible refine r_tor ?_
    | with_reducible refine r_tnot ?_
    | with_reducible refine r_andV ?_
    | with_reducible refine r_orV ?_
    | with_reducible refine r_notV ?_
    | with_reducible refine r_blif ?_
    | with_reducible refine r_bl ?_
    | with_reducible refine r_chain ?_
    | with_reducible refine r_tup ?_
    | with_reducible refine r_lst ?_
    | with_reducible refine r_fld ?_
    | with_reducible refine r_dget ?_
    | with_reducible refine r_din ?_
    | with_reducible refine r_pt ?_
    | with_reducible refine r_mt ?_
    | with_reducible refine r_iEnumS ?_
    | with_reducible refine r_bm ?_
    | with_reducible refine r_iStr ?_
    | with_reducible refine r_lcT ?_
    | with_reducible refine r_dcT ?_
    | with_reducible refine r_iList ?_
    | with_reducible refine r_iTup ?_
    | with_reducible refine r_iRng1 ?_
    | with_reducible refine r_iRng2 ?_
    | with_reducible refine r_iEnum ?_
    | with_reducible refine r_iZip ?_
    | with_reducible refine r_iKeys ?_
    | with_reducible refine r_iItems ?_
    | with_reducible refine r_iVals ?_
    | with_reducible refine r_lstRg ?_
    | with_reducible refine r_rg1 ?_
    | with_reducible refine r_sortDf ?_
    | with_reducible refine r_bits ?_
    | with_reducible refine r_forT ?_
    | with_reducible refine r_augS ?_
    | with_reducible refine r_gsub ?_
    | with_reducible refine r_bm0 ?_
    | with_reducible refine r_sortLam ?_
    | with_reducible refine r_sfld ?_
    | with_reducible refine r_dput ?_
    | with_reducible refine r_dnewK ?_
    | with_reducible refine r_mk ?_
    | with_reducible refine r_con ?_
    | with_reducible refine r_lockS ?_
    | with_reducible refine r_sl ?_
    | with_reducible refine r_part ?_
    | with_reducible refine r_nopart ?_
    | with_reducible refine r_dget2 ?_
    | with_reducible refine r_isN ?_
    | with_reducible refine r_notN ?_
    | with_reducible refine r_par ?_
    | with_reducible refine r_par2 ?_
    | with_reducible refine r_yes ?_
    | with_reducible refine r_scT ?_)))
section
variable {P : Program} {w : World} {K : PySem.W.Frag} {mg : Str → Option Value} {base : Heap} {C : Ad} {G : List (Addr × Str)}
theorem setNm_le {n : Nat → Int} {c : Nat} {z B : Int} (h : ∀ x, 0 ≤ n x ∧ n x ≤ B) (h0 : 0 ≤ z) (h1 : z ≤ B) : ∀ x, 0 ≤ setNm n c z x ∧ setNm n c z x ≤ B := fun x => by
  unfold setNm
  split
  · exact ⟨h0, h1⟩
  · exact h x
theorem cut_take' {xs : List V} {z : Int} {d : Nat} (h : z = ((d : Nat) : Int)) : cutV xs none (some z) = xs.take d := by
  subst h
  unfold cutV
  rw [HT.sIx_none, HT.sIx_nat, List.drop_zero, Nat.sub_zero]
  exact (List.take_eq_take_min ..).symm
theorem sc_law_need : FnScope ["_law_pen_here", "_law_font_here", "_law_stock_here", "_law_need_here", "_law_way", "_law_sign"] ["_law_pen_here", "_law_font_here", "_law_stock_here"] (defScope (top 98)) := ⟨rfl, rfl, rfl, by decide +kernel, rfl, by decide +kernel, by decide +kernel⟩
theorem d_law_need (T : Txt K mg C) (D_law_draw : Df P w K mg base "_law_draw" 4 (spDrw G)) (D_law_planned : Df P w K mg base "_law_planned" 6 (spPlanned G)) (D_law_shown : Df P w K mg base "_law_shown" 1 (spShown G)) (D_law_shuffled : Df P w K mg base "_law_shuffled" 5 (spShuf K G)) : Df P w K mg base "_law_need" 7 (spNeed G) := by
  have sc := sc_law_need
  refine FnT.df (T.fn ("_law_need", 98) (by decide)) sc len3 (fun _ _ _ _ _ _ us hl => match us, hl with | [_, _, _], _ => rfl) (fun f cdv A outer s H vs Q E hr h => ?_)
  have hu := hu_of hr
  have hu64 := hr.units
  have hu0 := Nat.lt_of_succ_lt hu
  obtain ⟨x1, x2, x3, rfl, h⟩ := h
  refine ⟨_, (pss_cons (ps_parA (i := 3) (j := 4) sc.nd (pa_cons (pe_df D_law_shown (hr.mono (by decide)) rfl (pa_cons (pv 1) (pa_cons (pe_df D_law_planned (hr.mono (by decide)) rfl (pa_cons (pv 0) (pa_cons (pv 1) (pa_cons (pv 2) pa_nil)))) pa_nil))) (pa_cons (pe_df D_law_draw (hr.mono (by decide)) rfl (pa_cons (pv 0) (pa_cons pe_int pa_nil))) pa_nil)))
  (pss_cons (ps_for PassesOwn.never rfl (pi_listK K (pe_slice (sl_listK K) (pe_df D_law_shuffled (hr.mono (by decide)) rfl (pa_cons (pv 0) (pa_cons (pe_ix (ix_tupK K) (pv 1) pe_int (fun _ _ => rfl)) pa_nil))) po_none (po_some (pe_op op_add pe_int (pe_df D_law_draw (hr.mono (by decide)) rfl (pa_cons (pv 0) (pa_cons pe_int pa_nil))))))) (pg_name (i := 5) sc.nd rfl (by first | exact Or.inl rfl | exact Or.inr rfl)) (pss_cons (ps_if (pt_cmpR op_eq (pv 4) pe_int (nomark _)) (pss_one (ps_dput hu (pv 3) (pv 5) (pe_op op_add (pe_op op_add (pe_dget hu (pv 3) (pv 5) (fun _ _ => rfl)) pe_int) (pe_df D_law_draw (hr.mono (by decide)) rfl (pa_cons (pv 0) (pa_cons pe_int pa_nil)))) rfl)) pss_nil)
  (pss_cons (ps_if (pt_cmpR op_eq (pv 4) pe_int (nomark _)) (pss_one (ps_dput hu (pv 3) (pv 5) (pe_callB (call_max2 rfl) (by rfl) T.f_max (by decide +kernel) (pa_cons pe_int (pa_cons (pe_op op_sub (pe_dget hu (pv 3) (pv 5) (fun _ _ => rfl)) pe_int) pa_nil))) rfl)) pss_nil)
  (pss_one (ps_if (pt_cmpR op_eq (pv 4) pe_int (nomark _)) (pss_one (ps_dput hu (pv 3) (pv 5) (pe_df D_law_draw (hr.mono (by decide)) rfl (pa_cons (pv 0) (pa_cons (pe_op op_pow pe_int pe_int) pa_nil))) rfl)) pss_nil)))))
  (pss_cons (ps_if (pt_cmpR op_eq (pv 4) pe_int (nomark _)) (pss_one (ps_set (i := 3) sc.nd rfl (by first | exact Or.inl rfl | exact Or.inr rfl) (pe_callTy (call_dictPK K rfl) (by rfl) T.f_dict (by decide +kernel) (pa_cons (pe_lc (own := [("_law_sign", 5)]) rfl sc.nd (pi_str (pe_ix (ix_tupK K) (pv 1) pe_int (fun _ _ => rfl))) (blkOk_by (N := ["_law_pen_here", "_law_font_here", "_law_stock_here", "_law_need_here", "_law_way", "_law_sign"]) (sc := defScope (top 98)) (by decide +kernel)) (fun _ _ _ _ _ => (pg_name (i := 5) sc.nd rfl (by first | exact Or.inl rfl | exact Or.inr rfl))) (fun _ _ _ _ _ => pts_nil) (fun _ _ _ _ _ => (pe_tup (pa_cons (pv 5) (pa_cons (pe_df D_law_draw (hr.mono (by decide)) rfl (pa_cons (pv 0) (pa_cons pe_int pa_nil))) pa_nil))))) pa_nil)))) pss_nil)
  (pss_one (ps_ret (pv 3)))))), ?_⟩
  obtain ⟨p, b, lf, d, F, st, rfl, rfl, rfl, hL, hd, hst, hp, q⟩ := h
  have o := hL.1
  have hw5 := o.hi
  decreasing_trivial
  refine r_sp3 ⟨p, b + 200, lf, d, F, st, rfl, rfl, rfl, hL, hd, hst, hp.less (by omega), fun H1 qa kvs e1 hp1 hk h1 => ?_⟩
  decreasing_trivial
  refine r_sp2 ⟨lf, qa, F, kvs, rfl, rfl, hL.mono e1, h1, hk, fun H2 nd n0 e2 n2 hb h2 => ?_⟩
  have nnd : NwR G H nd := e1.nw' n2.weak
  have e02 := e1.trans e2.weak
  decreasing_trivial
  refine r_sp2 ⟨p, b + 190, 6, rfl, rfl, by decide, by decide, (hp1.mono e2).less (by omega), fun H3 way e3 hp3 hw0 hw6 => ?_⟩
  decreasing_trivial
  have e03 := e02.trans e3
  have h3 := e3.dct h2 (dOk_nm F n0)
  obtain ⟨hh, hk0, l1, l2, l3⟩ := (hL.mono e03).2
  refine ⟨lf, _, 0, _, rfl, rfl, SqT.of l1, rfl, ?_⟩
  decreasing_trivial
  refine r_sp2 ⟨p, b + 100, F.ws.map vS, rfl, .inl ⟨F.ws, rfl, rfl, fun c hc => ws_small o hc⟩, by rw [List.length_map]; omega, fun H' _ v hv => plain_vs (fun c hc => ws_small o hc) H' v hv, hp3.less (by rw [List.length_map]; omega), fun H4 a4 ys e4 n4 hp4 hperm h4 => ?_⟩
  obtain ⟨ls, rfl, hls⟩ := perm_map_inv (f := vS) (g := unS) unS_vS hperm
  decreasing_trivial
  refine r_sp2 ⟨p, b + 90, 2, rfl, rfl, by decide, by decide, hp4.less (by omega), fun H5 j e5 hp5 hj0 hj2 => ?_⟩
  decreasing_trivial
  refine ⟨_, rfl, ?_⟩
  have h45 := e5.lst h4
  refine ⟨a4, _, rfl, SqL.of h45, fun a6 ha6 => ?_⟩
  have ecut : cutV (ls.map vS) none (some (1 + j)) = (ls.take (1 + j).toNat).map vS := by
    rw [cut_take' (d := (1 + j).toNat) (by omega), List.map_take]
  rw [ecut]
  have e6 : Fs G H5 (upd H5 a6 (.lst ((ls.take (1 + j).toNat).map vS))) := Fm.new ha6
  have h6 : upd H5 a6 (.lst ((ls.take (1 + j).toNat).map vS)) a6 = some (.lst ((ls.take (1 + j).toNat).map vS)) := upd_same
  have htl : (ls.take (1 + j).toNat).length ≤ 2 := by
    rw [List.length_take]
    omega
  have htw : ∀ c ∈ ls.take (1 + j).toNat, c ∈ F.ws := fun c hc => hls.mem_iff.mp (List.mem_of_mem_take hc)
  generalize ls.take (1 + j).toNat = ts at *
  have hp6 := hp5.mono e6
  have e06 := e03.trans ((e4.trans e5).trans e6.weak)
  have hd6 : upd H5 a6 (.lst (ts.map vS)) nd = some (.dK (nmK F n0)) := ((e4.trans e5).trans e6.weak).dct h3 (dOk_nm F n0)
  generalize upd H5 a6 (.lst (ts.map vS)) = H6 at *
  have hb2 : ∀ x, 0 ≤ n0 x ∧ n0 x ≤ 2000000000000000000000000000000 + 2 * ((0 : Nat) : Int) := fun x => by
    have := hb x
    omega
  decreasing_trivial
  refine ⟨a6, rfl, ⟨_, SqL.of h6⟩, ?_⟩
  refine for_it (walk_list (xs := ts.map vS)) (fun i σ H7 => ∃ v5 n, σ = [some (.ref p.p), some (.ref lf), some (.ref d), some (.ref nd), some (.int way), v5] ∧ Fr G H H7 ∧ Pen H7 p (b + 40 + 4 * (5 - i)) ∧ H7 a6 = some (.lst (ts.map vS)) ∧ H7 nd = some (.dK (nmK F n)) ∧ ∀ x, 0 ≤ n x ∧ n x ≤ 2000000000000000000000000000000 + 2 * ((i : Nat) : Int)) ⟨none, n0, rfl, e06, hp6.less (by omega), h6, hd6, hb2⟩ (fun i σ H7 _ hp => ?_) (fun i x σ H7 H8 hi hW hx => ?_) (fun σ H7 hW => ?_)
  · obtain ⟨_, _, _, _, _, h7, _⟩ := hp
    exact SqL.of h7
  · obtain ⟨v5, n, rfl, e7, hp7, h7, hd7, hb7⟩ := hW
    obtain ⟨rfl, hx⟩ := hx
    rw [List.length_map] at hi
    rw [List.getElem?_map] at hx
    cases hc : ts[i]? with
    | none =>
      rw [hc] at hx
      cases hx
    | some c =>
    rw [hc] at hx
    cases hx
    have hcw := htw c (List.mem_of_getElem? hc)
    have hval : valV (nmK F n) (kS c) = some (.int (n c)) := by rw [nm_get, if_pos hcw]
    have hlen : (nmK F n).length < sizeLine := by
      rw [nm_len]
      exact Nat.lt_of_le_of_lt (show F.n ≤ 1000 by have := o.n; omega) (by decide)
    have hbc := hb7 c
    have hd67 : a6 ≠ nd := ne_of h7 hd7 (by intro z; cases z)
    have hnp := hp7.neD hd7 (dOk_nm F n)
    have hcases : way = 1 ∨ way = 2 ∨ way = 3 ∨ (way ≠ 1 ∧ way ≠ 2 ∧ way ≠ 3) := by omega
    rcases hcases with rfl | rfl | rfl | ⟨w1, w2, w3⟩
    · decreasing_trivial
      refine iteE rfl ?_
      decreasing_trivial
      refine r_dget1 (k := kS c) (.inl hd7) rfl hval ?_
      decreasing_trivial
      refine r_sp2 ⟨p, b + 40 + 4 * (5 - (i + 1)), 2, rfl, rfl, by decide, by decide, hp7.less (by omega), fun H9 z e9 hp9 hz0 hz1 => ?_⟩
      have hd9 := e9.dct hd7 (dOk_nm F n)
      have h9 := e9.lst h7
      decreasing_trivial
      refine r_dput1 (k := kS c) hd9 hlen ?_
      rw [nm_put hcw]
      decreasing_trivial
      refine iteN rfl ?_
      decreasing_trivial
      refine iteN rfl ?_
      decreasing_trivial
      exact ⟨_, _, rfl, (e7.trans e9).edit nnd hd9 rfl, hp9.upd hnp.1 hnp.2, (upd_ne hd67).trans h9, upd_same, setNm_le (fun x => by have := hb7 x; omega) (by omega) (by omega)⟩
    · decreasing_trivial
      refine iteN rfl ?_
      decreasing_trivial
      refine iteE rfl ?_
      decreasing_trivial
      refine r_dget1 (k := kS c) (.inl hd7) rfl hval ?_
      decreasing_trivial
      refine ⟨_, _, rfl, ?_⟩
      decreasing_trivial
      refine r_dput1 (k := kS c) hd7 hlen ?_
      rw [nm_put hcw]
      decreasing_trivial
      refine iteN rfl ?_
      decreasing_trivial
      refine ⟨_, _, rfl, e7.edit nnd hd7 rfl, (hp7.upd hnp.1 hnp.2).less (by omega), (upd_ne hd67).trans h7, upd_same, setNm_le (fun x => by have := hb7 x; omega) (by split <;> omega) (by split <;> omega)⟩
    · decreasing_trivial
      refine iteN rfl ?_
      decreasing_trivial
      refine iteN rfl ?_
      decreasing_trivial
      refine iteE rfl ?_
      decreasing_trivial
      refine ⟨_, _, rfl, rfl, ⟨by decide, by decide, by decide⟩, ?_⟩
      decreasing_trivial
      refine r_sp2 ⟨p, b + 40 + 4 * (5 - (i + 1)), 1000000000000000000000000000000, rfl, by decide, by decide, by decide, hp7.less (by omega), fun H9 z e9 hp9 hz0 hz1 => ?_⟩
      have hd9 := e9.dct hd7 (dOk_nm F n)
      have h9 := e9.lst h7
      decreasing_trivial
      refine r_dput1 (k := kS c) hd9 hlen ?_
      rw [nm_put hcw]
      decreasing_trivial
      exact ⟨_, _, rfl, (e7.trans e9).edit nnd hd9 rfl, hp9.upd hnp.1 hnp.2, (upd_ne hd67).trans h9, upd_same, setNm_le (fun x => by have := hb7 x; omega) (by omega) (by omega)⟩
    · decreasing_trivial
      refine iteN (decide_eq_false w1) ?_
      decreasing_trivial
      refine iteN (decide_eq_false w2) ?_
      decreasing_trivial
      refine iteN (decide_eq_false w3) ?_
      decreasing_trivial
      exact ⟨_, n, rfl, e7, hp7.less (by omega), h7, hd7, fun x => by have := hb7 x; omega⟩
  · obtain ⟨v5, n, rfl, e7, hp7, h7, hd7, hb7⟩ := hW
    rw [List.length_map] at hb7
    decreasing_trivial
    refine iteD (fun ez => ?_) (fun ez => ?_)
    · obtain ⟨hh, hk0, l1, l2, l3⟩ := (hL.mono e7).2
      decreasing_trivial
      refine ⟨lf, _, 0, _, rfl, rfl, SqT.of l1, rfl, ?_⟩
      refine ⟨F.W, rfl, fun D hD => ?_⟩
      refine cp_it walk_str (Lx ⟨true, G⟩ RPr H7 D (NmI F 4) p (fun i => b + 4 * (5 - i))) (Lx.start hD (NmI.zero (by decide)) (hp7.less (by omega))) (fun _ _ _ _ => trivial) (fun i x H8 H9 hi hW hx => ?_) (fun H8 hW => ?_)
      · obtain ⟨rfl, c, hc, rfl⟩ := hx
        have hc' : F.ws[i]? = some c := by simpa [Ft.W] using hc
        have hi5 := (List.getElem?_eq_some_iff.mp hc').1
        have hp8 : Pen H9 p (b + 4 * (5 - i)) := hW.2.2
        decreasing_trivial
        refine ⟨rfl, ?_⟩
        decreasing_trivial
        refine r_sp2 ⟨p, b + 4 * (5 - (i + 1)), 4, rfl, rfl, by decide, by decide, hp8.less (by omega), fun H10 z e10 hp10 hz0 hz1 => ?_⟩
        decreasing_trivial
        refine ⟨by show 2 ≤ sizeLine; decide, fun t ht => ?_⟩
        have f4 : Fs G H10 (upd H10 t (.tup [vS c, V.int z])) := Fm.new ht
        exact hW.add stb_pr hp7 hD (e10.trans f4.weak) (a := (kS c, V.int z)) ⟨t, rfl, upd_same⟩ (hp10.mono f4) (fun as has => has.len o) (fun as has => has.step o hc' hz0 (by omega))
      · obtain ⟨e8, ⟨vs, as, g5, g6, g7, g8⟩, hp8⟩ := hW
        have e6' : F.W.cps.size = F.n := by simp [Ft.W, Ft.n]
        rw [e6'] at g7
        obtain ⟨n', rfl, hn⟩ := g7.done
        decreasing_trivial
        refine r_dictPr g5 g6 (nm_nd o n') fun r hr2 => ?_
        have f9 : Fs G H8 (upd H8 r (.dK (nmK F n'))) := Fm.new hr2
        decreasing_trivial
        exact q _ r n' (e7.trans (e8.trans f9.weak)) ((hp8.mono f9).less (by dsimp only; omega)) (fun x => by have := hn x; omega) upd_same
    · decreasing_trivial
      exact q _ nd n e7 (hp7.less (by omega)) (fun x => by have := hb7 x; omega) hd7
end
end Hy
namespace Hy
open PySem PySem.Spec PyProof.Rows L2
local macro_rules | `(tactic| decreasing_trivial) => `(tactic| ((try (with_reducible conv => whnf)); repeat (first
    | with_reducible refine iteT ?_
    | with_reducible refine iteF ?_
    | with_reducible refine iteNT ?_
    | with_reducible refine iteNF ?_
    | with_reducible refine r_isi_int ?_
    | with_reducible refine r_isi_bool ?_
    | with_reducible refine r_isi_str ?_
    | with_reducible refine r_eqN ?_
    | with_reducible refine r_neN ?_
    | with_reducible refine r_eqS ?_
    | with_reducible refine r_neS ?_
    | with_reducible refine r_seq ?_
    | with_reducible refine r_asg ?_
    | with_reducible refine r_gname ?_
    | with_reducible refine r_ret ?_
    | with_reducible refine r_drop ?_
    | with_reducible refine r_next ?_
    | with_reducible refine r_op ?_
    | with_reducible refine r_var (by with_unfolding_all exact rfl) ?_
    | with_reducible refine r_c ?_
    | with_reducible refine r_cons ?_
    | with_reducible refine r_nil ?_
    | with_reducible refine r_un ?_
    | with_reducible refine r_I0 ?_
    | with_reducible refine r_U ?_
    | with_reducible refine r_df ?_
    | with_reducible refine r_cb ?_
    | with_reducible refine r_ifS ?_
    | with_reducible refine r_ifE ?_
    | with_reducible refine r_test ?_
    | with_reducible refine r_B ?_
    | with_reducible refine r_tand ?_
    | with_reducible refine r_tor ?_
    | with_reducible refine r_tnot ?_
    | with_reducible refine r_andV ?_
    | with_reducible refine r_orV ?_
    | with_reducible refine r_notV ?_
    | with_reducible refine r_blif ?_
    | with_reducible refine r_bl ?_
    | with_reducible refine r_chain ?_
    | with_reducible refine r_tup ?_
    | with_reducible refine r_lst ?_
    | with_reducible refine r_fld ?_
    | with_reducible refine r_dget ?_
    | with_reducible refine r_din ?_
    | with_reducible refine r_pt ?_
    | with_reducible refine r_mt ?_
    | with_reducible refine r_iEnumS ?_
    | with_reducible refine r_bm ?_
    | with_reducible refine r_iStr ?_
    | with_reducible refine r_lcT ?_
    | with_reducible refine r_dcT ?_
    | with_reducible refine r_iList ?_
    | with_reducible refine r_iTup ?_
    | with_reducible refine r_iRng1 ?_
    | with_reducible refine r_iRng2 ?_
    | with_reducible refine r_iEnum ?_
    | with_reducible refine r_iZip ?_
    | with_reducible refine r_iKeys ?_
    | with_reducible refine r_iItems ?_
    | with_reducible refine r_iVals ?_
    | with_reducible refine r_lstRg ?_
    | with_reducible refine r_rg1 ?_
    | with_reducible refine r_sortDf ?_
    | with_reducible refine r_bits ?_
    | with_reducible refine r_forT ?_
    | with_reducible refine r_augS ?_
    | with_reducible refine r_gsub ?_
    | with_reducible refine r_bm0 ?_
    | with_reducible refine r_sortLam ?_
    | with_reducible refine r_sfld ?_
    | with_reducible refine r_dput ?_
    | with_reducible refine r_dnewK ?_
    | with_reducible refine r_mk ?_
    | with_reducible refine r_con ?_
    | with_reducible refine r_lockS ?_
    | with_reducible refine r_sl ?_
    | with_reducible refine r_part ?_
    | with_reducible refine r_nopart ?_
    | with_reducible refine r_dget2 ?_
    | with_reducible refine r_isN ?_
    | with_reducible refine r_notN ?_
    | with_reducible refine r_par ?_
    | with_reducible refine r_par2 ?_
    | with_reducible refine r_yes ?_
    | with_reducible refine r_scT ?_)))
section
variable {P : Program} {w : World} {K : PySem.W.Frag} {mg : Str → Option Value} {base : Heap} {C : Ad} {G : List (Addr × Str)}
/-- numbers by kinds -/
def rK (F : Ft) (n : Nat × Nat → Int) : List ((Nat × Nat) × Int) := (kinds F).map fun k => (k, n k)
def setK (n : Nat × Nat → Int) (k : Nat × Nat) (z : Int) : Nat × Nat → Int := fun x => if x = k then z else n x
theorem rK_eq (F : Ft) (n : Nat × Nat → Int) : stK (rK F n) = (kinds F).map fun k => (kK k, V.int (n k)) := by
  unfold stK rK
  rw [List.map_map]
  rfl
theorem rK_get (F : Ft) (n : Nat × Nat → Int) (k : Nat × Nat) : valV (stK (rK F n)) (kK k) = if k ∈ kinds F then some (.int (n k)) else none := by
  rw [rK_eq]
  have := val_map kK (fun a b => kK_inj) (fun k => V.int (n k)) (kinds F) k
  by_cases h : k ∈ kinds F
  · rw [this, if_pos h, if_pos h]
  · rw [this, if_neg h, if_neg h]
theorem rK_put {F : Ft} {n : Nat × Nat → Int} {k : Nat × Nat} (h : k ∈ kinds F) (z : Int) : putK (stK (rK F n)) (kK k) (.int z) = stK (rK F (setK n k z)) := by
  rw [rK_eq, rK_eq, putK_key (kvs := (kinds F).map fun k => (kK k, V.int (n k))) (k := kK k) ⟨(kK k, V.int (n k)), List.mem_map.mpr ⟨k, h, rfl⟩, rfl⟩, List.map_map]
  refine List.map_congr_left fun x _ => ?_
  show (if kK x = kK k then (kK x, V.int z) else (kK x, V.int (n x))) = (kK x, V.int (if x = k then z else n x))
  by_cases e : x = k
  · subst e
    rw [if_pos rfl, if_pos rfl]
  · rw [if_neg (fun z => e (kK_inj.mp z)), if_neg e]
theorem rK_len {F : Ft} (o : F.Ok) (n : Nat × Nat → Int) : (stK (rK F n)).length < sizeLine := by
  unfold stK rK
  rw [List.length_map, List.length_map]
  exact Nat.lt_of_le_of_lt (Nat.le_trans (kinds_len o) (show 20 ≤ 1000 by decide)) (by decide)
theorem setK_le {n : Nat × Nat → Int} {k : Nat × Nat} {z B : Int} (h : ∀ x, 0 ≤ n x ∧ n x ≤ B) (h0 : 0 ≤ z) (h1 : z ≤ B) : ∀ x, 0 ≤ setK n k z x ∧ setK n k z x ≤ B := fun x => by
  unfold setK
  split
  · exact ⟨h0, h1⟩
  · exact h x
theorem rK_nd {F : Ft} (o : F.Ok) (n : Nat × Nat → Int) : ((stK (rK F n)).map (·.1)).Nodup := by
  rw [rK_eq, List.map_map]
  exact List.pairwise_map.mpr ((kinds_nd o).imp fun hab e => hab (kK_inj.mp e))
theorem exch_last {F : Ft} (o : F.Ok) {r : Addr} {v0 v1 v2 v4 v5 v6 v7 v8 v9 : Option V} {H7 : Hp} {n : Nat × Nat → Int} {D : Ends} (hr : H7 r = some (.dK (stK (rK F n)))) (hn : ∀ k, 0 ≤ n k ∧ n k ≤ 120000000000000000000000000001)
    (q : ∀ H' x s2, Fs G H7 H' → StOk F s2 → H' x = some (.dK (stK s2)) → D.rt (.ref x) H') :
    tRet (tCB (rDictP K) (tCons (tLockE (tLc (iKeys (tVar 3)) (gName 4) (tTest (tOp (rI0 fun i j => V.bl (decide (j < i))) (tDGet (tVar 3) (tVar 4)) (tC (V.int 0)))) (tTup (tCons (tVar 4) (tCons (tDGet (tVar 3) (tVar 4)) tNil))) (List.map (fun x => x.snd) [(("_law_kind" : Str), 4)]))) tNil)) D
      [v0, v1, v2, some (.ref r), v4, v5, v6, v7, v8, v9] H7 := by
  decreasing_trivial
  refine ⟨r, _, hr, trivial, fun od => ?_⟩
  have hlock : ∀ {H3 : Hp}, Fs G (upd H7 r (.frz od (.dK (stK (rK F n))))) H3 → H3 r = some (.frz od (.dK (stK (rK F n)))) ∧ Fs G H7 (upd H3 r (.dK (stK (rK F n)))) := fun e => Fm.lock hr rfl e
  have hfz : upd H7 r (.frz od (.dK (stK (rK F n)))) r = some (.frz od (.dK (stK (rK F n)))) := upd_same
  generalize upd H7 r (.frz od (.dK (stK (rK F n)))) = HL at *
  decreasing_trivial
  refine ⟨r, od, rfl, .inl ⟨_, hfz, fun D2 hD2 => ?_⟩⟩
  have hkl := kinds_len o
  refine cp_it (walk_keys (kvs := stK (rK F n))) (Lr ⟨false, G⟩ RPr HL D2 (giv (fun k => decide (0 < n k)) (fun k => (kK k, V.int (n k))) (kinds F))) (Lr.start hD2 (giv_zero _ _ _)) (fun i H5 _ hp => hp.1.kp _ _ hfz rfl) (fun i x H5 H6 hi hW hx => ?_) (fun H5 hW => ?_)
  · obtain ⟨rfl, k, v, hkv, rfl⟩ := hx
    rw [rK_eq, List.getElem?_map] at hkv
    cases hc : (kinds F)[i]? with
    | none =>
      rw [hc] at hkv
      cases hkv
    | some k =>
    rw [hc] at hkv
    cases hkv
    have hval : valV (stK (rK F n)) (kK k) = some (.int (n k)) := by rw [rK_get, if_pos (List.mem_of_getElem? hc)]
    have hfz5 := hW.1.kp _ _ hfz rfl
    decreasing_trivial
    refine ⟨rfl, ?_⟩
    decreasing_trivial
    refine r_dget1 (k := kK k) (.inr ⟨od, hfz5⟩) rfl hval ?_
    decreasing_trivial
    refine iteD (fun ez => ?_) (fun ez => ?_)
    · decreasing_trivial
      refine r_dget1 (k := kK k) (.inr ⟨od, hfz5⟩) rfl hval ?_
      decreasing_trivial
      refine ⟨by show 2 ≤ sizeLine; decide, fun t ht => ?_⟩
      have f4 : Fs G H6 (upd H6 t (.tup [kV (kK k), V.int (n k)])) := Fm.new ht
      exact hW.add stb_pr hD2 f4 ⟨t, rfl, upd_same⟩ (Nat.le_trans (giv_len _ _ _ _) (by omega)) (giv_yes hc ez)
    · exact hW.skip stb_pr (Fm.refl _) (giv_no hc ez)
  · obtain ⟨e5, vs, g5, g6⟩ := hW
    have hll : (stK (rK F n)).length = (kinds F).length := by rw [rK_eq, List.length_map]
    rw [hll, giv_all] at g6
    obtain ⟨l1, l2⟩ := hlock e5
    refine ⟨l1, ?_⟩
    have rD : r ≠ D2 := ne_of_none hfz hD2
    have g5' : upd H5 r (.dK (stK (rK F n))) D2 = some (.lst vs) := (upd_ne rD.symm).trans g5
    have g6' : Paired (RPr (upd H5 r (.dK (stK (rK F n))))) vs (((kinds F).filter fun k => decide (0 < n k)).map fun k => (kK k, V.int (n k))) := paired_imp g6 fun v y hv => by
      obtain ⟨t, y1, y2⟩ := hv
      exact ⟨t, y1, (upd_ne (ne_of y2 l1 (by intro z; cases z))).trans y2⟩
    generalize upd H5 r (.dK (stK (rK F n))) = H6 at *
    have est : ((kinds F).filter fun k => decide (0 < n k)).map (fun k => (kK k, V.int (n k))) = stK (((kinds F).filter fun k => decide (0 < n k)).map fun k => (k, n k)) := by
      unfold stK
      rw [List.map_map]
      rfl
    rw [est] at g6'
    have hmm : (((kinds F).filter fun k => decide (0 < n k)).map fun k => (k, n k)).map (·.1) = (kinds F).filter fun k => decide (0 < n k) := by
      rw [List.map_map]
      exact List.map_id' _
    have so2 : StOk F (((kinds F).filter fun k => decide (0 < n k)).map fun k => (k, n k)) := by
      refine ⟨by rw [hmm]; exact (kinds_nd o).filter _, fun p hp => ?_, fun p hp => ?_, fun p hp => ?_, ?_⟩
      · obtain ⟨k, hk, rfl⟩ := List.mem_map.mp hp
        exact (kinds_mem o).mp (List.mem_filter.mp hk).1
      · obtain ⟨k, hk, rfl⟩ := List.mem_map.mp hp
        exact of_decide_eq_true (List.mem_filter.mp hk).2
      · obtain ⟨k, hk, rfl⟩ := List.mem_map.mp hp
        have := hn k
        show n k ≤ _
        omega
      · rw [List.length_map]
        exact Nat.le_trans (List.length_filter_le _ _) hkl
    generalize ((kinds F).filter fun k => decide (0 < n k)).map (fun k => (k, n k)) = s2 at *
    decreasing_trivial
    refine r_dictPr g5' g6' (stK_nd so2.nd) fun x hx => ?_
    exact q _ x s2 (l2.trans (Fm.new hx)) so2 upd_same
theorem sc_law_exchanged : FnScope ["_law_pen_here", "_law_font_here", "_law_stock_here", "_law_rest", "_law_kind", "_law_same", "_law_part", "_law_other", "_law_number", "_law_one"] ["_law_pen_here", "_law_font_here", "_law_stock_here"] (defScope (top 101)) := ⟨rfl, rfl, rfl, by decide +kernel, rfl, by decide +kernel, by decide +kernel⟩
theorem d_law_exchanged (T : Txt K mg C) (D_law_draw : Df P w K mg base "_law_draw" 4 (spDrw G)) (D_law_kinds : Df P w K mg base "_law_kinds" 1 (spLKinds G)) (D_law_pick : Df P w K mg base "_law_pick" 5 (spPick G)) (D_law_shows : Df P w K mg base "_law_shows" 1 (spLShows G)) : Df P w K mg base "_law_exchanged" 6 (spExch G) := by
  have sc := sc_law_exchanged
  refine FnT.df (T.fn ("_law_exchanged", 101) (by decide)) sc len3 (fun _ _ _ _ _ _ us hl => match us, hl with | [_, _, _], _ => rfl) (fun f cdv A outer s H vs Q E hr h => ?_)
  have hu := hu_of hr
  have hu64 := hr.units
  have hu0 := Nat.lt_of_succ_lt hu
  obtain ⟨x1, x2, x3, rfl, h⟩ := h
  refine ⟨_, (pss_cons (ps_set (i := 3) sc.nd rfl (by first | exact Or.inl rfl | exact Or.inr rfl) (pe_callTy (call_dictPK K rfl) (by rfl) T.f_dict (by decide +kernel) (pa_cons (pe_lc (own := [("_law_kind", 4)]) rfl sc.nd (pi_listK K (pe_df D_law_kinds (hr.mono (by decide)) rfl (pa_cons (pv 1) pa_nil))) (blkOk_by (N := ["_law_pen_here", "_law_font_here", "_law_stock_here", "_law_rest", "_law_kind", "_law_same", "_law_part", "_law_other", "_law_number", "_law_one"]) (sc := defScope (top 101)) (by decide +kernel)) (fun _ _ _ _ _ => (pg_name (i := 4) sc.nd rfl (by first | exact Or.inl rfl | exact Or.inr rfl))) (fun _ _ _ _ _ => pts_nil) (fun _ _ _ _ _ => (pe_tup (pa_cons (pv 4) (pa_cons pe_int pa_nil))))) pa_nil)))
  (pss_cons (ps_lock (ps_for PassesOwn.never rfl (pi_keys (pv 2)) (pg_name (i := 4) sc.nd rfl (by first | exact Or.inl rfl | exact Or.inr rfl)) (pss_cons (ps_setLc (i := 5) (own := [("_law_one", 9)]) rfl sc.nd rfl rfl (sw_true rfl rfl rfl (by decide +kernel)) (pi_listK K (pe_df D_law_kinds (hr.mono (by decide)) rfl (pa_cons (pv 1) pa_nil))) (blkOk_by (N := ["_law_pen_here", "_law_font_here", "_law_stock_here", "_law_rest", "_law_kind", "_law_same", "_law_part", "_law_other", "_law_number", "_law_one"]) (sc := defScope (top 101)) (by decide +kernel)) (fun _ _ _ _ _ => (pg_name (i := 9) sc.nd rfl (by first | exact Or.inl rfl | exact Or.inr rfl))) (fun _ _ _ _ _ => pts_one (pt_cmpR op_eq (pe_df D_law_shows (hr.mono (by decide)) rfl (pa_cons (pv 1) (pa_cons (pv 9) pa_nil))) (pe_df D_law_shows (hr.mono (by decide)) rfl (pa_cons (pv 1) (pa_cons (pv 4) pa_nil))) (nomark _))) (fun _ _ _ _ _ => (pv 9)))
  (pss_cons (ps_set (i := 6) sc.nd rfl (by first | exact Or.inl rfl | exact Or.inr rfl) (pe_df D_law_draw (hr.mono (by decide)) rfl (pa_cons (pv 0) (pa_cons (pe_op op_add (pe_dget hu (pv 2) (pv 4) (fun _ _ => rfl)) pe_int) pa_nil))))
  (pss_one (ps_for PassesOwn.never rfl (pi_tupK K (pe_tup (pa_cons (pe_tup (pa_cons (pe_df D_law_pick (hr.mono (by decide)) rfl (pa_cons (pv 0) (pa_cons (pv 5) pa_nil))) (pa_cons (pv 6) pa_nil))) (pa_cons (pe_tup (pa_cons (pv 4) (pa_cons (pe_op op_sub (pe_dget hu (pv 2) (pv 4) (fun _ _ => rfl)) (pv 6)) pa_nil))) pa_nil)))) (pg_tupK K (n := 2) rfl (pgs_cons (pg_name (i := 7) sc.nd rfl (by first | exact Or.inl rfl | exact Or.inr rfl)) (pgs_cons (pg_name (i := 8) sc.nd rfl (by first | exact Or.inl rfl | exact Or.inr rfl)) pgs_nil))) (pss_one (ps_dput hu (pv 3) (pv 7) (pe_op op_add (pe_dget hu (pv 3) (pv 7) (fun _ _ => rfl)) (pv 8)) rfl))))))))
  (pss_cons (ps_if (pt_cmpR op_eq (pe_df D_law_draw (hr.mono (by decide)) rfl (pa_cons (pv 0) (pa_cons pe_int pa_nil))) pe_int (nomark _)) (pss_cons (ps_set (i := 4) sc.nd rfl (by first | exact Or.inl rfl | exact Or.inr rfl) (pe_df D_law_pick (hr.mono (by decide)) rfl (pa_cons (pv 0) (pa_cons (pe_df D_law_kinds (hr.mono (by decide)) rfl (pa_cons (pv 1) pa_nil)) pa_nil))))
  (pss_one (ps_dput hu (pv 3) (pv 4) (pe_op op_add (pe_dget hu (pv 3) (pv 4) (fun _ _ => rfl)) pe_int) rfl))) pss_nil)
  (pss_one (ps_ret (pe_callTy (call_dictPK K rfl) (by rfl) T.f_dict (by decide +kernel) (pa_cons (pe_lock (pe_lc (own := [("_law_kind", 4)]) rfl sc.nd (pi_keys (pv 3)) (blkOk_by (N := ["_law_pen_here", "_law_font_here", "_law_stock_here", "_law_rest", "_law_kind", "_law_same", "_law_part", "_law_other", "_law_number", "_law_one"]) (sc := defScope (top 101)) (by decide +kernel)) (fun _ _ _ _ _ => (pg_name (i := 4) sc.nd rfl (by first | exact Or.inl rfl | exact Or.inr rfl))) (fun _ _ _ _ _ => pts_one (pt_cmpR op_gt (pe_dget hu (pv 3) (pv 4) (fun _ _ => rfl)) pe_int (nomark _))) (fun _ _ _ _ _ => (pe_tup (pa_cons (pv 4) (pa_cons (pe_dget hu (pv 3) (pv 4) (fun _ _ => rfl)) pa_nil)))))) pa_nil))))))), ?_⟩
  obtain ⟨p, b, lf, d, F, st, rfl, rfl, rfl, hL, hd, ⟨so, hbd, hl6⟩, hp, q⟩ := h
  have o := hL.1
  have hw5 := o.hi
  have hkl := kinds_len o
  decreasing_trivial
  refine r_sp1 ⟨lf, F, rfl, hL, fun H1 a1 e1 n1 h1 => ?_⟩
  have hp1 := hp.mono e1
  decreasing_trivial
  refine ⟨a1, rfl, ⟨_, SqL.of h1⟩, fun D hD => ?_⟩
  refine cp_it (walk_list (xs := (kinds F).map vK)) (Lr ⟨false, G⟩ RPr H1 D (giv (fun _ => true) (fun k => (kK k, V.int 0)) (kinds F))) (Lr.start hD (giv_zero _ _ _)) (fun i H8 _ hp => SqL.of (hp.1.lst h1)) (fun i x H8 H9 hi hW hx => ?_) (fun H2 hW => ?_)
  · obtain ⟨rfl, hx⟩ := hx
    rw [List.getElem?_map] at hx
    cases hc : (kinds F)[i]? with
    | none =>
      rw [hc] at hx
      cases hx
    | some k =>
    rw [hc] at hx
    cases hx
    decreasing_trivial
    refine ⟨rfl, ?_⟩
    decreasing_trivial
    refine ⟨by show 2 ≤ sizeLine; decide, fun t ht => ?_⟩
    have f4 : Fs G H9 (upd H9 t (.tup [vK k, V.int 0])) := Fm.new ht
    exact hW.add stb_pr hD f4 ⟨t, rfl, upd_same⟩ (Nat.le_trans (giv_len _ _ _ _) (by omega)) (giv_yes hc rfl)
  · obtain ⟨e2, vs2, g2, g3⟩ := hW
    rw [List.length_map, giv_all, List.filter_eq_self.mpr (fun _ _ => rfl)] at g3
    have hp2 := hp1.mono e2
    decreasing_trivial
    refine r_dictPr g2 g3 (by rw [← rK_eq F fun _ => 0]; exact rK_nd o _) fun r hr0 => ?_
    rw [← rK_eq F fun _ => 0]
    have e3 : Fs G H (upd H2 r (.dK (stK (rK F fun _ => 0)))) := (e1.trans e2).trans (Fm.new hr0)
    have nr : NwR G H r := (e1.trans e2).weak.nw hr0
    have k3 : upd H2 r (.dK (stK (rK F fun _ => 0))) r = some (.dK (stK (rK F fun _ => 0))) := upd_same
    have hp3 := hp2.mono (Fm.new (b := ⟨false, G⟩) (o := .dK (stK (rK F fun _ => 0))) hr0)
    have hd3 := e3.dct hd (dOk_st st)
    have nrd : r ≠ d := fun z => by
      have := nr _ (z ▸ hd)
      rw [loose_dK (dOk_st st)] at this
      cases this
    generalize upd H2 r (.dK (stK (rK F fun _ => 0))) = H3 at *
    decreasing_trivial
    refine ⟨d, _, hd3, trivial, fun od => ?_⟩
    have hL3 := hL.mono e3
    have hLl : LFAt (upd H3 d (.frz od (.dK (stK st)))) lf F := hL3.lock hd3
    have hpl : Pen (upd H3 d (.frz od (.dK (stK st)))) p (b + 300) := hp3.lock hd3 (dOk_st st)
    have k3' : upd H3 d (.frz od (.dK (stK st))) r = some (.dK (stK (rK F fun _ => 0))) := (upd_ne nrd).trans k3
    have hfz : upd H3 d (.frz od (.dK (stK st))) d = some (.frz od (.dK (stK st))) := upd_same
    -- the frame from the locked start
    have nrl : NwR G (upd H d (.frz od (.dK (stK st)))) r := fun o' ho => by
      rw [upd_ne nrd] at ho
      exact nr o' ho
    have e0 : Fr G (upd H d (.frz od (.dK (stK st)))) (upd H3 d (.frz od (.dK (stK st)))) := by
      refine ⟨fun a o' ha hl => ?_, fun t => ?_⟩
      · by_cases ea : a = d
        · subst ea
          rw [upd_same] at ha ⊢
          exact ha
        · rw [upd_ne ea] at ha ⊢
          exact e3.weak.kp a o' ha hl
      · have t0 : LamX.Tabs G H := by
          intro qq hq
          obtain ⟨ps, t1, t2, t3⟩ := t qq hq
          refine ⟨ps, ?_, t2, fun pos cv hcv => ?_⟩
          · by_cases ea : qq.1 = d
            · rw [ea, upd_same] at t1
              cases t1
            · rw [upd_ne ea] at t1
              exact t1
          · obtain ⟨cc, y1, y2⟩ := t3 pos cv hcv
            refine ⟨cc, y1, ?_⟩
            by_cases ea : cc = d
            · rw [ea, upd_same] at y2
              cases y2
            · rw [upd_ne ea] at y2
              exact y2
        exact tabs_upd (e3.tb t0) fun u hu => by
          rw [hd3] at hu
          cases hu
          rfl
    have hlock : ∀ {H9 : Hp}, Fr G (upd H d (.frz od (.dK (stK st)))) H9 → H9 d = some (.frz od (.dK (stK st))) ∧ Fr G H (upd H9 d (.dK (stK st))) := fun e => Fm.lock hd rfl e
    have hfz0 : upd H d (.frz od (.dK (stK st))) d = some (.frz od (.dK (stK st))) := upd_same
    have hL0 : LFAt (upd H d (.frz od (.dK (stK st)))) lf F := hL.lock hd
    generalize upd H3 d (.frz od (.dK (stK st))) = H4 at *
    generalize upd H d (.frz od (.dK (stK st))) = HL at *
    decreasing_trivial
    refine ⟨d, od, rfl, .inl ⟨_, hfz, ?_⟩⟩
    refine for_it (walk_keys (kvs := stK st)) (fun i σ H5 => ∃ v4 v5 v6 v7 v8 v9 n, σ = [some (.ref p.p), some (.ref lf), some (.ref d), some (.ref r), v4, v5, v6, v7, v8, v9] ∧ Fr G HL H5 ∧ Pen H5 p (b + 20 + 8 * (6 - i)) ∧ H5 r = some (.dK (stK (rK F n))) ∧ ∀ k, 0 ≤ n k ∧ n k ≤ ((2 * i : Nat) : Int) * 10000000000000000000000000000) ⟨none, none, none, none, none, none, fun _ => 0, rfl, e0, hpl.less (by omega), k3', fun _ => ⟨by show (0 : Int) ≤ 0; decide, by show (0 : Int) ≤ ((2 * 0 : Nat) : Int) * 10000000000000000000000000000; decide⟩⟩ (fun i σ H5 _ hp => ?_) (fun i x σ H5 H6 hi hW hx => ?_) (fun σ H5 hW => ?_)
    · obtain ⟨_, _, _, _, _, _, _, _, e5, _⟩ := hp
      exact e5.kp _ _ hfz0 rfl
    · obtain ⟨v4, v5, v6, v7, v8, v9, n, rfl, e5, hp5, hr5, hn5⟩ := hW
      obtain ⟨rfl, k, v, hkv, rfl⟩ := hx
      unfold stK at hkv
      rw [List.getElem?_map] at hkv
      cases hc : st[i]? with
      | none =>
        rw [hc] at hkv
        cases hkv
      | some pr =>
      rw [hc] at hkv
      cases hkv
      have hi6 := (List.getElem?_eq_some_iff.mp hc).1
      have hmem := List.mem_of_getElem? hc
      have hval := so.val hmem
      have hok := so.ok _ hmem
      have hps := so.pos _ hmem
      have hpb := hbd _ hmem
      have hL5 := hL0.mono e5
      decreasing_trivial
      refine r_sp1 ⟨lf, F, rfl, hL5, fun H7 a7 e7 n7 h7 => ?_⟩
      have hL7 := hL5.mono e7
      have hp7 := hp5.mono e7
      have hr7 := e7.dct hr5 (dOk_st _)
      decreasing_trivial
      refine ⟨a7, rfl, ⟨_, SqL.of h7⟩, fun D2 hD2 => ?_⟩
      refine cp_it (walk_list (xs := (kinds F).map vK)) (Lp ⟨false, G⟩ H7 D2 (giv (fun k => decide (F.sh k = F.sh pr.1)) vK (kinds F))) (Lp.start hD2 (giv_zero _ _ _)) (fun i H8 _ hp => SqL.of (hp.1.lst h7)) (fun j x H8 H9 hj hW hx => ?_) (fun H8 hW => ?_)
      · obtain ⟨rfl, hx⟩ := hx
        rw [List.getElem?_map] at hx
        cases hcc : (kinds F)[j]? with
        | none =>
          rw [hcc] at hx
          cases hx
        | some k =>
        rw [hcc] at hx
        cases hx
        have hok1 := (kinds_mem o).mp (List.mem_of_getElem? hcc)
        decreasing_trivial
        refine ⟨rfl, ?_⟩
        decreasing_trivial
        refine r_sp2 ⟨lf, F, k, rfl, hL7.mono hW.1, rfl, hok1, fun H10 e10 => ?_⟩
        decreasing_trivial
        refine r_sp2 ⟨lf, F, pr.1, rfl, (hL7.mono hW.1).mono e10, rfl, hok, fun H11 e11 => ?_⟩
        decreasing_trivial
        have eS : decide ((⟨(F.sh k).toArray⟩ : Str) = ⟨(F.sh pr.1).toArray⟩) = decide (F.sh k = F.sh pr.1) := by
          by_cases e : F.sh k = F.sh pr.1
          · rw [decide_eq_true e, e, decide_eq_true rfl]
          · rw [decide_eq_false e, decide_eq_false]
            intro z
            have z2 := congrArg (fun y : Str => y.cps.toList) z
            exact e (by simpa using z2)
        rw [eS]
        refine iteD (fun e => ?_) (fun e => ?_)
        · decreasing_trivial
          exact hW.add hD2 (e10.trans e11) (Nat.le_trans (giv_len _ _ _ _) (by omega)) (giv_yes hcc e)
        · exact hW.skip (e10.trans e11) (giv_no hcc e)
      · have g8 := hW.2
        rw [List.length_map, giv_all] at g8
        have e8 := hW.1
        have hp8 := hp7.mono e8
        have hr8 := e8.dct hr7 (dOk_st _)
        have e58 := e5.trans (e7.trans e8).weak
        have hfz8 := e58.kp _ _ hfz0 rfl
        have hsn : (((kinds F).filter fun k => decide (F.sh k = F.sh pr.1)).map vK) ≠ [] := fun e => by
          have hm : pr.1 ∈ (kinds F).filter fun k => decide (F.sh k = F.sh pr.1) := List.mem_filter.mpr ⟨(kinds_mem o).mpr hok, decide_eq_true rfl⟩
          rw [List.map_eq_nil_iff.mp e] at hm
          cases hm
        have hsl : (((kinds F).filter fun k => decide (F.sh k = F.sh pr.1)).map vK).length ≤ 20 := by
          rw [List.length_map]
          exact Nat.le_trans (List.length_filter_le _ _) hkl
        decreasing_trivial
        refine r_dget1 (k := kK pr.1) (.inr ⟨od, hfz8⟩) rfl hval ?_
        decreasing_trivial
        refine r_sp2 ⟨p, b + 20 + 8 * (6 - (i + 1)) + 4, pr.2 + 1, rfl, rfl, by omega, by omega, hp8.less (by omega), fun H9 z e9 hp9 hz0 hz1 => ?_⟩
        have e59 := e58.trans e9
        have hr9 := e9.dct hr8 (dOk_st _)
        have hfz9 := e59.kp _ _ hfz0 rfl
        decreasing_trivial
        refine r_sp2 ⟨p, b + 20 + 8 * (6 - (i + 1)), D2, _, rfl, rfl, e9.lst g8, hsn, by omega, hp9.less (by omega), fun H10 v e10 hp10 hv => ?_⟩
        obtain ⟨k', hk', rfl⟩ := List.mem_map.mp hv
        have hkm := (List.mem_filter.mp hk').1
        have hpm := (kinds_mem o).mpr hok
        have e510 := e59.trans e10
        have hr10 := e10.dct hr9 (dOk_st _)
        decreasing_trivial
        refine ⟨by show 2 ≤ sizeLine; decide, fun t1 ht1 => ?_⟩
        have f1 : Fs G H10 (upd H10 t1 (.tup [vK k', V.int z])) := Fm.new ht1
        have j1 : upd H10 t1 (.tup [vK k', V.int z]) t1 = some (.tup [vK k', V.int z]) := upd_same
        have hr11 := f1.dct hr10 (dOk_st _)
        have e511 := e510.trans f1.weak
        have hp11 := hp10.mono f1
        have hfz11 := e511.kp _ _ hfz0 rfl
        generalize upd H10 t1 (.tup [vK k', V.int z]) = H11 at *
        decreasing_trivial
        refine r_dget1 (k := kK pr.1) (.inr ⟨od, hfz11⟩) rfl hval ?_
        decreasing_trivial
        refine ⟨by show 2 ≤ sizeLine; decide, fun t2 ht2 => ?_⟩
        have f2 : Fs G H11 (upd H11 t2 (.tup [kV (kK pr.1), V.int (pr.2 - z)])) := Fm.new ht2
        have j2 : upd H11 t2 (.tup [kV (kK pr.1), V.int (pr.2 - z)]) t2 = some (.tup [vK pr.1, V.int (pr.2 - z)]) := upd_same
        have j12 := f2.tup j1
        have hr12 := f2.dct hr11 (dOk_st _)
        have e512 := e511.trans f2.weak
        have hp12 := hp11.mono f2
        have ev : V.str (K2 pr.1) = vK pr.1 := rfl
        generalize upd H11 t2 (.tup [kV (kK pr.1), V.int (pr.2 - z)]) = H12 at *
        decreasing_trivial
        refine ⟨by show 2 ≤ sizeLine; decide, fun t3 ht3 => ?_⟩
        have f3 : Fs G H12 (upd H12 t3 (.tup [V.ref t1, V.ref t2])) := Fm.new ht3
        have j3 : upd H12 t3 (.tup [V.ref t1, V.ref t2]) t3 = some (.tup [V.ref t1, V.ref t2]) := upd_same
        have j13 := f3.tup j12
        have j23 := f3.tup j2
        have hr13 := f3.dct hr12 (dOk_st _)
        have e513 := e512.trans f3.weak
        have hp13 := hp12.mono f3
        generalize upd H12 t3 (.tup [V.ref t1, V.ref t2]) = H13 at *
        refine ⟨t3, rfl, ⟨_, SqT.of j3⟩, ?_⟩
        refine for_it (walk_tup (xs := [V.ref t1, V.ref t2])) (fun j σ H14 => ∃ v7 v8 v9 n', σ = [some (.ref p.p), some (.ref lf), some (.ref d), some (.ref r), some (vK pr.1), some (.ref D2), some (.int z), v7, v8, v9] ∧ Fr G HL H14 ∧ Pen H14 p (b + 20 + 8 * (6 - (i + 1))) ∧ H14 t1 = some (.tup [vK k', V.int z]) ∧ H14 t2 = some (.tup [vK pr.1, V.int (pr.2 - z)]) ∧ H14 t3 = some (.tup [V.ref t1, V.ref t2]) ∧ H14 r = some (.dK (stK (rK F n'))) ∧ ∀ k, 0 ≤ n' k ∧ n' k ≤ ((2 * i + j : Nat) : Int) * 10000000000000000000000000000) ⟨_, _, _, n, rfl, e513, hp13, j13, j23, j3, hr13, hn5⟩ (fun j σ H14 _ hp => ?_) (fun j x σ H14 H15 hj hW hx => ?_) (fun σ H14 hW => ?_)
        · obtain ⟨_, _, _, _, _, _, _, _, _, h3, _⟩ := hp
          exact SqT.of h3
        · obtain ⟨v7, v8, v9, n', rfl, e14, hp14, y1, y2, y3, hr14, hn14⟩ := hW
          obtain ⟨rfl, hx⟩ := hx
          have hx2 : ∃ (tt : Addr) (kk : Nat × Nat) (zz : Int), x = .ref tt ∧ H15 tt = some (.tup [vK kk, V.int zz]) ∧ kk ∈ kinds F ∧ 0 ≤ zz ∧ zz ≤ 10000000000000000000000000000 := by
            have hj2 : j = 0 ∨ j = 1 := by
              have : j < 2 := hj
              omega
            rcases hj2 with rfl | rfl
            · have hx3 : V.ref t1 = x := Option.some.inj hx
              exact ⟨t1, k', z, hx3.symm, y1, hkm, hz0, by omega⟩
            · have hx3 : V.ref t2 = x := Option.some.inj hx
              exact ⟨t2, pr.1, pr.2 - z, hx3.symm, y2, hpm, by omega, by omega⟩
          obtain ⟨tt, kk, zz, rfl, htt, hkk, hz2, hz3⟩ := hx2
          refine ⟨tt, _, rfl, SqT.of htt, rfl, _, _, rfl, _, _, rfl, rfl, ?_⟩
          have hval2 : valV (stK (rK F n')) (kK kk) = some (.int (n' kk)) := by rw [rK_get, if_pos hkk]
          decreasing_trivial
          refine r_dget1 (k := kK kk) (.inl hr14) rfl hval2 ?_
          decreasing_trivial
          refine r_dput1 (k := kK kk) hr14 (rK_len o n') ?_
          rw [rK_put hkk]
          decreasing_trivial
          have hnk := hn14 kk
          have hnp := hp14.neD hr14 (dOk_st _)
          have hmul : ((2 * i + (j + 1) : Nat) : Int) * 10000000000000000000000000000 = ((2 * i + j : Nat) : Int) * 10000000000000000000000000000 + 10000000000000000000000000000 := by omega
          rw [hmul]
          exact ⟨_, _, _, _, rfl, e14.edit nrl hr14 rfl, hp14.upd hnp.1 hnp.2, (upd_ne (ne_of y1 hr14 (by intro z; cases z))).trans y1, (upd_ne (ne_of y2 hr14 (by intro z; cases z))).trans y2, (upd_ne (ne_of y3 hr14 (by intro z; cases z))).trans y3, upd_same, setK_le (fun x => by have := hn14 x; omega) (by omega) (by omega)⟩
        · obtain ⟨v7, v8, v9, n', rfl, e14, hp14, y1, y2, y3, hr14, hn14⟩ := hW
          decreasing_trivial
          refine ⟨_, _, _, _, _, _, n', rfl, e14, hp14, hr14, fun k => ?_⟩
          have := hn14 k
          have e2i : 2 * i + [V.ref t1, V.ref t2].length = 2 * (i + 1) := by
            show 2 * i + 2 = _
            omega
          rw [e2i] at this
          exact this
    · obtain ⟨v4, v5, v6, v7, v8, v9, n, rfl, e5, hp5, hr5, hn5⟩ := hW
      obtain ⟨l1, l2⟩ := hlock e5
      refine ⟨l1, ?_⟩
      have hp6 := (hp5.unlock (o := .dK (stK st)) l1).less (show b + 20 ≤ _ by omega)
      have hr6 : upd H5 d (.dK (stK st)) r = some (.dK (stK (rK F n))) := (upd_ne nrd).trans hr5
      have hlst : (stK st).length ≤ 6 := by
        unfold stK
        rw [List.length_map]
        exact hl6
      have hn6 : ∀ k, 0 ≤ n k ∧ n k ≤ 120000000000000000000000000000 := fun k => by
        have h9 := hn5 k
        have h10 : ((2 * (stK st).length : Nat) : Int) ≤ 12 := by omega
        have hmul : ((2 * (stK st).length : Nat) : Int) * 10000000000000000000000000000 ≤ 12 * 10000000000000000000000000000 := Int.mul_le_mul_of_nonneg_right h10 (by decide)
        omega
      generalize upd H5 d (.dK (stK st)) = H6 at *
      decreasing_trivial
      refine r_sp2 ⟨p, b + 10, 3, rfl, rfl, by decide, by decide, hp6.less (by omega), fun H7 z e7 hp7 hz0 hz3 => ?_⟩
      have e07 := l2.trans e7
      have hr7 := e7.dct hr6 (dOk_st _)
      decreasing_trivial
      refine iteD (fun ez => ?_) (fun ez => ?_)
      · have hL7 := hL.mono e07
        decreasing_trivial
        refine r_sp1 ⟨lf, F, rfl, hL7, fun H8 a8 e8 n8 h8 => ?_⟩
        have hp8 := hp7.mono e8
        have hr8 := e8.dct hr7 (dOk_st _)
        have hkn : (kinds F).map vK ≠ [] := fun e => kinds_ne o (List.map_eq_nil_iff.mp e)
        decreasing_trivial
        refine r_sp2 ⟨p, b + 5, a8, _, rfl, rfl, h8, hkn, by rw [List.length_map]; omega, hp8.less (by omega), fun H9 v e9 hp9 hv => ?_⟩
        obtain ⟨k, hk, rfl⟩ := List.mem_map.mp hv
        have hr9 := e9.dct hr8 (dOk_st _)
        have hval : valV (stK (rK F n)) (kK k) = some (.int (n k)) := by rw [rK_get, if_pos hk]
        decreasing_trivial
        refine r_dget1 (k := kK k) (.inl hr9) rfl hval ?_
        decreasing_trivial
        refine r_dput1 (k := kK k) hr9 (rK_len o n) ?_
        rw [rK_put hk]
        have e09 := (e07.trans e8.weak).trans e9
        have hnp := hp9.neD hr9 (dOk_st _)
        have hnk := hn6 k
        refine exch_last (G := G) o upd_same (setK_le (fun x => by have := hn6 x; omega) (by omega) (by omega)) fun H' x s2 e' so2 hx => ?_
        exact q H' x s2 ((e09.edit nr hr9 rfl).trans e'.weak) (((hp9.upd hnp.1 hnp.2).mono e').less (by omega)) so2 hx
      · decreasing_trivial
        refine exch_last (G := G) o hr7 (fun x => by have := hn6 x; omega) fun H' x s2 e' so2 hx => ?_
        exact q H' x s2 (e07.trans e'.weak) ((hp7.mono e').less (by omega)) so2 hx
end
end Hy
namespace Hy
open PySem PySem.Spec PyProof.Rows L2
local macro_rules | `(tactic| decreasing_trivial) => `(tactic| ((try (with_reducible conv => whnf)); repeat (first
    | with_reducible refine iteT ?_
    | with_reducible refine iteF ?_
    | with_reducible refine iteNT ?_
    | with_reducible refine iteNF ?_
    | with_reducible refine r_isi_int ?_
    | with_reducible refine r_isi_bool ?_
    | with_reducible refine r_isi_str ?_
    | with_reducible refine r_eqN ?_
    | with_reducible refine r_neN ?_
    | with_reducible refine r_eqS ?_
    | with_reducible refine r_neS ?_
    | with_reducible refine r_seq ?_
    | with_reducible refine r_asg ?_
    | with_reducible refine r_gname ?_
    | with_reducible refine r_ret ?_
    | with_reducible refine r_drop ?_
    | with_reducible refine r_next ?_
    | with_reducible refine r_op ?_
    | with_reducible refine r_var (by with_unfolding_all exact rfl) ?_
    | with_reducible refine r_c ?_
    | with_reducible refine r_cons ?_
    | with_reducible refine r_nil ?_
    | with_reducible refine r_un ?_
    | with_reducible refine r_I0 ?_
    | with_reducible refine r_U ?_
    | with_reducible refine r_df ?_
    | with_reducible refine r_cb ?_
    | with_reducible refine r_ifS ?_
    | with_reducible refine r_ifE ?_
    | with_reducible refine r_test ?_
    | with_reducible refine r_B ?_
    | with_reducible refine r_tand ?_
    | with_reducible refine r_tor ?_
    | with_reducible refine r_tnot ?_
    | with_reducible refine r_andV ?_
    | with_reducible refine r_orV ?_
    | with_reducible refine r_notV ?_
    | with_reducible refine r_blif ?_
    | with_reducible refine r_bl ?_
    | with_reducible refine r_chain ?_
    | with_reducible refine r_tup ?_
    | with_reducible refine r_lst ?_
    | with_reducible refine r_fld ?_
    | with_reducible refine r_dget ?_
    | with_reducible refine r_din ?_
    | with_reducible refine r_pt ?_
    | with_reducible refine r_mt ?_
    | with_reducible refine r_iEnumS ?_
    | with_reducible refine r_bm ?_
    | with_reducible refine r_iStr ?_
    | with_reducible refine r_lcT ?_
    | with_reducible refine r_dcT ?_
    | with_reducible refine r_iList ?_
    | with_reducible refine r_iTup ?_
    | with_reducible refine r_iRng1 ?_
    | with_reducible refine r_iRng2 ?_
    | with_reducible refine r_iEnum ?_
    | with_reducible refine r_iZip ?_
    | with_reducible refine r_iKeys ?_
    | with_reducible refine r_iItems ?_
    | with_reducible refine r_iVals ?_
    | with_reducible refine r_lstRg ?_
    | with_reducible refine r_rg1 ?_
    | with_reducible refine r_sortDf ?_
    | with_reducible refine r_bits ?_
    | with_reducible refine r_forT ?_
    | with_reducible refine r_augS ?_
    | with_reducible refine r_gsub ?_
    | with_reducible refine r_bm0 ?_
    | with_reducible refine r_sortLam ?_
    | with_reducible refine r_sfld ?_
    | with_reducible refine r_dput ?_
    | with_reducible refine r_dnewK ?_
    | with_reducible refine r_mk ?_
    | with_reducible refine r_con ?_
    | with_reducible refine r_lockS ?_
    | with_reducible refine r_sl ?_
    | with_reducible refine r_part ?_
    | with_reducible refine r_nopart ?_
    | with_reducible refine r_dget2 ?_
    | with_reducible refine r_isN ?_
    | with_reducible refine r_notN ?_
    | with_reducible refine r_par ?_
    | with_reducible refine r_par2 ?_
    | with_reducible refine r_yes ?_
    | with_reducible refine r_scT ?_)))
section
variable {P : Program} {w : World} {K : PySem.W.Frag} {mg : Str → Option Value} {base : Heap} {C : Ad} {G : List (Addr × Str)}
theorem bear_take {F : Ft} {st : List ((Nat × Nat) × Int)} {i : Nat} {pr : (Nat × Nat) × Int} (h : st[i]? = some pr) (q : Nat → Bool) : F.bear (st.take (i + 1)) q = F.bear (st.take i) q + if (F.sh pr.1).any q = true then pr.2 else 0 := by
  unfold Ft.bear
  rw [List.take_add_one, h, Option.toList_some, List.map_append, List.sum_append]
  simp
theorem want_set {F : Ft} (o : F.Ok) {n : Nat → Int} {c : Nat} (hc : c ∈ F.ws) (z : Int) (r : Nat → Bool) : F.want (setNm n c (n c + z)) r = F.want n r + if r c = true then z else 0 := by
  unfold Ft.want
  have key : ∀ l : List Nat, l.Nodup → (l.map fun x => if r x = true then setNm n c (n c + z) x else 0).sum = (l.map fun x => if r x = true then n x else 0).sum + if c ∈ l then (if r c = true then z else 0) else 0 := by
    intro l
    induction l with
    | nil =>
      intro _
      rfl
    | cons a l ih =>
      intro nd
      have nd := List.nodup_cons.mp nd
      rw [List.map_cons, List.sum_cons, List.map_cons, List.sum_cons, ih nd.2]
      by_cases e : a = c
      · subst e
        rw [if_neg nd.1, if_pos (List.mem_cons_self ..)]
        unfold setNm
        rw [if_pos rfl]
        by_cases hr : r a = true
        · rw [if_pos hr, if_pos hr, if_pos hr]
          omega
        · rw [if_neg hr, if_neg hr, if_neg hr]
          omega
      · have e1 : setNm n c (n c + z) a = n a := by
          unfold setNm
          rw [if_neg e]
        rw [e1]
        by_cases hm : c ∈ l
        · rw [if_pos hm, if_pos (List.mem_cons_of_mem _ hm)]
          omega
        · rw [if_neg hm, if_neg (fun z => (List.mem_cons.mp z).elim (fun z => e z.symm) hm)]
          omega
  rw [key F.ws o.nd, if_pos hc]
theorem want_zero (F : Ft) (r : Nat → Bool) : F.want (fun _ => 0) r = 0 := by
  unfold Ft.want
  generalize F.ws = l
  induction l with
  | nil => rfl
  | cons a l ih =>
    rw [List.map_cons, List.sum_cons, ih]
    split <;> rfl
/-- the wants that are filled from the first i kinds -/
structure FilI (F : Ft) (st : List ((Nat × Nat) × Int)) (m i : Nat) (n : Nat → Int) : Prop where
  nn : ∀ c, 0 ≤ n c
  eq : F.want n (F.qm m) = F.bear (st.take i) (F.qm m)
  le : ∀ r, F.want n r ≤ F.bear (st.take i) r
theorem FilI.zero (F : Ft) (st : List ((Nat × Nat) × Int)) (m : Nat) : FilI F st m 0 fun _ => 0 := ⟨fun _ => Int.le_refl _, want_zero F _, fun r => by rw [want_zero]; exact Int.le_refl _⟩
theorem FilI.skip {F : Ft} {st : List ((Nat × Nat) × Int)} {m i : Nat} {n : Nat → Int} {pr : (Nat × Nat) × Int} (h : FilI F st m i n) (hc : st[i]? = some pr) (hp : 0 ≤ pr.2) (hn : ¬ (F.sh pr.1).any (F.qm m) = true) : FilI F st m (i + 1) n := by
  refine ⟨h.nn, ?_, fun r => ?_⟩
  · rw [bear_take hc, if_neg hn, h.eq]
    omega
  · rw [bear_take hc]
    have := h.le r
    split <;> omega
theorem FilI.add {F : Ft} (o : F.Ok) {st : List ((Nat × Nat) × Int)} {m i c : Nat} {n : Nat → Int} {pr : (Nat × Nat) × Int} (h : FilI F st m i n) (hc : st[i]? = some pr) (hp : 0 ≤ pr.2) (hs : c ∈ F.sh pr.1) (hq : F.qm m c = true) : FilI F st m (i + 1) (setNm n c (n c + pr.2)) := by
  have hw : c ∈ F.ws := (List.mem_filter.mp hs).1
  refine ⟨fun x => ?_, ?_, fun r => ?_⟩
  · unfold setNm
    have h1 := h.nn x
    have h2 := h.nn c
    split <;> omega
  · rw [want_set o hw, bear_take hc, if_pos hq, if_pos (List.any_eq_true.mpr ⟨c, hs, hq⟩), h.eq]
  · rw [want_set o hw, bear_take hc]
    have h1 := h.le r
    by_cases hr : r c = true
    · rw [if_pos hr, if_pos (List.any_eq_true.mpr ⟨c, hs, hr⟩)]
      omega
    · rw [if_neg hr]
      split <;> omega
theorem NmI.zeros {F : Ft} {as : List (Key × V)} (e : as = F.ws.map fun c => (kS c, V.int 0)) : as = nmK F fun _ => 0 := e
theorem sc_law_filled : FnScope ["_law_pen_here", "_law_font_here", "_law_stock_here", "_law_some", "_law_need_here", "_law_kind", "_law_mine", "_law_sign"] ["_law_pen_here", "_law_font_here", "_law_stock_here", "_law_some"] (defScope (top 102)) := ⟨rfl, rfl, rfl, by decide +kernel, rfl, by decide +kernel, by decide +kernel⟩
theorem d_law_filled (T : Txt K mg C) (D_law_pick : Df P w K mg base "_law_pick" 5 (spPick G)) (D_law_shows : Df P w K mg base "_law_shows" 1 (spLShows G)) : Df P w K mg base "_law_filled" 6 (spFilled G) := by
  have sc := sc_law_filled
  refine FnT.df (T.fn ("_law_filled", 102) (by decide)) sc len4 (fun _ _ _ _ _ _ us hl => match us, hl with | [_, _, _, _], _ => rfl) (fun f cdv A outer s H vs Q E hr h => ?_)
  have hu := hu_of hr
  have hu64 := hr.units
  have hu0 := Nat.lt_of_succ_lt hu
  obtain ⟨x1, x2, x3, x4, rfl, h⟩ := h
  refine ⟨_, (pss_cons (ps_set (i := 4) sc.nd rfl (by first | exact Or.inl rfl | exact Or.inr rfl) (pe_callTy (call_dictPK K rfl) (by rfl) T.f_dict (by decide +kernel) (pa_cons (pe_lc (own := [("_law_sign", 7)]) rfl sc.nd (pi_str (pe_ix (ix_tupK K) (pv 1) pe_int (fun _ _ => rfl))) (blkOk_by (N := ["_law_pen_here", "_law_font_here", "_law_stock_here", "_law_some", "_law_need_here", "_law_kind", "_law_mine", "_law_sign"]) (sc := defScope (top 102)) (by decide +kernel)) (fun _ _ _ _ _ => (pg_name (i := 7) sc.nd rfl (by first | exact Or.inl rfl | exact Or.inr rfl))) (fun _ _ _ _ _ => pts_nil) (fun _ _ _ _ _ => (pe_tup (pa_cons (pv 7) (pa_cons pe_int pa_nil))))) pa_nil)))
  (pss_cons (ps_lock (ps_for PassesOwn.never rfl (pi_keys (pv 2)) (pg_name (i := 5) sc.nd rfl (by first | exact Or.inl rfl | exact Or.inr rfl)) (pss_cons (ps_setLc (i := 6) (own := [("_law_sign", 7)]) rfl sc.nd rfl rfl (sw_true rfl rfl rfl (by decide +kernel)) (pi_str (pe_df D_law_shows (hr.mono (by decide)) rfl (pa_cons (pv 1) (pa_cons (pv 5) pa_nil)))) (blkOk_by (N := ["_law_pen_here", "_law_font_here", "_law_stock_here", "_law_some", "_law_need_here", "_law_kind", "_law_mine", "_law_sign"]) (sc := defScope (top 102)) (by decide +kernel)) (fun _ _ _ _ _ => (pg_name (i := 7) sc.nd rfl (by first | exact Or.inl rfl | exact Or.inr rfl))) (fun _ _ _ _ _ => pts_one (pt_cmpR op_in_sign (pv 7) (pv 3) (by rfl))) (fun _ _ _ _ _ => (pv 7)))
  (pss_one (ps_if (pt_cmpR (op_neDK K hu64) (pv 6) (pe_lst pa_nil) (nomark _)) (pss_cons (ps_set (i := 7) sc.nd rfl (by first | exact Or.inl rfl | exact Or.inr rfl) (pe_df D_law_pick (hr.mono (by decide)) rfl (pa_cons (pv 0) (pa_cons (pv 6) pa_nil))))
  (pss_one (ps_dput hu (pv 4) (pv 7) (pe_op op_add (pe_dget hu (pv 4) (pv 7) (fun _ _ => rfl)) (pe_dget hu (pv 2) (pv 5) (fun _ _ => rfl))) rfl))) pss_nil)))))
  (pss_one (ps_ret (pv 4))))), ?_⟩
  obtain ⟨p, b, lf, d, F, st, m, rfl, rfl, rfl, rfl, hL, hd, so, hp, q⟩ := h
  obtain ⟨o, hh, hk0, h1, h2, h3⟩ := id hL
  have hw5 := o.hi
  have hl20 := so.len
  decreasing_trivial
  refine ⟨lf, _, 0, _, rfl, rfl, SqT.of h1, rfl, ?_⟩
  refine ⟨F.W, rfl, fun D hD => ?_⟩
  refine cp_it walk_str (Lr ⟨false, G⟩ RPr H D (giv (fun _ => true) (fun c => (kS c, V.int 0)) F.ws)) (Lr.start hD (giv_zero _ _ _)) (fun _ _ _ _ => trivial) (fun i x H8 H9 hi hW hx => ?_) (fun H2 hW => ?_)
  · obtain ⟨rfl, c, hc, rfl⟩ := hx
    have hc' : F.ws[i]? = some c := by simpa [Ft.W] using hc
    decreasing_trivial
    refine ⟨rfl, ?_⟩
    decreasing_trivial
    refine ⟨by show 2 ≤ sizeLine; decide, fun t ht => ?_⟩
    have f4 : Fs G H9 (upd H9 t (.tup [vS c, V.int 0])) := Fm.new ht
    exact hW.add stb_pr hD f4 ⟨t, rfl, upd_same⟩ (Nat.le_trans (giv_len _ _ _ _) (by omega)) (giv_yes hc' rfl)
  · obtain ⟨e2, vs2, g2, g3⟩ := hW
    have e1 : F.W.cps.size = F.ws.length := by simp [Ft.W]
    rw [e1, giv_all, List.filter_eq_self.mpr (fun _ _ => rfl)] at g3
    have g3 : Paired (RPr H2) vs2 (nmK F fun _ => 0) := g3
    have hp2 := hp.mono e2
    decreasing_trivial
    refine r_dictPr g2 g3 (nm_nd o _) fun r hr0 => ?_
    have e3 : Fs G H (upd H2 r (.dK (nmK F fun _ => 0))) := e2.trans (Fm.new hr0)
    have nr : NwR G H r := e2.weak.nw hr0
    have k3 : upd H2 r (.dK (nmK F fun _ => 0)) r = some (.dK (nmK F fun _ => 0)) := upd_same
    have hp3 := hp2.mono (Fm.new (b := ⟨false, G⟩) (o := .dK (nmK F fun _ => 0)) hr0)
    have hd3 := e3.dct hd (dOk_st st)
    have nrd : r ≠ d := fun z => by
      have := nr _ (z ▸ hd)
      rw [loose_dK (dOk_st st)] at this
      cases this
    generalize upd H2 r (.dK (nmK F fun _ => 0)) = H3 at *
    decreasing_trivial
    refine ⟨d, _, hd3, trivial, fun od => ?_⟩
    have hpl : Pen (upd H3 d (.frz od (.dK (stK st)))) p (b + 200) := hp3.lock hd3 (dOk_st st)
    have k3' : upd H3 d (.frz od (.dK (stK st))) r = some (.dK (nmK F fun _ => 0)) := (upd_ne nrd).trans k3
    have hfz : upd H3 d (.frz od (.dK (stK st))) d = some (.frz od (.dK (stK st))) := upd_same
    have nrl : NwR G (upd H d (.frz od (.dK (stK st)))) r := fun o' ho => by
      rw [upd_ne nrd] at ho
      exact nr o' ho
    have e0 : Fr G (upd H d (.frz od (.dK (stK st)))) (upd H3 d (.frz od (.dK (stK st)))) := lock_both e3.weak hd hd3
    have hlock : ∀ {H9 : Hp}, Fr G (upd H d (.frz od (.dK (stK st)))) H9 → H9 d = some (.frz od (.dK (stK st))) ∧ Fr G H (upd H9 d (.dK (stK st))) := fun e => Fm.lock hd rfl e
    have hfz0 : upd H d (.frz od (.dK (stK st))) d = some (.frz od (.dK (stK st))) := upd_same
    have hL0 : LFAt (upd H d (.frz od (.dK (stK st)))) lf F := hL.lock hd
    generalize upd H3 d (.frz od (.dK (stK st))) = H4 at *
    generalize upd H d (.frz od (.dK (stK st))) = HL at *
    decreasing_trivial
    refine ⟨d, od, rfl, .inl ⟨_, hfz, ?_⟩⟩
    refine for_it (walk_keys (kvs := stK st)) (fun i σ H5 => ∃ v5 v6 v7 n, σ = [some (.ref p.p), some (.ref lf), some (.ref d), some (.str (F.setT m)), some (.ref r), v5, v6, v7] ∧ Fr G HL H5 ∧ Pen H5 p (b + 4 * (20 - i)) ∧ H5 r = some (.dK (nmK F n)) ∧ FilI F st m i n) ⟨none, none, none, fun _ => 0, rfl, e0, hpl.less (by omega), k3', FilI.zero F st m⟩ (fun i σ H5 _ hp => ?_) (fun i x σ H5 H6 hi hW hx => ?_) (fun σ H5 hW => ?_)
    · obtain ⟨_, _, _, _, _, e5, _⟩ := hp
      exact e5.kp _ _ hfz0 rfl
    · obtain ⟨v5, v6, v7, n, rfl, e5, hp5, hr5, hn5⟩ := hW
      obtain ⟨rfl, k, v, hkv, rfl⟩ := hx
      unfold stK at hkv
      rw [List.getElem?_map] at hkv
      cases hc : st[i]? with
      | none =>
        rw [hc] at hkv
        cases hkv
      | some pr =>
      rw [hc] at hkv
      cases hkv
      have hi6 := (List.getElem?_eq_some_iff.mp hc).1
      have hmem := List.mem_of_getElem? hc
      have hval := so.val hmem
      have hok := so.ok _ hmem
      have hps := so.pos _ hmem
      have hL5 := hL0.mono e5
      decreasing_trivial
      refine r_sp2 ⟨lf, F, pr.1, rfl, hL5, rfl, hok, fun H7 e7 => ?_⟩
      decreasing_trivial
      have hp7 := hp5.mono e7
      have hr7 := e7.dct hr5 (dOk_nm F n)
      have hshl : (F.sh pr.1).length ≤ 5 := Nat.le_trans (List.length_filter_le _ _) hw5
      have hshw : ∀ c ∈ F.sh pr.1, c ∈ F.ws := fun c hc => (List.mem_filter.mp hc).1
      refine ⟨_, rfl, fun D2 hD2 => ?_⟩
      refine cp_it walk_str (Lp ⟨false, G⟩ H7 D2 (giv (fun c => F.qm m c) vS (F.sh pr.1))) (Lp.start hD2 (giv_zero _ _ _)) (fun _ _ _ _ => trivial) (fun j x H8 H9 hj hW hx => ?_) (fun H8 hW => ?_)
      · obtain ⟨rfl, c, hcc, rfl⟩ := hx
        have hc' : (F.sh pr.1)[j]? = some c := by simpa using hcc
        have hcw := hshw c (List.mem_of_getElem? hc')
        decreasing_trivial
        refine ⟨rfl, ?_⟩
        decreasing_trivial
        refine ⟨c, F.setT m, rfl, rfl, ?_⟩
        have eS : decide (c ∈ (F.setT m).cps.toList) = F.qm m c := by
          have e9 : (F.setT m).cps.toList = F.setL m := by simp [Ft.setT]
          rw [e9]
          unfold Ft.setL
          cases hq : F.qm m c with
          | true => exact decide_eq_true (List.mem_filter.mpr ⟨hcw, hq⟩)
          | false =>
            refine decide_eq_false fun z => ?_
            have := (List.mem_filter.mp z).2
            rw [hq] at this
            cases this
        decreasing_trivial
        show if (decide (c ∈ (F.setT m).cps.toList)) = true then _ else _
        rw [eS]
        refine iteD (fun e => ?_) (fun e => ?_)
        · decreasing_trivial
          exact hW.add hD2 (Fm.refl _) (Nat.le_trans (giv_len _ _ _ _) (by omega)) (giv_yes hc' e)
        · exact hW.skip (Fm.refl _) (giv_no hc' e)
      · have e10 : (⟨(F.sh pr.1).toArray⟩ : Str).cps.size = (F.sh pr.1).length := by simp
        have g8 := hW.2
        rw [e10, giv_all] at g8
        have hp8 := hp7.mono hW.1
        have hr8 := hW.1.dct hr7 (dOk_nm F n)
        have e58 := e5.trans (e7.trans hW.1).weak
        have hml : ((F.sh pr.1).filter fun c => F.qm m c).length ≤ 5 := Nat.le_trans (List.length_filter_le _ _) hshl
        have hmm : ∀ c ∈ (F.sh pr.1).filter fun c => F.qm m c, c ∈ F.sh pr.1 ∧ F.qm m c = true := fun c hc => List.mem_filter.mp hc
        have hmn : (F.sh pr.1).filter (fun c => F.qm m c) = [] → ¬ (F.sh pr.1).any (F.qm m) = true := fun e z => by
          obtain ⟨c, y1, y2⟩ := List.any_eq_true.mp z
          have y3 : c ∈ (F.sh pr.1).filter fun c => F.qm m c := List.mem_filter.mpr ⟨y1, y2⟩
          rw [e] at y3
          cases y3
        generalize (F.sh pr.1).filter (fun c => F.qm m c) = mine at *
        decreasing_trivial
        refine ⟨by show 0 ≤ sizeLine; omega, fun l0 hl0 => ?_⟩
        have f1 : Fs G H8 (upd H8 l0 (.lst [])) := Fm.new hl0
        have j1 : upd H8 l0 (.lst []) l0 = some (.lst []) := upd_same
        have g9 := f1.lst g8
        have hp9 := hp8.mono f1
        have hr9 := f1.dct hr8 (dOk_nm F n)
        have e59 := e58.trans f1.weak
        generalize upd H8 l0 (.lst []) = H9 at *
        refine r_neE g9 j1 (plain_all (plain_vs (fun c hc => ws_small o (hshw c (hmm c hc).1)) H9)) ?_
        decreasing_trivial
        cases hmi : mine with
        | nil =>
          refine iteN rfl ?_
          decreasing_trivial
          exact ⟨_, _, _, n, rfl, e59, hp9.less (by omega), hr9, hn5.skip hc (by omega) (hmn hmi)⟩
        | cons c0 mine' =>
          rw [← hmi]
          have hne : mine.map vS ≠ [] := by
            rw [hmi]
            simp
          refine iteE (by rw [decide_eq_false hne]; rfl) ?_
          decreasing_trivial
          refine r_sp2 ⟨p, b + 4 * (20 - (i + 1)), D2, _, rfl, rfl, g9, hne, by rw [List.length_map]; omega, hp9.less (by omega), fun H10 v e10' hp10 hv => ?_⟩
          obtain ⟨c, hcm, rfl⟩ := List.mem_map.mp hv
          obtain ⟨y1, y2⟩ := hmm c hcm
          have hcw := hshw c y1
          have hr10 := e10'.dct hr9 (dOk_nm F n)
          have e510 := e59.trans e10'
          have hfz10 := e510.kp _ _ hfz0 rfl
          have hval2 : valV (nmK F n) (kS c) = some (.int (n c)) := by rw [nm_get, if_pos hcw]
          have hlen : (nmK F n).length < sizeLine := by
            rw [nm_len]
            exact Nat.lt_of_le_of_lt (show F.n ≤ 1000 by have := o.n; omega) (by decide)
          have hnp := hp10.neD hr10 (dOk_nm F n)
          decreasing_trivial
          refine r_dget1 (k := kS c) (.inl hr10) rfl hval2 ?_
          decreasing_trivial
          refine r_dget1 (k := kK pr.1) (.inr ⟨od, hfz10⟩) rfl hval ?_
          decreasing_trivial
          refine r_dput1 (k := kS c) hr10 hlen ?_
          rw [nm_put hcw]
          decreasing_trivial
          exact ⟨_, _, _, _, rfl, e510.edit nrl hr10 rfl, hp10.upd hnp.1 hnp.2, upd_same, hn5.add o hc (by omega) y1 y2⟩
    · obtain ⟨v5, v6, v7, n, rfl, e5, hp5, hr5, hn5⟩ := hW
      obtain ⟨l1, l2⟩ := hlock e5
      refine ⟨l1, ?_⟩
      have hll : (stK st).length = st.length := by
        unfold stK
        rw [List.length_map]
      rw [hll] at hn5
      have eqq := hn5.eq
      have lee := hn5.le
      rw [List.take_length] at eqq
      decreasing_trivial
      exact q _ r n l2 ((hp5.unlock l1).less (by omega)) hn5.nn eqq (fun r' => by have := lee r'; rwa [List.take_length] at this) ((upd_ne nrd).trans hr5)
end
end Hy
namespace Hy
open PySem PySem.Spec PyProof.Rows L2
local macro_rules | `(tactic| decreasing_trivial) => `(tactic| ((try (with_reducible conv => whnf)); repeat (first
    | with_reducible refine iteT ?_
    | with_reducible refine iteF ?_
    | with_reducible refine iteNT ?_
    | with_reducible refine iteNF ?_
    | with_reducible refine r_isi_int ?_
    | with_reducible refine r_isi_bool ?_
    | with_reducible refine r_isi_str ?_
    | with_reducible refine r_eqN ?_
    | with_reducible refine r_neN ?_
    | with_reducible refine r_eqS ?_
    | with_reducible refine r_neS ?_
    | with_reducible refine r_seq ?_
    | with_reducible refine r_asg ?_
    | with_reducible refine r_gname ?_
    | with_reducible refine r_ret ?_
    | with_reducible refine r_drop ?_
    | with_reducible refine r_next ?_
    | with_reducible refine r_op ?_
    | with_reducible refine r_var (by with_unfolding_all exact rfl) ?_
    | with_reducible refine r_c ?_
    | with_reducible refine r_cons ?_
    | with_reducible refine r_nil ?_
    | with_reducible refine r_un ?_
    | with_reducible refine r_I0 ?_
    | with_reducible refine r_U ?_
    | with_reducible refine r_df ?_
    | with_reducible refine r_cb ?_
    | with_reducible refine r_ifS ?_
    | with_reducible refine r_ifE ?_
    | with_reducible refine r_test ?_
    | with_reducible refine r_B ?_
    | with_reducible refine r_tand ?_
    | with_reducible refine r_tor ?_
    | with_reducible refine r_tnot ?_
    | with_reducible refine r_andV ?_
    | with_reducible refine r_orV ?_
    | with_reducible refine r_notV ?_
    | with_reducible refine r_blif ?_
    | with_reducible refine r_bl ?_
    | with_reducible refine r_chain ?_
    | with_reducible refine r_tup ?_
    | with_reducible refine r_lst ?_
    | with_reducible refine r_fld ?_
    | with_reducible refine r_dget ?_
    | with_reducible refine r_din ?_
    | with_reducible refine r_pt ?_
    | with_reducible refine r_mt ?_
    | with_reducible refine r_iEnumS ?_
    | with_reducible refine r_bm ?_
    | with_reducible refine r_iStr ?_
    | with_reducible refine r_lcT ?_
    | with_reducible refine r_dcT ?_
    | with_reducible refine r_iList ?_
    | with_reducible refine r_iTup ?_
    | with_reducible refine r_iRng1 ?_
    | with_reducible refine r_iRng2 ?_
    | with_reducible refine r_iEnum ?_
    | with_reducible refine r_iZip ?_
    | with_reducible refine r_iKeys ?_
    | with_reducible refine r_iItems ?_
    | with_reducible refine r_iVals ?_
    | with_reducible refine r_lstRg ?_
    | with_reducible refine r_rg1 ?_
    | with_reducible refine r_sortDf ?_
    | with_reducible refine r_bits ?_
    | with_reducible refine r_forT ?_
    | with_reducible refine r_augS ?_
    | with_reducible refine r_gsub ?_
    | with_reducible refine r_bm0 ?_
    | with_reducible refine r_sortLam ?_
    | with_reducible refine r_sfld ?_
    | with_reducible refine r_dput ?_
    | with_reducible refine r_dnewK ?_
    | with_reducible refine r_mk ?_
    | with_reducible refine r_con ?_
    | with_reducible refine r_lockS ?_
    | with_reducible refine r_sl ?_
    | with_reducible refine r_part ?_
    | with_reducible refine r_nopart ?_
    | with_reducible refine r_dget2 ?_
    | with_reducible refine r_isN ?_
    | with_reducible refine r_notN ?_
    | with_reducible refine r_par ?_
    | with_reducible refine r_par2 ?_
    | with_reducible refine r_yes ?_
    | with_reducible refine r_scT ?_)))
section
variable {P : Program} {w : World} {K : PySem.W.Frag} {mg : Str → Option Value} {base : Heap} {C : Ad} {G : List (Addr × Str)}
theorem sc_law_sets : FnScope ["_law_signs", "_law_found", "_law_sign", "_law_some"] ["_law_signs"] (defScope (top 100)) := ⟨rfl, rfl, rfl, by decide +kernel, rfl, by decide +kernel, by decide +kernel⟩

def kyW (F : Ft) : V → Int × List Int
  | .str z => ((z.length : Nat), z.cps.toList.map fun c => ((F.rk c : Nat) : Int))
  | _ => (0, [])
theorem kyM_rkL : ∀ a, a < 32 → ∀ b, b < 32 → kyLe .pl kyM (.int ((a : Nat) : Int)) (.int ((b : Nat) : Int)) = decide (rkO a ≤ rkO b) := by decide +kernel
theorem d_flt : ∀ n ∈ [2, 3, 4, 5], ∀ a : Nat, a < 2 ^ n → (List.range n).filter a.testBit = (List.range (Builtin.Int.intBits (a : Int))).filter a.testBit := by decide +kernel
theorem d_add : ∀ n ∈ [2, 3, 4, 5], ∀ i, i < n → ∀ m, m < 2 ^ i → (List.range n).filter (m + 2 ^ i).testBit = (List.range n).filter m.testBit ++ [i] := by decide +kernel
theorem ws_pl (F : Ft) : F.ws = (List.range F.n).map (pl F) := by
  apply List.ext_getElem
  · rw [List.length_map, List.length_range]
    rfl
  · intro i h1 h2
    rw [List.getElem_map, List.getElem_range, pl_lt h1]
theorem setL_pl {F : Ft} (o : F.Ok) (a : Nat) : F.setL a = ((List.range F.n).filter a.testBit).map (pl F) := by
  unfold Ft.setL
  conv => lhs; rw [ws_pl F]
  rw [List.filter_map]
  congr 1
  refine List.filter_congr fun i hi => ?_
  show a.testBit (F.rk (pl F i)) = a.testBit i
  rw [rk_pl o (List.mem_range.mp hi)]
theorem setT_add {F : Ft} (o : F.Ok) {i m : Nat} (hi : i < F.n) (hm : m < 2 ^ i) : F.setT (m + 2 ^ i) = F.setT m ++ S1 (pl F i) := by
  refine TL.ext_tl ?_
  rw [TL.tl_append]
  have e1 : TL.tl (F.setT (m + 2 ^ i)) = F.setL (m + 2 ^ i) := by simp [TL.tl, Ft.setT]
  have e2 : TL.tl (F.setT m) = F.setL m := by simp [TL.tl, Ft.setT]
  rw [e1, e2, setL_pl o, setL_pl o, d_add F.n (mem_n o.n) i hi m hm, List.map_append]
  rfl
theorem kyW_eq {F : Ft} (o : F.Ok) {a : Nat} (ha : a < 2 ^ F.n) : kyW F (.str (F.setT a)) = kyM (.int (a : Int)) := by
  have e1 : (F.setT a).cps.toList = ((List.range F.n).filter a.testBit).map (pl F) := by
    rw [← setL_pl o]
    simp [Ft.setT]
  have e2 : (F.setT a).length = (F.setT a).cps.toList.length := by
    show (F.setT a).cps.size = _
    simp
  have e3 : plc a = ((List.range F.n).filter a.testBit).map fun (i : Nat) => (i : Int) := by
    unfold plc
    rw [d_flt F.n (mem_n o.n) a ha]
  show ((((F.setT a).length : Nat) : Int), (F.setT a).cps.toList.map fun c => ((F.rk c : Nat) : Int)) = ((((plc a).length : Nat) : Int), plc a)
  rw [e2, e1, e3, List.length_map, List.length_map, List.map_map]
  congr 1
  refine List.map_congr_left fun i hi => ?_
  show ((F.rk (pl F i) : Nat) : Int) = i
  rw [rk_pl o (List.mem_range.mp (List.mem_filter.mp hi).1)]
theorem sets_sorted {F : Ft} (o : F.Ok) : ((List.range (2 ^ F.n)).map fun m => V.str (F.setT m)).mergeSort (kyLe .pl (kyW F)) = (ordN F.n).map fun m => V.str (F.setT m) := by
  have h32 := pow32 o
  unfold ordN
  refine (List.map_mergeSort (f := fun m => V.str (F.setT m)) (r := fun a b => decide (rkO a ≤ rkO b)) (s := kyLe .pl (kyW F)) fun a ha b hb => ?_).symm
  have ha := List.mem_range.mp ha
  have hb := List.mem_range.mp hb
  rw [← kyM_rkL a (by omega) b (by omega)]
  simp only [kyLe, PySem.W.dataLe, PySem.W.sortLe, kyW_eq o ha, kyW_eq o hb]
theorem d_law_sets (T : Txt K mg C) (TO : ∃ (f c Pt : Addr) (oc : Value) (od : Option Addr) (kV doc pm ct : Value) (an : Option Addr) (osl : Array (Option Value)), K.lookup f = some ⟨oc, od, .func (PySem.W.fnOf "_law_sets" "_law_sets" (defArgs (top 100)) (defBody (top 100)) (defScope (top 100)) .none kV doc pm an (.ref c) ct), osl⟩ ∧ PySem.W.codeIn K (.ref c) "_law_sets" = true ∧
    PySem.W.keepIn K (.ref f) = true ∧ mg "_law_sets" = some (.ref f) ∧ LamX.TabB base mg c Pt ∧ (Pt, ("_law_sets.<locals>.<lambda>" : Str)) ∈ G ∧ ∀ q ∈ G, q.1 = Pt → q.2 = ("_law_sets.<locals>.<lambda>" : Str)) : Df P w K mg base "_law_sets" 5 (spLSets G) := by
  have sc := sc_law_sets
  obtain ⟨f, c, Pt, oc, od, kV, doc, pm, ct, an, osl, lk, hcd, hkp, hm, TB, hG1, hG2⟩ := TO
  refine ⟨f, ?_, hm, hkp⟩
  have OK : FnOk P w K mg base CX0 5 f (PySem.W.fnOf "_law_sets" "_law_sets" (defArgs (top 100)) (defBody (top 100)) (defScope (top 100)) .none kV doc pm an (.ref c) ct) ["_law_signs"] (spLSets G) := by
    refine fn_of lk hcd sc len1 fun A outer s H vs Q E hr h => ?_
    suffices z : ∃ t, PSs (cxOf CX0 P w K mg base ["_law_signs", "_law_found", "_law_sign", "_law_some"] "_law_sets" (defScope (top 100)) f (.ref c) A outer s H E).nox (defBody (top 100)) t ∧ t { nx := fun _ H' => Q .non H', rt := Q } (L2.start ["_law_signs", "_law_found", "_law_sign", "_law_some"] vs) H by
      obtain ⟨t, h1, h2⟩ := z
      exact ⟨t, h1.nox, h2⟩
    have hu := hu_of hr
    obtain ⟨x1, rfl, F, rfl, o, hT, q⟩ := h
    refine ⟨_, (pss_cons (ps_set (i := 1) sc.nd rfl (by first | exact Or.inl rfl | exact Or.inr rfl) (pe_lst (pa_cons pe_str pa_nil)))
  (pss_cons (ps_for PassesOwn.never rfl (pi_str (pv 0)) (pg_name (i := 2) sc.nd rfl (by first | exact Or.inl rfl | exact Or.inr rfl)) (pss_one (ps_set (i := 1) sc.nd rfl (by first | exact Or.inl rfl | exact Or.inr rfl) (pe_op op_cat (pv 1) (pe_lc (own := [("_law_some", 3)]) rfl sc.nd (pi_listK K (pv 1)) (blkOk_by (N := ["_law_signs", "_law_found", "_law_sign", "_law_some"]) (sc := defScope (top 100)) (by decide +kernel)) (fun _ _ _ _ _ => (pg_name (i := 3) sc.nd rfl (by first | exact Or.inl rfl | exact Or.inr rfl))) (fun _ _ _ _ _ => pts_nil) (fun _ _ _ _ _ => (pe_op op_add_str (pv 3) (pv 2))))))))
  (pss_one (ps_ret (pe_sortedLam (pr := "_law_some") (i := 3) (k := 0) TB rfl hG1 hG2 (lamS1_by (by show lamSB1 (defScope (top 100)) _ _ = true; decide +kernel)) rfl sc.nd (hr.mono (by decide)) rfl rfl T.f_sorted (pv 1) rfl (fun _ _ _ _ _ _ => rfl) (fun A outer s H E f c' hr' => (pe_tup (pa_cons (pe_callB call_len_str (by rfl) T.f_len PySem.boot_len (pa_cons (pv 3) pa_nil)) (pa_cons (pe_lc (own := [("_law_sign", 2)]) rfl sc.nd (pi_str (pv 3)) (blkOk_by (N := ["_law_signs", "_law_found", "_law_sign", "_law_some"]) (sc := { kind := .function, names := [(("_law_some" : Str), .local), ("_law_signs", .free), ("len", .globalImplicit)], isGenerator := false, isCoroutine := false, more := [(("fast" : Str), .str "_law_some"), ("fast", .str "_law_sign"), ("fast", .str "_law_signs")] }) (by decide +kernel)) (fun _ _ _ _ _ => (pg_name (i := 2) sc.nd rfl (by first | exact Or.inl rfl | exact Or.inr rfl))) (fun _ _ _ _ _ => pts_nil) (fun _ _ _ _ _ => (cK_bm K (pe_bm PySem.F.plainAttrs_str PySem.F.slot_str_index PySem.F.type_str_index mt_sindex (pv 0) (pa_cons (pv 2) pa_nil))))) pa_nil))))))))), ?_⟩
    have hn := o.n
    have h32 := pow32 o
    have hWl : F.W.length = F.n := W_len F
    have hWs : F.W.cps.size = F.n := by simp [Ft.W, Ft.n]
    decreasing_trivial
    refine ⟨by show 1 ≤ sizeLine; decide, fun l hl => ?_⟩
    have e1 : Fs G H (upd H l (.lst [V.str ""])) := Fm.new hl
    have k1 : upd H l (.lst [V.str ""]) l = some (.lst ((List.range (2 ^ 0)).map fun m => V.str (F.setT m))) := by
      rw [upd_same]
      have e0 : F.setT 0 = "" := by
        unfold Ft.setT
        rw [setL_pl o]
        have : (List.range F.n).filter (0 : Nat).testBit = [] := List.filter_eq_nil_iff.mpr fun i _ => by simp
        rw [this]
        rfl
      show some (HO.lst [V.str ""]) = some (HO.lst [V.str (F.setT 0)])
      rw [e0]
    generalize upd H l (.lst [V.str ""]) = H1 at *
    decreasing_trivial
    refine ⟨F.W, rfl, ?_⟩
    refine for_it walk_str (fun i σ H2 => ∃ v2 v3 D, σ = [some (.str F.W), some (.ref D), v2, v3] ∧ Fs G H H2 ∧ H2 D = some (.lst ((List.range (2 ^ i)).map fun m => V.str (F.setT m)))) ⟨none, none, l, rfl, e1, k1⟩ (fun i σ H2 _ hp => trivial) (fun i x σ H2 H3 hi hW hx => ?_) (fun σ H2 hW => ?_)
    · obtain ⟨v2, v3, D, rfl, e2, hD⟩ := hW
      obtain ⟨rfl, c, hc, rfl⟩ := hx
      rw [hWs] at hi
      have hc' : c = pl F i := by
        have h9 : F.ws[i]? = some c := by simpa [Ft.W] using hc
        rw [pl_lt hi]
        exact (List.getElem?_eq_some_iff.mp h9).2.symm
      subst hc'
      have hi32 : 2 ^ i ≤ 16 := Nat.le_trans (Nat.pow_le_pow_right (by decide) (show i ≤ 4 by omega)) (by decide)
      decreasing_trivial
      refine ⟨D, rfl, ⟨_, SqL.of hD⟩, fun D2 hD2 => ?_⟩
      refine cp_it (walk_list (xs := (List.range (2 ^ i)).map fun m => V.str (F.setT m))) (Lp ⟨false, G⟩ H3 D2 (giv (fun _ => true) (fun m => V.str (F.setT (2 ^ i + m))) (List.range (2 ^ i)))) (Lp.start hD2 (giv_zero _ _ _)) (fun i H8 _ hp => SqL.of (hp.1.lst hD)) (fun j x H4 H5 hj hW hx => ?_) (fun H4 hW => ?_)
      · obtain ⟨rfl, hx⟩ := hx
        rw [List.length_map, List.length_range] at hj
        rw [List.getElem?_map, List.getElem?_range hj] at hx
        cases hx
        decreasing_trivial
        refine ⟨rfl, ?_⟩
        decreasing_trivial
        have hTl : (F.setT j).length ≤ 5 := by
          show (F.setL j).toArray.size ≤ 5
          rw [List.size_toArray]
          exact Nat.le_trans (List.length_filter_le _ _) o.hi
        refine ⟨_, _, rfl, rfl, ?_, ?_⟩
        · show (F.setT j).length + 1 ≤ sizeLine
          exact Nat.le_trans (show (F.setT j).length + 1 ≤ 1000 by omega) (by decide)
        · have e9 : F.setT j ++ (⟨#[pl F i]⟩ : Str) = F.setT (2 ^ i + j) := by
            rw [Nat.add_comm]
            exact (setT_add o hi hj).symm
          rw [e9]
          exact hW.add hD2 (Fm.refl _) (Nat.le_trans (giv_len _ _ _ _) (by rw [List.length_range]; omega)) (giv_yes (List.getElem?_range hj) rfl)
      · have h4 := hW.2
        have e4 : giv (fun _ => true) (fun m => V.str (F.setT (2 ^ i + m))) (List.range (2 ^ i)) ((List.range (2 ^ i)).map fun m => V.str (F.setT m)).length = (List.range (2 ^ i)).map fun m => V.str (F.setT (2 ^ i + m)) := by
          rw [List.length_map, giv_all, List.filter_eq_self.mpr (fun _ _ => rfl)]
        rw [e4] at h4
        have hD4 := hW.1.lst hD
        have e24 := e2.trans hW.1
        decreasing_trivial
        refine ⟨D, D2, _, _, rfl, rfl, hD4, h4, ?_, fun D3 hD3 => ?_⟩
        · rw [List.length_map, List.length_map, List.length_range]
          exact Nat.le_trans (show 2 ^ i + 2 ^ i ≤ 1000 by omega) (by decide)
        decreasing_trivial
        refine ⟨_, _, D3, rfl, e24.trans (Fm.new hD3), ?_⟩
        rw [upd_same]
        have e5 : 2 ^ (i + 1) = 2 ^ i + 2 ^ i := by
          rw [Nat.pow_succ]
          omega
        rw [e5, List.range_add, List.map_append, List.map_map]
        rfl
    · obtain ⟨v2, v3, D, rfl, e2, hD⟩ := hW
      rw [hWs] at hD
      decreasing_trivial
      refine ⟨e2.tb hT, (List.range (2 ^ F.n)).map fun m => V.str (F.setT m), .pl, kyW F, false, .inl ⟨D, rfl, SqL.of hD⟩, fun y hy H3 e3 => ?_, fun H3 p3 e3 n3 h3 => ?_⟩
      · obtain ⟨m, hm, rfl⟩ := List.mem_map.mp hy
        have hTl : (F.setT m).length ≤ 5 := by
          show (F.setL m).toArray.size ≤ 5
          rw [List.size_toArray]
          exact Nat.le_trans (List.length_filter_le _ _) o.hi
        decreasing_trivial
        refine ⟨_, rfl, Nat.le_trans (show (F.setT m).length ≤ 1000 by omega) (by decide), ?_⟩
        decreasing_trivial
        refine ⟨_, rfl, fun D2 hD2 => ?_⟩
        have hst : (F.setT m).cps.size = (F.setL m).length := by simp [Ft.setT]
        refine cp_it walk_str (Lp ⟨false, G⟩ H3 D2 (giv (fun _ => true) (fun c => V.int ((F.rk c : Nat) : Int)) (F.setL m))) (Lp.start hD2 (giv_zero _ _ _)) (fun _ _ _ _ => trivial) (fun j x H4 H5 hj hW hx => ?_) (fun H4 hW => ?_)
        · obtain ⟨rfl, c, hc, rfl⟩ := hx
          have hc' : (F.setL m)[j]? = some c := by simpa [Ft.setT] using hc
          have hcw : c ∈ F.ws := (List.mem_filter.mp (List.mem_of_getElem? hc')).1
          decreasing_trivial
          refine ⟨rfl, ?_⟩
          decreasing_trivial
          refine ⟨rfl, ?_⟩
          decreasing_trivial
          refine r_sindex o hcw ?_
          exact hW.add hD2 (Fm.refl _) (Nat.le_trans (giv_len _ _ _ _) (by have := hst; have h0 : (F.setT m).length = (F.setT m).cps.size := rfl; omega)) (giv_yes hc' rfl)
        · have h4 := hW.2
          rw [hst, giv_all, List.filter_eq_self.mpr (fun _ _ => rfl)] at h4
          have e34 := hW.1
          decreasing_trivial
          refine ⟨by show 2 ≤ sizeLine; decide, fun t ht => ?_⟩
          have f5 : Fs G H4 (upd H4 t (.tup [V.int ((F.setT m).length : Nat), V.ref D2])) := Fm.new ht
          refine ⟨e34.trans f5, t, D2, rfl, upd_same, ?_⟩
          have e6 : (F.setT m).cps.toList = F.setL m := by simp [Ft.setT]
          have h5 := f5.lst h4
          rw [h5]
          show _ = some (HO.lst (((F.setT m).cps.toList.map fun c => ((F.rk c : Nat) : Int)).map V.int))
          rw [e6, List.map_map]
          rfl
      · rw [sets_sorted o] at h3
        exact q H3 p3 (e2.trans e3) h3
  have R := FnOk.raw (dvs := []) (ds := []) OK (Binds.all fun us hl => match us, hl with | [_], _ => rfl) .nil
  exact R.imp fun vs H Q E h => by
    rw [List.append_nil]
    exact h
end
end Hy
namespace Hy
open PySem PySem.Spec PyProof.Rows L2
local macro_rules | `(tactic| decreasing_trivial) => `(tactic| ((try (with_reducible conv => whnf)); repeat (first
    | with_reducible refine iteT ?_
    | with_reducible refine iteF ?_
    | with_reducible refine iteNT ?_
    | with_reducible refine iteNF ?_
    | with_reducible refine r_isi_int ?_
    | with_reducible refine r_isi_bool ?_
    | with_reducible refine r_isi_str ?_
    | with_reducible refine r_eqN ?_
    | with_reducible refine r_neN ?_
    | with_reducible refine r_eqS ?_
    | with_reducible refine r_neS ?_
    | with_reducible refine r_seq ?_
    | with_reducible refine r_asg ?_
    | with_reducible refine r_gname ?_
    | with_reducible refine r_ret ?_
    | with_reducible refine r_drop ?_
    | with_reducible refine r_next ?_
    | with_reducible refine r_op ?_
    | with_reducible refine r_var (by with_unfolding_all exact rfl) ?_
    | with_reducible refine r_c ?_
    | with_reducible refine r_cons ?_
    | with_reducible refine r_nil ?_
    | with_reducible refine r_un ?_
    | with_reducible refine r_I0 ?_
    | with_reducible refine r_U ?_
    | with_reducible refine r_df ?_
    | with_reducible refine r_cb ?_
    | with_reducible refine r_ifS ?_
    | with_reducible refine r_ifE ?_
    | with_reducible refine r_test ?_
    | with_reducible refine r_B ?_
    | with_reducible refine r_tand ?_
    | with_reducible refine r_tor ?_
    | with_reducible refine r_tnot ?_
    | with_reducible refine r_andV ?_
    | with_reducible refine r_orV ?_
    | with_reducible refine r_notV ?_
    | with_reducible refine r_blif ?_
    | with_reducible refine r_bl ?_
    | with_reducible refine r_chain ?_
    | with_reducible refine r_tup ?_
    | with_reducible refine r_lst ?_
    | with_reducible refine r_fld ?_
    | with_reducible refine r_dget ?_
    | with_reducible refine r_din ?_
    | with_reducible refine r_pt ?_
    | with_reducible refine r_mt ?_
    | with_reducible refine r_iEnumS ?_
    | with_reducible refine r_bm ?_
    | with_reducible refine r_iStr ?_
    | with_reducible refine r_lcT ?_
    | with_reducible refine r_dcT ?_
    | with_reducible refine r_iList ?_
    | with_reducible refine r_iTup ?_
    | with_reducible refine r_iRng1 ?_
    | with_reducible refine r_iRng2 ?_
    | with_reducible refine r_iEnum ?_
    | with_reducible refine r_iZip ?_
    | with_reducible refine r_iKeys ?_
    | with_reducible refine r_iItems ?_
    | with_reducible refine r_iVals ?_
    | with_reducible refine r_lstRg ?_
    | with_reducible refine r_rg1 ?_
    | with_reducible refine r_sortDf ?_
    | with_reducible refine r_bits ?_
    | with_reducible refine r_forT ?_
    | with_reducible refine r_augS ?_
    | with_reducible refine r_gsub ?_
    | with_reducible refine r_bm0 ?_
    | with_reducible refine r_sortLam ?_
    | with_reducible refine r_sfld ?_
    | with_reducible refine r_dput ?_
    | with_reducible refine r_dnewK ?_
    | with_reducible refine r_mk ?_
    | with_reducible refine r_con ?_
    | with_reducible refine r_lockS ?_
    | with_reducible refine r_sl ?_
    | with_reducible refine r_part ?_
    | with_reducible refine r_nopart ?_
    | with_reducible refine r_dget2 ?_
    | with_reducible refine r_isN ?_
    | with_reducible refine r_notN ?_
    | with_reducible refine r_par ?_
    | with_reducible refine r_par2 ?_
    | with_reducible refine r_yes ?_
    | with_reducible refine r_scT ?_)))
section
variable {P : Program} {w : World} {K : PySem.W.Frag} {mg : Str → Option Value} {base : Heap} {C : Ad} {G : List (Addr × Str)}
theorem r_pairs {tk tv : TE} {r : List (TE × TE)} {σ : L2.St} {H : Hp} {Q : List (V × V) → Hp → Prop} (h : tk σ H fun x H1 => tv σ H1 fun y H2 => tPairs r σ H2 fun ps H3 => Q ((x, y) :: ps) H3) : tPairs ((tk, tv) :: r) σ H Q := h
theorem r_pairs0 {σ : L2.St} {H : Hp} {Q : List (V × V) → Hp → Prop} (h : Q [] H) : tPairs [] σ H Q := h
theorem sc_law_pen : FnScope ["_law_script"] ["_law_script"] (defScope (top 85)) := ⟨rfl, rfl, rfl, by decide +kernel, rfl, by decide +kernel, by decide +kernel⟩
theorem d_law_pen (T : Txt K mg C)  : Df P w K mg base "_law_pen" 1 (spPenNew G K) := by
  have sc := sc_law_pen
  refine FnT.df (T.fn ("_law_pen", 85) (by decide)) sc len1 (fun _ _ _ _ _ _ us hl => match us, hl with | [_], _ => rfl) (fun f cdv A outer s H vs Q E hr h => ?_)
  have hu := hu_of hr
  have hu64 := hr.units
  have hu0 := Nat.lt_of_succ_lt hu
  obtain ⟨x1, rfl, h⟩ := h
  refine ⟨_, (pss_one (ps_ret (pe_disp (pps_cons pe_str (pe_callTy (call_list_ofK K) (by rfl) T.f_list (by decide +kernel) (pa_cons (pe_slice (sl_listK K) (pv 0) po_none (po_some pe_int)) pa_nil)) (pps_cons pe_str pe_int (pps_cons pe_str pe_int pps_nil))) rfl rfl (by simp) (by decide)))), ?_⟩
  obtain ⟨a, L, rfl, ha, q⟩ := h
  decreasing_trivial
  refine fun p hp0 => ?_
  have e1 : Fs G H (upd H p (.dK [])) := Fm.new hp0
  have g1 : upd H p (.dK []) p = some (.dK []) := upd_same
  have np : Nw ⟨false, G⟩ H p := Nw.of hp0
  have ha1 := e1.seqL ha
  generalize upd H p (.dK []) = H1 at *
  refine r_pairs ?_
  decreasing_trivial
  refine ⟨_, rfl, ?_⟩
  refine ⟨a, _, rfl, ha1, fun l1 hl1 => ?_⟩
  have ecut : cutV (L.map V.int) none (some 63) = (L.take 63).map V.int := by
    have e : (63 : Int) = ((63 : Nat) : Int) := rfl
    rw [e]
    unfold cutV
    rw [HT.sIx_none, HT.sIx_nat, List.drop_zero, Nat.sub_zero, ← List.take_eq_take_min, List.map_take]
  rw [ecut]
  have e2 : Fs G H1 (upd H1 l1 (.lst ((L.take 63).map V.int))) := Fm.new hl1
  have g2 : upd H1 l1 (.lst ((L.take 63).map V.int)) l1 = some (.lst ((L.take 63).map V.int)) := upd_same
  have g12 := e2.dct g1 (by intro v e; cases e)
  generalize upd H1 l1 (.lst ((L.take 63).map V.int)) = H2 at *
  decreasing_trivial
  refine ⟨l1, _, rfl, .inl (SqL.of g2), fun l2 hl2 => ?_⟩
  have e3 : Fs G H2 (upd H2 l2 (.lst ((L.take 63).map V.int))) := Fm.new hl2
  have g3 : upd H2 l2 (.lst ((L.take 63).map V.int)) l2 = some (.lst ((L.take 63).map V.int)) := upd_same
  have g13 := e3.dct g12 (by intro v e; cases e)
  generalize upd H2 l2 (.lst ((L.take 63).map V.int)) = H3 at *
  refine r_pairs ?_
  decreasing_trivial
  refine r_pairs ?_
  decreasing_trivial
  refine r_pairs0 ?_
  refine ⟨g13, penK l2 0 0, rfl, by show 3 ≤ 15; decide, ?_⟩
  have em : mergeK [] (penK l2 0 0) = penK l2 0 0 := mergeK_nd (by show [(.inr ("cells" : Str) : Key), .inr ("used" : Str), .inr ("left" : Str)].Nodup; decide)
  rw [em]
  refine q _ ⟨p, l2, L.take 63⟩ (((e1.trans e2).trans e3).edit np g13 rfl) ⟨0, 0, upd_same, (upd_ne (ne_of g3 g13 (by intro z; cases z))).trans g3, ?_, Int.le_refl _, ?_, Int.le_refl _⟩
  · rw [List.length_take]
    exact Nat.min_le_left _ _
  · show (0 : Int) + ((281474976710656 : Nat) : Int) ≤ 281474976710656
    decide
end
end Hy
namespace Hy
open PySem PySem.Spec PyProof.Rows L2
local macro_rules | `(tactic| decreasing_trivial) => `(tactic| ((try (with_reducible conv => whnf)); repeat (first
    | with_reducible refine iteT ?_
    | with_reducible refine iteF ?_
    | with_reducible refine iteNT ?_
    | with_reducible refine iteNF ?_
    | with_reducible refine r_isi_int ?_
    | with_reducible refine r_isi_bool ?_
    | with_reducible refine r_isi_str ?_
    | with_reducible refine r_eqN ?_
    | with_reducible refine r_neN ?_
    | with_reducible refine r_eqS ?_
    | with_reducible refine r_neS ?_
    | with_reducible refine r_seq ?_
    | with_reducible refine r_asg ?_
    | with_reducible refine r_gname ?_
    | with_reducible refine r_ret ?_
    | with_reducible refine r_drop ?_
    | with_reducible refine r_next ?_
    | with_reducible refine r_op ?_
    | with_reducible refine r_var (by with_unfolding_all exact rfl) ?_
    | with_reducible refine r_c ?_
    | with_reducible refine r_cons ?_
    | with_reducible refine r_nil ?_
    | with_reducible refine r_un ?_
    | with_reducible refine r_I0 ?_
    | with_reducible refine r_U ?_
    | with_reducible refine r_df ?_
    | with_reducible refine r_cb ?_
    | with_reducible refine r_ifS ?_
    | with_reducible refine r_ifE ?_
    | with_reducible refine r_test ?_
    | with_reducible refine r_B ?_
    | with_reducible refine r_tand ?_
    | with_reducible refine r_tor ?_
    | with_reducible refine r_tnot ?_
    | with_reducible refine r_andV ?_
    | with_reducible refine r_orV ?_
    | with_reducible refine r_notV ?_
    | with_reducible refine r_blif ?_
    | with_reducible refine r_bl ?_
    | with_reducible refine r_chain ?_
    | with_reducible refine r_tup ?_
    | with_reducible refine r_lst ?_
    | with_reducible refine r_fld ?_
    | with_reducible refine r_dget ?_
    | with_reducible refine r_din ?_
    | with_reducible refine r_pt ?_
    | with_reducible refine r_mt ?_
    | with_reducible refine r_iEnumS ?_
    | with_reducible refine r_bm ?_
    | with_reducible refine r_iStr ?_
    | with_reducible refine r_lcT ?_
    | with_reducible refine r_dcT ?_
    | with_reducible refine r_iList ?_
    | with_reducible refine r_iTup ?_
    | with_reducible refine r_iRng1 ?_
    | with_reducible refine r_iRng2 ?_
    | with_reducible refine r_iEnum ?_
    | with_reducible refine r_iZip ?_
    | with_reducible refine r_iKeys ?_
    | with_reducible refine r_iItems ?_
    | with_reducible refine r_iVals ?_
    | with_reducible refine r_lstRg ?_
    | with_reducible refine r_rg1 ?_
    | with_reducible refine r_sortDf ?_
    | with_reducible refine r_bits ?_
    | with_reducible refine r_forT ?_
    | with_reducible refine r_augS ?_
    | with_reducible refine r_gsub ?_
    | with_reducible refine r_bm0 ?_
    | with_reducible refine r_sortLam ?_
    | with_reducible refine r_sfld ?_
    | with_reducible refine r_dput ?_
    | with_reducible refine r_dnewK ?_
    | with_reducible refine r_mk ?_
    | with_reducible refine r_con ?_
    | with_reducible refine r_lockS ?_
    | with_reducible refine r_sl ?_
    | with_reducible refine r_part ?_
    | with_reducible refine r_nopart ?_
    | with_reducible refine r_dget2 ?_
    | with_reducible refine r_isN ?_
    | with_reducible refine r_notN ?_
    | with_reducible refine r_par ?_
    | with_reducible refine r_par2 ?_
    | with_reducible refine r_yes ?_
    | with_reducible refine r_scT ?_)))
section
variable {P : Program} {w : World} {K : PySem.W.Frag} {mg : Str → Option Value} {base : Heap} {C : Ad} {G : List (Addr × Str)}
theorem sc_law : FnScope ["_law_script", "_law_pen_here", "_law_turn", "_law_font_here", "_law_stock_here", "_law_its", "_law_house", "_law_box", "_law_other", "_law_told", "_law_chart", "_law_again", "_law_need_here", "_law_asked", "_law_some", "_law_mine", "_law_their"] ["_law_script"] (defScope (top 103)) := ⟨rfl, rfl, rfl, by decide +kernel, rfl, by decide +kernel, by decide +kernel⟩

theorem r_alike {H : Hp} {Q : VK} {x' y' f : Addr} {F : Ft} {s1 s2 : List ((Nat × Nat) × Int)} (h1 : CaseAt C H x' f F s1) (h2 : CaseAt C H y' f F s2)
    (q : ∀ H' v, Fs G H H' → ((v = .non ∧ ∀ m, m < 2 ^ F.n → F.bear s1 (F.qm m) = F.bear s2 (F.qm m)) ∨ ∃ p m, v = .ref p ∧ m < 2 ^ F.n ∧ F.bear s1 (F.qm m) ≠ F.bear s2 (F.qm m) ∧ H' p = some (.tup [.str (F.setT m), .int (F.bear s1 (F.qm m)), .int (F.bear s2 (F.qm m))])) → Q v H') : spAlike C G [.ref x', .ref y'] H Q E0 :=
  r_sp2 ⟨x', y', f, F, s1, s2, rfl, rfl, h1, h2, fun H' e h => q H' _ e (.inl ⟨rfl, h⟩), fun H' p m e hm hn hp => q H' _ e (.inr ⟨p, m, rfl, hm, hn, hp⟩)⟩
theorem bear_perm {F : Ft} {s t : List ((Nat × Nat) × Int)} (h : s.Perm t) (q : Nat → Bool) : F.bear s q = F.bear t q := by
  unfold Ft.bear
  induction h with
  | nil => rfl
  | cons x p ih => rw [List.map_cons, List.map_cons, List.sum_cons, List.sum_cons, ih]
  | swap x y l =>
    rw [List.map_cons, List.map_cons, List.map_cons, List.map_cons, List.sum_cons, List.sum_cons, List.sum_cons, List.sum_cons]
    omega
  | trans p1 p2 ih1 ih2 => exact ih1.trans ih2
theorem law_walk (T : Txt K mg C) (D_Pile_bearing : Mt P w K mg base C.CC "bearing" 6 (spBearing C G)) (D_law_exchanged : Df P w K mg base "_law_exchanged" 6 (spExch G)) (D_law_filled : Df P w K mg base "_law_filled" 6 (spFilled G)) (D_law_font : Df P w K mg base "_law_font" 6 (spLFont G))
    (D_law_made_case : Df P w K mg base "_law_made_case" 12 (spMCase C G)) (D_law_made_font : Df P w K mg base "_law_made_font" 7 (spMFont C G)) (D_law_made_wants : Df P w K mg base "_law_made_wants" 6 (spMWants C G)) (D_law_need : Df P w K mg base "_law_need" 7 (spNeed G))
    (D_law_pen : Df P w K mg base "_law_pen" 1 (spPenNew G K)) (D_law_sets : Df P w K mg base "_law_sets" 5 (spLSets G)) (D_law_stock : Df P w K mg base "_law_stock" 6 (spLStock G)) (D_alike : Df P w K mg base "alike" 9 (spAlike C G)) (D_copies : Df P w K mg base "copies" 12 (spCopies C G))
    (D_exact : Df P w K mg base "exact" 9 (spExact C G)) (D_exact_of : Df P w K mg base "exact_of" 9 (spExactOf C G)) (D_hangs : Df P w K mg base "hangs" 11 (spHangs C G)) (D_shortage : Df P w K mg base "shortage" 11 (spShort C G))
    {f : Addr} {cdv : Value} {A : Around} {outer : List Env} {s : Shared} {H : Hp} {Q : VK} {E : XK} (hgu : (A.deeper (envOfC "law" (defScope (top 103)) s.heap.objs.size f cdv)).guards = some []) (hr : Room 13 (A.deeper (envOfC "law" (defScope (top 103)) s.heap.objs.size f cdv)))
    {a : Addr} {L : List Int} (ha : SqL K H a (L.map V.int)) (hT : LamX.Tabs G H) (q : ∀ H', Q (.bl true) H') :
    ∃ t, PSs (cxOf CX0 P w K mg base ["_law_script", "_law_pen_here", "_law_turn", "_law_font_here", "_law_stock_here", "_law_its", "_law_house", "_law_box", "_law_other", "_law_told", "_law_chart", "_law_again", "_law_need_here", "_law_asked", "_law_some", "_law_mine", "_law_their"] "law" (defScope (top 103)) f cdv A outer s H E).nox (defBody (top 103)) t ∧
      t { nx := fun _ H' => Q .non H', rt := Q } (L2.start ["_law_script", "_law_pen_here", "_law_turn", "_law_font_here", "_law_stock_here", "_law_its", "_law_house", "_law_box", "_law_other", "_law_told", "_law_chart", "_law_again", "_law_need_here", "_law_asked", "_law_some", "_law_mine", "_law_their"] [.ref a]) H := by
  have sc := sc_law
  have hu := hu_of hr
  have hu64 := hr.units
  have hu0 := Nat.lt_of_succ_lt hu
  refine ⟨_, (pss_cons (ps_set (i := 1) sc.nd rfl (by first | exact Or.inl rfl | exact Or.inr rfl) (pe_df D_law_pen (hr.mono (by decide)) rfl (pa_cons (pv 0) pa_nil)))
  (pss_cons (ps_for PassesOwn.never rfl (pi_range1 rfl T.f_range (pa_cons pe_int pa_nil)) (pg_name (i := 2) sc.nd rfl (by first | exact Or.inl rfl | exact Or.inr rfl)) (pss_cons (ps_set (i := 3) sc.nd rfl (by first | exact Or.inl rfl | exact Or.inr rfl) (pe_df D_law_font (hr.mono (by decide)) rfl (pa_cons (pv 1) (pa_cons pe_int (pa_cons pe_int pa_nil)))))
  (pss_cons (ps_set (i := 4) sc.nd rfl (by first | exact Or.inl rfl | exact Or.inr rfl) (pe_df D_law_stock (hr.mono (by decide)) rfl (pa_cons (pv 1) (pa_cons (pv 3) (pa_cons pe_int (pa_cons (pe_op op_pow pe_int pe_int) pa_nil))))))
  (pss_cons (ps_set (i := 5) sc.nd rfl (by first | exact Or.inl rfl | exact Or.inr rfl) (pe_df D_law_exchanged (hr.mono (by decide)) rfl (pa_cons (pv 1) (pa_cons (pv 3) (pa_cons (pv 4) pa_nil)))))
  (pss_cons (ps_set (i := 6) sc.nd rfl (by first | exact Or.inl rfl | exact Or.inr rfl) (pe_df D_law_made_font (hr.mono (by decide)) rfl (pa_cons (pv 1) (pa_cons (pv 3) pa_nil))))
  (pss_cons (ps_asg (pe_tup (pa_cons (pe_df D_law_made_case (hr.mono (by decide)) rfl (pa_cons (pv 1) (pa_cons (pv 6) (pa_cons (pv 4) pa_nil)))) (pa_cons (pe_df D_law_made_case (hr.mono (by decide)) rfl (pa_cons (pv 1) (pa_cons (pv 6) (pa_cons (pv 5) pa_nil)))) pa_nil))) (pg_tupK K (n := 2) rfl (pgs_cons (pg_name (i := 7) sc.nd rfl (by first | exact Or.inl rfl | exact Or.inr rfl)) (pgs_cons (pg_name (i := 8) sc.nd rfl (by first | exact Or.inl rfl | exact Or.inr rfl)) pgs_nil))))
  (pss_cons (ps_set (i := 9) sc.nd rfl (by first | exact Or.inl rfl | exact Or.inr rfl) (pe_df D_alike (hr.mono (by decide)) rfl (pa_cons (pv 7) (pa_cons (pv 8) pa_nil))))
  (pss_cons (ps_if (pt_cmpR op_ne (pe_cmpR op_isN1 (pv 9) pe_non (nomark _)) (pe_cmpR (op_eqDI hu0) (pe_df D_exact (hr.mono (by decide)) rfl (pa_cons (pv 7) pa_nil)) (pe_df D_exact (hr.mono (by decide)) rfl (pa_cons (pv 8) pa_nil)) (nomark _)) (nomark _)) (pss_one (ps_ret pe_bl)) pss_nil)
  (pss_cons (ps_set (i := 10) sc.nd rfl (by first | exact Or.inl rfl | exact Or.inr rfl) (pe_callTy (call_dictPK K rfl) (by rfl) T.f_dict (by decide +kernel) (pa_cons (pe_lc (own := [("_law_some", 14)]) rfl sc.nd (pi_listK K (pe_slice (sl_listK K) (pe_df D_law_sets (hr.mono (by decide)) rfl (pa_cons (pe_ix (ix_tupK K) (pv 3) pe_int (fun _ _ => rfl)) pa_nil)) (po_some pe_int) po_none)) (blkOk_by (N := ["_law_script", "_law_pen_here", "_law_turn", "_law_font_here", "_law_stock_here", "_law_its", "_law_house", "_law_box", "_law_other", "_law_told", "_law_chart", "_law_again", "_law_need_here", "_law_asked", "_law_some", "_law_mine", "_law_their"]) (sc := defScope (top 103)) (by decide +kernel)) (fun _ _ _ _ _ => (pg_name (i := 14) sc.nd rfl (by first | exact Or.inl rfl | exact Or.inr rfl))) (fun _ _ _ _ _ => pts_nil) (fun _ _ _ _ _ => (pe_tup (pa_cons (pv 14) (pa_cons (pe_mth D_Pile_bearing (hr.mono (by decide)) (pv 7) (pa_cons (pv 14) pa_nil)) pa_nil))))) pa_nil)))
  (pss_cons (ps_if (pt_cmpR op_ne (pe_callB (call_repr_ref hgu hu64) (by rfl) T.f_repr (by decide +kernel) (pa_cons (pe_df D_exact_of (hr.mono (by decide)) rfl (pa_cons (pv 6) (pa_cons (pv 10) pa_nil))) pa_nil)) (pe_callB (call_repr_ref hgu hu64) (by rfl) T.f_repr (by decide +kernel) (pa_cons (pe_df D_exact (hr.mono (by decide)) rfl (pa_cons (pv 7) pa_nil)) pa_nil)) (nomark _)) (pss_one (ps_ret pe_bl)) pss_nil)
  (pss_one (ps_if (pt_cmpR op_isN1 (pv 9) pe_non (nomark _)) (pss_one (ps_for PassesOwn.never rfl (pi_range1 rfl T.f_range (pa_cons pe_int pa_nil)) (pg_name (i := 11) sc.nd rfl (by first | exact Or.inl rfl | exact Or.inr rfl)) (pss_cons (ps_set (i := 12) sc.nd rfl (by first | exact Or.inl rfl | exact Or.inr rfl) (pe_df D_law_need (hr.mono (by decide)) rfl (pa_cons (pv 1) (pa_cons (pv 3) (pa_cons (pv 4) pa_nil)))))
  (pss_cons (ps_set (i := 13) sc.nd rfl (by first | exact Or.inl rfl | exact Or.inr rfl) (pe_df D_law_made_wants (hr.mono (by decide)) rfl (pa_cons (pv 1) (pa_cons (pv 6) (pa_cons (pv 12) pa_nil)))))
  (pss_cons (ps_if (pt_cmpR op_ne (pe_callB (call_repr_ref hgu hu64) (by rfl) T.f_repr (by decide +kernel) (pa_cons (pe_df D_shortage (hr.mono (by decide)) rfl (pa_cons (pv 7) (pa_cons (pv 13) pa_nil))) pa_nil)) (pe_callB (call_repr_ref hgu hu64) (by rfl) T.f_repr (by decide +kernel) (pa_cons (pe_df D_shortage (hr.mono (by decide)) rfl (pa_cons (pv 8) (pa_cons (pv 13) pa_nil))) pa_nil)) (nomark _)) (pss_one (ps_ret pe_bl)) pss_nil)
  (pss_one (ps_if (PW.pt (pw_and (pt_cmpR op_gt (pe_callB (cr_sumK K) (by rfl) T.f_sum (by decide +kernel) (pa_cons (pe_listVals rfl rfl T.f_list (pv 12)) pa_nil)) pe_int (nomark _)) (pw_and1 (pt_cmpR op_ne (pe_callB SkE.call_repr_int (by rfl) T.f_repr (by decide +kernel) (pa_cons (pe_ix (ix_tupK K) (pe_df D_copies (hr.mono (by decide)) rfl (pa_cons (pv 7) (pa_cons (pv 13) pa_nil))) pe_int (fun _ _ => rfl)) pa_nil)) (pe_callB SkE.call_repr_int (by rfl) T.f_repr (by decide +kernel) (pa_cons (pe_ix (ix_tupK K) (pe_df D_copies (hr.mono (by decide)) rfl (pa_cons (pv 8) (pa_cons (pv 13) pa_nil))) pe_int (fun _ _ => rfl)) pa_nil)) (nomark _))))) (pss_one (ps_ret pe_bl)) pss_nil))))))) (pss_cons (ps_asg (pv 9) (pg_tupK K (n := 3) rfl (pgs_cons (pg_name (i := 14) sc.nd rfl (by first | exact Or.inl rfl | exact Or.inr rfl)) (pgs_cons (pg_name (i := 15) sc.nd rfl (by first | exact Or.inl rfl | exact Or.inr rfl)) (pgs_cons (pg_name (i := 16) sc.nd rfl (by first | exact Or.inl rfl | exact Or.inr rfl)) pgs_nil)))))
  (pss_cons (ps_set (i := 12) sc.nd rfl (by first | exact Or.inl rfl | exact Or.inr rfl) (pe_df D_law_filled (hr.mono (by decide)) rfl (pa_cons (pv 1) (pa_cons (pv 3) (pa_cons (pe_ifExp (pt_cmpR op_gt (pv 15) (pv 16) (nomark _)) (pv 4) (pv 5)) (pa_cons (pv 14) pa_nil))))))
  (pss_cons (ps_set (i := 13) sc.nd rfl (by first | exact Or.inl rfl | exact Or.inr rfl) (pe_df D_law_made_wants (hr.mono (by decide)) rfl (pa_cons (pv 1) (pa_cons (pv 6) (pa_cons (pv 12) pa_nil)))))
  (pss_one (ps_if (PW.pt (pw_or (pt_cmpR op_ne (pe_df D_hangs (hr.mono (by decide)) rfl (pa_cons (pv 7) (pa_cons (pv 13) pa_nil))) (pe_cmpR op_gt (pv 15) (pv 16) (nomark _)) (nomark _)) (pw_or1 (pt_cmpR op_ne (pe_df D_hangs (hr.mono (by decide)) rfl (pa_cons (pv 8) (pa_cons (pv 13) pa_nil))) (pe_cmpR op_gt (pv 16) (pv 15) (nomark _)) (nomark _))))) (pss_one (ps_ret pe_bl)) pss_nil)))))))))))))))))
  (pss_one (ps_ret pe_bl)))), ?_⟩
  decreasing_trivial
  refine r_sp1 ⟨a, L, rfl, ha, fun H1 p e1 hp1 => ?_⟩
  have hT1 := e1.tb hT
  decreasing_trivial
  refine ⟨_, rfl, by decide, by decide, ?_⟩
  refine for_it walk_range (fun i σ H2 => ∃ v2 v3 v4 v5 v6 v7 v8 v9 v10 v11 v12 v13 v14 v15 v16, σ = [some (.ref a), some (.ref p.p), v2, v3, v4, v5, v6, v7, v8, v9, v10, v11, v12, v13, v14, v15, v16] ∧ Fr G H1 H2 ∧ Pen H2 p (10000 * (5 - i))) ⟨none, none, none, none, none, none, none, none, none, none, none, none, none, none, none, rfl, Fm.refl _, hp1.less (by decide)⟩ (fun i σ H2 _ hp => trivial) (fun i x σ H2 H2' hi hW hx => ?_) (fun σ H2 hW => ?_)
  · obtain ⟨v2, v3, v4, v5, v6, v7, v8, v9, v10, v11, v12, v13, v14, v15, v16, rfl, e2, hp2⟩ := hW
    obtain ⟨rfl, rfl⟩ := hx
    have hi5 : i < 5 := hi
    have hbud : 10000 * (5 - i) = 10000 * (5 - (i + 1)) + 10000 := by omega
    rw [hbud] at hp2
    generalize 10000 * (5 - (i + 1)) = b at *
    decreasing_trivial
    refine r_sp3 ⟨p, b + 8000, rfl, rfl, rfl, hp2, fun H3 lf F e3 hp3 hL3 => ?_⟩
    have o := hL3.1
    decreasing_trivial
    refine ⟨_, _, rfl, rfl, ⟨by decide, by decide, by decide⟩, ?_⟩
    decreasing_trivial
    refine r_sp4 ⟨p, b + 7700, lf, F, rfl, rfl, rfl, by decide, hL3, hp3, fun H4 d st e4 hp4 hst hd4 => ?_⟩
    have hL4 := hL3.mono e4
    decreasing_trivial
    refine r_sp3 ⟨p, b + 7400, lf, d, F, st, rfl, rfl, rfl, hL4, hd4, hst, hp4, fun H5 d2 st2 e5 hp5 so2 hd5 => ?_⟩
    have hL5 := hL4.mono e5
    have hd45 := e5.dct hd4 (dOk_st st)
    decreasing_trivial
    refine r_sp2 ⟨p, b + 7340, lf, F, rfl, rfl, hL5, hp5, fun H6 f' e6 hp6 hF6 => ?_⟩
    have hL6 := hL5.mono e6
    have hd46 := e6.dct hd45 (dOk_st st)
    have hd56 := e6.dct hd5 (dOk_st st2)
    have hT6 : LamX.Tabs G H6 := e6.tb (e5.tb (e4.tb (e3.tb (e2.tb hT1))))
    decreasing_trivial
    refine r_sp3 ⟨p, b + 7040, f', d, F, st, rfl, rfl, rfl, hF6, hd46, hst.1, hT6, hp6, fun H7 x' s1 e7 hp7 hs1 hC1 => ?_⟩
    have hF7 := hF6.mono e7
    have hd57 := e7.dct hd56 (dOk_st st2)
    decreasing_trivial
    refine r_sp3 ⟨p, b + 6740, f', d2, F, st2, rfl, rfl, rfl, hF7, hd57, so2, e7.tb hT6, hp7, fun H8 y' s2 e8 hp8 hs2 hC2 => ?_⟩
    have e68 := e7.trans e8
    have hC1 := hC1.mono e8
    have hF8 := hF7.mono e8
    have hL8 := hL6.mono e68
    have hd48 := e68.dct hd46 (dOk_st st)
    have hd58 := e8.dct hd57 (dOk_st st2)
    have hT8 := e68.tb hT6
    have e18 := ((((e2.trans e3).trans e4).trans e5).trans e6).trans e68
    decreasing_trivial
    refine ⟨by show 2 ≤ sizeLine; decide, fun t ht => ?_⟩
    refine ⟨t, _, rfl, SqT.of upd_same, rfl, _, _, rfl, _, _, rfl, rfl, ?_⟩
    have f9 : Fs G H8 (upd H8 t (.tup [V.ref x', V.ref y'])) := Fm.new ht
    have hC1 := hC1.mono f9
    have hC2 := hC2.mono f9
    have hF9 := hF8.mono f9
    have hL9 := hL8.mono f9
    have hd49 := f9.dct hd48 (dOk_st st)
    have hd59 := f9.dct hd58 (dOk_st st2)
    have hT9 := f9.tb hT8
    have hp9 := hp8.mono f9
    have e19 := e18.trans f9.weak
    generalize upd H8 t (.tup [V.ref x', V.ref y']) = H9 at *
    have so1 := hC1.2.1
    have so2' := hC2.2.1
    -- from here all frames start at H9
    decreasing_trivial
    refine r_alike hC1 hC2 fun H10 v f10 hv => ?_
    have e10 := f10.weak
    decreasing_trivial
    refine r_sp1 ⟨x', f', F, s1, rfl, hC1.mono f10, fun H11 p1 f11 n11 h11 => ?_⟩
    decreasing_trivial
    refine r_sp1 ⟨y', f', F, s2, rfl, (hC2.mono f10).mono f11, fun H12 p2 f12 n12 h12 => ?_⟩
    have h112 := f12.dct h11 (dOk_ex o s1)
    refine ⟨p1, p2, _, _, rfl, rfl, h112, h12, exK_ints F s1, exK_ints F s2, ?_⟩
    have htold : decide (v = .non) = eqDI (exK F s1) (exK F s2) := by
      rcases hv with ⟨rfl, hb⟩ | ⟨pt, m, rfl, hm, hn, _⟩
      · rw [(eqDI_ex o so1 so2').mpr (Ft.exF_of_bears o so1 so2' hb)]
        rfl
      · have h1 : decide (V.ref pt = V.non) = false := decide_eq_false (by intro z; cases z)
        rw [h1]
        cases hq : eqDI (exK F s1) (exK F s2) with
        | false => rfl
        | true => exact absurd (Ft.bears_of_exF o ((eqDI_ex o so1 so2').mp hq) m hm) hn
    rw [← htold]
    refine r_ne rfl ?_
    decreasing_trivial
    refine iteN (by simp) ?_
    decreasing_trivial
    have e912 := (f10.trans f11).trans f12
    obtain ⟨hh, hk0, hL12, _, _⟩ := (hL9.mono e912).2
    have h32 := pow32 o
    obtain ⟨ml, hml, hmnd, hmlen, hmm⟩ := ordN_cons h32
    refine ⟨lf, _, 0, _, rfl, rfl, SqT.of hL12, rfl, ?_⟩
    decreasing_trivial
    refine r_sp1 ⟨F, rfl, o, e912.tb hT9, fun H13 a13 f13 h13 => ?_⟩
    decreasing_trivial
    refine ⟨_, rfl, ?_⟩
    decreasing_trivial
    refine ⟨a13, _, rfl, SqL.of h13, fun a14 ha14 => ?_⟩
    have ecut : cutV ((ordN F.n).map fun m => V.str (F.setT m)) (some 1) none = ml.map fun m => V.str (F.setT m) := by
      rw [hml]
      exact cut_tail _ _
    rw [ecut]
    have g14 : Fs G H12 (upd H13 a14 (.lst (ml.map fun m => V.str (F.setT m)))) := f13.trans (Fm.new ha14)
    have f14 := e912.trans g14
    have h14 : upd H13 a14 (.lst (ml.map fun m => V.str (F.setT m))) a14 = some (.lst (ml.map fun m => V.str (F.setT m))) := upd_same
    generalize upd H13 a14 (.lst (ml.map fun m => V.str (F.setT m))) = H14 at *
    have hml32 : ml.length ≤ 32 := by omega
    decreasing_trivial
    refine ⟨a14, rfl, ⟨_, SqL.of h14⟩, fun D hD => ?_⟩
    refine cp_it (walk_list (xs := ml.map fun m => V.str (F.setT m))) (Lr ⟨false, G⟩ RPr H14 D (giv (fun _ => true) (fun m => (kT F m, V.int (F.bear s1 (F.qm m)))) ml)) (Lr.start hD (giv_zero _ _ _)) (fun j H15 _ hp => SqL.of (hp.1.lst h14)) (fun j x H15 H16 hj hW hx => ?_) (fun H15 hW => ?_)
    · obtain ⟨rfl, hx⟩ := hx
      rw [List.getElem?_map] at hx
      cases hc : ml[j]? with
      | none =>
        rw [hc] at hx
        cases hx
      | some m =>
      rw [hc] at hx
      cases hx
      have hCm := hC1.mono (f14.trans hW.1)
      obtain ⟨_, _, dd, dx, fs, vV⟩ := id hCm
      decreasing_trivial
      refine ⟨rfl, ?_⟩
      decreasing_trivial
      refine ⟨x', dx, fs, rfl, vV.at_, vV.no _ (by decide), ?_⟩
      decreasing_trivial
      refine r_sp2 ⟨x', f', F, s1, F.qm m, rfl, hCm, rfl, fun H17 f17 => ?_⟩
      decreasing_trivial
      refine ⟨by show 2 ≤ sizeLine; decide, fun t2 ht2 => ?_⟩
      have f18 : Fs G H17 (upd H17 t2 (.tup [V.str (F.setT m), V.int (F.bear s1 (F.qm m))])) := Fm.new ht2
      exact hW.add stb_pr hD (f17.trans f18) ⟨t2, rfl, upd_same⟩ (Nat.le_trans (giv_len _ _ _ _) (by omega)) (giv_yes hc rfl)
    obtain ⟨f15, vs15, h15, hpr15⟩ := hW
    rw [List.length_map, giv_all, List.filter_eq_self.mpr (fun _ _ => rfl)] at hpr15
    have hkn : ((ml.map fun m => (kT F m, V.int (F.bear s1 (F.qm m)))).map (·.1)).Nodup := by
      rw [List.map_map]
      exact List.pairwise_map.mpr (List.Pairwise.imp_of_mem (fun {x y} hx hy hxy e => hxy (kT_inj o ((hmm x).mp hx).2 ((hmm y).mp hy).2 e)) hmnd)
    have hkd : dOk (ml.map fun m => (kT F m, V.int (F.bear s1 (F.qm m)))) := dOk_nd fun p hp => by
      obtain ⟨m, _, rfl⟩ := List.mem_map.mp hp
      exact ⟨F.setL m, rfl, setL_nd o m⟩
    have hkl : (ml.map fun m => (kT F m, V.int (F.bear s1 (F.qm m)))).length = 2 ^ F.n - 1 := by rw [List.length_map, hmlen]
    have hkv : ∀ m, 0 < m → m < 2 ^ F.n → valV (ml.map fun m => (kT F m, V.int (F.bear s1 (F.qm m)))) (kT F m) = some (.int (F.bear s1 (F.qm m))) := fun m h0 h1 => by
      rw [val_map_on fun x hx e => kT_inj o ((hmm x).mp hx).2 h1 e, if_pos ((hmm m).mpr ⟨h0, h1⟩)]
    decreasing_trivial
    refine r_dictPr h15 hpr15 hkn fun dc hdc => ?_
    generalize (ml.map fun m => (kT F m, V.int (F.bear s1 (F.qm m)))) = chart at *
    have g16 : Fs G H14 (upd H15 dc (.dK chart)) := f15.trans (Fm.new hdc)
    have f16 := f14.trans g16
    have h16 : upd H15 dc (.dK chart) dc = some (.dK chart) := upd_same
    generalize upd H15 dc (.dK chart) = H16 at *
    decreasing_trivial
    refine r_sp2 ⟨f', F, dc, chart, s1, rfl, (hF9.mono f16).at, rfl, h16, hkd, hkl, so1, hkv, fun H17 p17 f17 h17 => ?_⟩
    decreasing_trivial
    obtain ⟨r1, r2, r3, r4⟩ := shows_ex o so1 h17
    refine ⟨p17, _, rfl, r1, r2, r3, r4, ?_⟩
    decreasing_trivial
    have f917 := f16.trans f17
    refine r_sp1 ⟨x', f', F, s1, rfl, hC1.mono f917, fun H18 p18 f18 n18 h18 => ?_⟩
    decreasing_trivial
    obtain ⟨r5, r6, r7, r8⟩ := shows_ex o so1 h18
    refine ⟨p18, _, rfl, r5, r6, r7, r8, ?_⟩
    decreasing_trivial
    refine iteN (by simp) ?_
    decreasing_trivial
    have f918 := f917.trans f18
    have hC1 := hC1.mono f918
    have hC2 := hC2.mono f918
    have hF18 := hF9.mono f918
    have hL18 := hL9.mono f918
    have hd18 := f918.dct hd49 (dOk_st st)
    have hd218 := f918.dct hd59 (dOk_st st2)
    have hp18 := hp9.mono f918
    have e118 := e19.trans f918.weak
    rcases hv with ⟨rfl, hbe⟩ | ⟨pt, m, rfl, hm, hn, hpt⟩
    · refine iteE rfl ?_
      decreasing_trivial
      refine ⟨_, rfl, by decide, by decide, ?_⟩
      refine for_it walk_range (fun j σ H19 => ∃ w11 w12 w13, σ = [some (.ref a), some (.ref p.p), some (.int (0 + ((i : Nat) : Int))), some (.ref lf), some (.ref d), some (.ref d2), some (.ref f'), some (.ref x'), some (.ref y'), some .non, some (.ref dc), w11, w12, w13, v14, v15, v16] ∧ Fr G H18 H19 ∧ Pen H19 p (b + 1300 * (3 - j))) ⟨_, _, _, rfl, Fm.refl _, hp18.less (by omega)⟩ (fun j σ H19 _ hp => trivial) (fun j x σ H19 H19' hj hW hx => ?_) (fun σ H19 hW => ?_)
      · obtain ⟨w11, w12, w13, rfl, e19', hp19⟩ := hW
        obtain ⟨rfl, rfl⟩ := hx
        have hj3 : j < 3 := hj
        have hbud3 : 1300 * (3 - j) = 1300 * (3 - (j + 1)) + 1300 := by omega
        rw [hbud3] at hp19
        generalize 1300 * (3 - (j + 1)) = b3 at *
        have hL19 := hL18.mono e19'
        have hd19 := e19'.dct hd18 (dOk_st st)
        have hC1 := hC1.mono e19'
        have hC2 := hC2.mono e19'
        have hF19 := hF18.mono e19'
        decreasing_trivial
        refine r_sp3 ⟨p, b + b3 + 100, lf, d, F, st, rfl, rfl, rfl, hL19, hd19, hst, hp19.less (by omega), fun H20 qn n e20 hp20 hn20 h20 => ?_⟩
        have hF20 := hF19.mono e20
        decreasing_trivial
        refine r_sp3 ⟨p, b + b3, f', qn, F, n, rfl, rfl, rfl, hF20, h20, fun c => (hn20 c).1, hp20, fun H21 wa e21 hp21 hW21 => ?_⟩
        have e1921 := e20.trans e21
        have hC1 := hC1.mono e1921
        have hC2 := hC2.mono e1921
        have hq21 := e21.dct h20 (dOk_nm F n)
        have hwb : ∀ r, 0 ≤ F.want n r ∧ F.want n r ≤ 50000000000000000000000000000000 := fun r => Ft.want_bd o (fun c _ => hn20 c) r
        have hslk : ∀ m, m < 2 ^ F.n → slk F s1 n m = slk F s2 n m := fun m hm => by
          unfold slk
          rw [hbe m hm]
        decreasing_trivial
        refine r_sp2 ⟨x', wa, f', F, s1, n, rfl, rfl, hC1, hW21, fun H22 low p22 f22 hmin h22 => ?_⟩
        have hlow : (-low).natAbs < 10 ^ 40 := by
          obtain ⟨⟨m0, _, hm0⟩, _⟩ := hmin
          have y1 := Ft.bear_bd (F := F) so1 (F.qm m0)
          have y2 := hwb (F.qm m0)
          unfold slk at hm0
          have : (80000000000000000000000000000000 : Nat) < 10 ^ 40 := by decide
          omega
        decreasing_trivial
        obtain ⟨z1, z2, z3, z4⟩ := shows_tri o hlow h22
        refine ⟨p22, _, rfl, z1, z2, z3, z4, ?_⟩
        decreasing_trivial
        refine r_sp2 ⟨y', wa, f', F, s2, n, rfl, rfl, hC2.mono f22, hW21.mono f22, fun H23 low2 p23 f23 hmin2 h23 => ?_⟩
        have hle : low2 = low := hmin2.uniq (hmin.congr hslk)
        subst hle
        rw [← wLeast_congr (g := slk F s1 n) (h := slk F s2 n) (2 ^ F.n) hslk, ← wMost_congr (g := slk F s1 n) (h := slk F s2 n) (2 ^ F.n) hslk] at h23
        decreasing_trivial
        obtain ⟨z5, z6, z7, z8⟩ := shows_tri o hlow h23
        refine ⟨p23, _, rfl, z5, z6, z7, z8, ?_⟩
        decreasing_trivial
        refine iteN (by simp) ?_
        have f2123 := f22.trans f23
        have hC1 := hC1.mono f2123
        have hC2 := hC2.mono f2123
        have hW23 := hW21.mono f2123
        have hq23 := f2123.dct hq21 (dOk_nm F n)
        have hp23 := hp21.mono f2123
        decreasing_trivial
        refine ⟨.ref qn, rfl, qn, nmK F n, rfl, hq23, fun p24 hp24 => ?_⟩
        have f24 : Fs G H23 (upd H23 p24 (.lst ((nmK F n).map (·.2)))) := Fm.new hp24
        have h24 : upd H23 p24 (.lst ((nmK F n).map (·.2))) p24 = some (.lst ((F.ws.map n).map V.int)) := by
          rw [upd_same]
          unfold nmK
          rw [List.map_map, List.map_map]
          rfl
        generalize upd H23 p24 (.lst ((nmK F n).map (·.2))) = H24 at *
        have hC1 := hC1.mono f24
        have hC2 := hC2.mono f24
        have hW24 := hW23.mono f24
        have hp24' := hp23.mono f24
        have e1924 := e1921.trans (f2123.trans f24).weak
        decreasing_trivial
        refine ⟨p24, F.ws.map n, rfl, SqL.of h24, ?_⟩
        decreasing_trivial
        refine iteD (fun ez => ?_) (fun ez => ?_)
        · have ez := of_decide_eq_true ez
          have hfull : ∃ m, m < 2 ^ F.n ∧ 0 < F.want n (F.qm m) := by
            have hp0 : 0 < 2 ^ F.n := Nat.two_pow_pos _
            refine ⟨2 ^ F.n - 1, by omega, ?_⟩
            have e5 : F.want n (F.qm (2 ^ F.n - 1)) = (F.ws.map n).sum := by
              unfold Ft.want
              congr 1
              refine List.map_congr_left fun c hc => ?_
              have hqf : F.qm (2 ^ F.n - 1) c = true := by
                unfold Ft.qm
                rw [Nat.testBit_two_pow_sub_one]
                exact decide_eq_true (List.idxOf_lt_length_of_mem hc)
              rw [if_pos hqf]
            rw [e5]
            exact ez
          have hkb : ∀ {s : List ((Nat × Nat) × Int)} {k : Int}, StOk F s → cpF (fun m => F.bear s (F.qm m)) (fun m => F.want n (F.qm m)) (2 ^ F.n) = some k → k.natAbs < 10 ^ 40 := fun {s k} hs hk => by
            obtain ⟨m0, _, h1, h2⟩ := cpF_mem _ _ hk
            have y1 := Ft.bear_bd (F := F) hs (F.qm m0)
            have y2 : 0 ≤ k := by
              rw [h2]
              exact Int.ediv_nonneg y1.1 (Int.le_of_lt h1)
            have y3 : k ≤ F.bear s (F.qm m0) := by
              rw [h2]
              exact Int.ediv_le_self _ y1.1
            have : (20000000000000000000000000000001 : Nat) < 10 ^ 40 := by decide
            omega
          decreasing_trivial
          refine r_sp2 ⟨x', wa, f', F, s1, n, rfl, rfl, hC1, hW24, fun c _ => hn20 c, hfull, fun H25 p25 k t5 f25 hk h25 => ?_⟩
          decreasing_trivial
          refine ⟨p25, _, 0, _, rfl, rfl, SqT.of h25, rfl, ?_⟩
          refine ⟨k, rfl, log2_ok (hkb so1 hk), ?_⟩
          decreasing_trivial
          refine r_sp2 ⟨y', wa, f', F, s2, n, rfl, rfl, hC2.mono f25, hW24.mono f25, fun c _ => hn20 c, hfull, fun H26 p26 k2 t6 f26 hk2 h26 => ?_⟩
          decreasing_trivial
          refine ⟨p26, _, 0, _, rfl, rfl, SqT.of h26, rfl, ?_⟩
          refine ⟨k2, rfl, log2_ok (hkb so2' hk2), ?_⟩
          have hkk : k2 = k := by
            rw [cpF_congr (g := fun m => F.bear s1 (F.qm m)) (h := fun m => F.bear s2 (F.qm m)) (2 ^ F.n) hbe, hk2] at hk
            exact Option.some.inj hk
          subst hkk
          decreasing_trivial
          refine iteN (by simp) ?_
          decreasing_trivial
          exact ⟨_, _, _, rfl, e19'.trans (e1924.trans (f25.trans f26).weak), (hp24'.mono f25).mono f26⟩
        · decreasing_trivial
          exact ⟨_, _, _, rfl, e19'.trans e1924, hp24'⟩
      · obtain ⟨w11, w12, w13, rfl, e19', hp19⟩ := hW
        decreasing_trivial
        exact ⟨_, _, _, _, _, _, _, _, _, _, _, _, _, _, _, rfl, e118.trans e19', hp19.less (by omega)⟩
    · have hpt18 := (((((f11.trans f12).trans g14).trans g16).trans f17).trans f18).tup hpt
      refine iteN (decide_eq_false (by intro z; cases z)) ?_
      decreasing_trivial
      refine ⟨pt, _, rfl, SqT.of hpt18, rfl, _, _, rfl, _, _, rfl, _, _, rfl, rfl, ?_⟩
      decreasing_trivial
      rcases Int.lt_or_gt_of_ne hn with hlt | hgt
      · have hng : ¬ F.bear s2 (F.qm m) < F.bear s1 (F.qm m) := by omega
        refine iteN (decide_eq_false hng) ?_
        decreasing_trivial
        refine r_sp4 ⟨p, b + 200, lf, d2, F, st2, m, rfl, rfl, rfl, rfl, hL18, hd218, so2, hp18.less (by omega), fun H20 qn n e20 hp20 hn20 heq hle h20 => ?_⟩
        have hF20 := hF18.mono e20
        decreasing_trivial
        refine r_sp3 ⟨p, b, f', qn, F, n, rfl, rfl, rfl, hF20, h20, hn20, hp20.less (by omega), fun H21 wa e21 hp21 hW21 => ?_⟩
        have e1821 := e20.trans e21
        have hC1 := hC1.mono e1821
        have hC2 := hC2.mono e1821
        decreasing_trivial
        refine r_sp2 ⟨x', wa, f', F, s1, n, rfl, rfl, hC1, hW21, fun H22 low f22 hmin => ?_⟩
        have hlow : ¬ 0 ≤ low := by
          have y1 := hmin.2 m hm
          rw [← bear_perm hs2] at heq
          unfold slk at y1
          omega
        decreasing_trivial
        refine r_ne rfl ?_
        decreasing_trivial
        refine iteN (by rw [decide_eq_false hlow, decide_eq_false hng]; rfl) ?_
        decreasing_trivial
        refine r_sp2 ⟨y', wa, f', F, s2, n, rfl, rfl, hC2.mono f22, hW21.mono f22, fun H23 low2 f23 hmin2 => ?_⟩
        have hlow2 : 0 ≤ low2 := by
          obtain ⟨⟨m0, _, hm0⟩, _⟩ := hmin2
          have y1 := hle (F.qm m0)
          rw [← bear_perm hs2] at y1
          unfold slk at hm0
          omega
        decreasing_trivial
        refine r_ne rfl ?_
        decreasing_trivial
        refine iteN (by rw [decide_eq_true hlow2, decide_eq_true hlt]; rfl) ?_
        decreasing_trivial
        exact ⟨_, _, _, _, _, _, _, _, _, _, _, _, _, _, _, rfl, e118.trans (e1821.trans (f22.trans f23).weak), (hp21.mono f22).mono f23⟩
      · refine iteE (decide_eq_true hgt) ?_
        decreasing_trivial
        refine r_sp4 ⟨p, b + 200, lf, d, F, st, m, rfl, rfl, rfl, rfl, hL18, hd18, hst.1, hp18.less (by omega), fun H20 qn n e20 hp20 hn20 heq hle h20 => ?_⟩
        have hF20 := hF18.mono e20
        decreasing_trivial
        refine r_sp3 ⟨p, b, f', qn, F, n, rfl, rfl, rfl, hF20, h20, hn20, hp20.less (by omega), fun H21 wa e21 hp21 hW21 => ?_⟩
        have e1821 := e20.trans e21
        have hC1 := hC1.mono e1821
        have hC2 := hC2.mono e1821
        decreasing_trivial
        refine r_sp2 ⟨x', wa, f', F, s1, n, rfl, rfl, hC1, hW21, fun H22 low f22 hmin => ?_⟩
        have hlow : 0 ≤ low := by
          obtain ⟨⟨m0, _, hm0⟩, _⟩ := hmin
          have y1 := hle (F.qm m0)
          rw [← bear_perm hs1] at y1
          unfold slk at hm0
          omega
        decreasing_trivial
        refine r_ne rfl ?_
        decreasing_trivial
        refine iteN (by rw [decide_eq_true hlow, decide_eq_true hgt]; rfl) ?_
        decreasing_trivial
        refine r_sp2 ⟨y', wa, f', F, s2, n, rfl, rfl, hC2.mono f22, hW21.mono f22, fun H23 low2 f23 hmin2 => ?_⟩
        have hlow2 : ¬ 0 ≤ low2 := by
          have y1 := hmin2.2 m hm
          rw [← bear_perm hs1] at heq
          unfold slk at y1
          omega
        decreasing_trivial
        refine r_ne rfl ?_
        decreasing_trivial
        refine iteN (by rw [decide_eq_false hlow2, decide_eq_false (show ¬ F.bear s1 (F.qm m) < F.bear s2 (F.qm m) by omega)]; rfl) ?_
        decreasing_trivial
        exact ⟨_, _, _, _, _, _, _, _, _, _, _, _, _, _, _, rfl, e118.trans (e1821.trans (f22.trans f23).weak), (hp21.mono f22).mono f23⟩
  · obtain ⟨v2, v3, v4, v5, v6, v7, v8, v9, v10, v11, v12, v13, v14, v15, v16, rfl, e2, hp2⟩ := hW
    decreasing_trivial
    exact q _
end
end Hy
namespace Hy
open PySem PySem.Spec PyProof.Rows L2
section
variable {g : Gt} {as : List Addr} {a : Addr}
theorem frg_eq : ∀ {as : List Addr}, a ∈ as → (frg g as).lookup a = keptO (g a)
  | b :: as, h => by
    unfold frg
    rw [List.filterMap_cons]
    by_cases e : a = b
    · subst e
      cases hk : keptO (g a) with
      | none =>
        by_cases h2 : a ∈ as
        · exact (frg_eq h2).trans hk
        · have z : ∀ bs : List Addr, a ∉ bs → (bs.filterMap fun a => (keptO (g a)).map fun o => (a, o)).lookup a = none := by
            intro bs
            induction bs with
            | nil => intro _; rfl
            | cons c bs ih =>
              intro hn
              have hc : a ≠ c := fun e => hn (e ▸ List.mem_cons_self ..)
              rw [List.filterMap_cons]
              cases keptO (g c) with
              | none => exact ih fun z => hn (List.mem_cons_of_mem _ z)
              | some o =>
                show (match a == c with | true => some o | false => _) = none
                rw [beq_eq_false_iff_ne.mpr hc]
                exact ih fun z => hn (List.mem_cons_of_mem _ z)
          exact z as h2
      | some o =>
        show (match a == a with | true => some o | false => _) = some o
        rw [beq_self_eq_true]
    · have h2 : a ∈ as := (List.mem_cons.mp h).resolve_left e
      cases hk : keptO (g b) with
      | none => exact frg_eq h2
      | some o =>
        show (match a == b with | true => some o | false => (frg g as).lookup a) = _
        rw [beq_eq_false_iff_ne.mpr e]
        exact frg_eq h2
theorem frg_get {o : Obj} : ∀ {as : List Addr}, (frg g as).lookup a = some o → keptO (g a) = some o
  | [], e => by cases e
  | b :: as, e => by
    by_cases h : a ∈ b :: as
    · rw [← frg_eq h, e]
    · exfalso
      have z : ∀ bs : List Addr, a ∉ bs → (frg g bs).lookup a = none := by
        intro bs
        induction bs with
        | nil => intro _; rfl
        | cons c bs ih =>
          intro hn
          have hc : a ≠ c := fun e => hn (e ▸ List.mem_cons_self ..)
          unfold frg
          rw [List.filterMap_cons]
          cases keptO (g c) with
          | none => exact ih fun z => hn (List.mem_cons_of_mem _ z)
          | some o =>
            show (match a == c with | true => some o | false => _) = none
            rw [beq_eq_false_iff_ne.mpr hc]
            exact ih fun z => hn (List.mem_cons_of_mem _ z)
      rw [z _ h] at e
      cases e
theorem kept_get {o : Obj} {u : Option Obj} (h : keptO u = some o) : u = some o ∧ isTab u = false := by
  unfold keptO at h
  cases e : isTab u with
  | true =>
    rw [e] at h
    cases h
  | false =>
    rw [e] at h
    exact ⟨h, rfl⟩
theorem frg_tab (h : isTab (g a) = true) : (frg g as).lookup a = none := by
  cases e : (frg g as).lookup a with
  | none => rfl
  | some o =>
    have := (kept_get (frg_get e)).2
    rw [h] at this
    cases this
theorem frg_in {h : Heap} {as : List Addr} : (frg h.get? as).In h := fun _ _ e => (kept_get (frg_get e)).1
theorem nsIn_congr {K K' : PySem.W.Frag} {x : Str} (h : K.lookup a = K'.lookup a) : PySem.W.nsIn K a x = PySem.W.nsIn K' a x := by
  unfold PySem.W.nsIn
  rw [h]
theorem codeIn_congr {K K' : PySem.W.Frag} {q : Str} (h : K.lookup a = K'.lookup a) : PySem.W.codeIn K (.ref a) q = PySem.W.codeIn K' (.ref a) q := by
  unfold PySem.W.codeIn
  dsimp only
  rw [h]
theorem lookup_same {b : Addr} {as : List Addr} (h : b ∈ as) : (frg g as).lookup b = (frg g [b]).lookup b := by
  rw [frg_eq h, frg_eq (List.mem_cons_self ..)]
theorem adr_ns {x : Str} {b : Addr} (h : adr g a x = some b) : PySem.W.nsIn (frg g [a]) a x = some (some (.ref b)) := by
  unfold adr at h
  split at h
  · rename_i c e
    cases h
    exact e
  · cases h
theorem isNone_ok {v : Value} (h : isNone v = true) : v = .none := by
  cases v <;> first | rfl | cases h
/-- a def that is looked at -/
theorem fnO_ok {q x : Str} {k : Nat} {f : Addr} {st : Stmt} (h : fnO g q k f = valF x q st) : ∃ od fd osl c, g f = some ⟨.type "function", od, .func fd, osl⟩ ∧ fd.code = .ref c ∧ PySem.W.codeIn (frg g [c]) (.ref c) q = true ∧
    fd = { name := x, qualname := q, params := defArgs st, body := .stmts (defBody st), scope := defScope st, globals := mainGlobals, closure := fd.closure, defaults := fd.defaults, kwdefaults := fd.kwdefaults, doc := fd.doc, pyModule := fd.pyModule, annotations := fd.annotations, code := fd.code, closureTuple := fd.closureTuple, builtins := builtinsNs } ∧
    (k = 0 → fd.closure = [] ∧ fd.defaults = .none) ∧ (k = 1 → fd.closure = []) := by
  unfold fnO at h
  split at h
  · rename_i t od fd osl e
    have h1 := congrArg Prod.fst h
    have h2 := congrArg Prod.snd h
    dsimp only [valF] at h1 h2
    rw [Bool.and_eq_true, Bool.and_eq_true] at h2
    obtain ⟨⟨h3, h4⟩, h5⟩ := h2
    have ht : t = "function" := eq_of_beq h3
    subst ht
    have hc : ∃ c, fd.code = .ref c ∧ PySem.W.codeIn (frg g [c]) (.ref c) q = true := by
      unfold codeG at h4
      split at h4
      · rename_i c ec
        exact ⟨c, ec, h4⟩
      · cases h4
    obtain ⟨c, hc1, hc2⟩ := hc
    obtain ⟨n1, n2, n3, n4, n5, n6, n7, n8, n9, n10, n11, n12, n13, n14, n15⟩ := fd
    simp only [Option.some.injEq, Prod.mk.injEq] at h1
    obtain ⟨e1, e2, e3, e4, e5, e6, e7⟩ := h1
    subst e1 e2 e3 e4 e5 e6 e7
    refine ⟨od, _, osl, c, e, hc1, hc2, rfl, fun hk => ?_, fun hk => ?_⟩
    · subst hk
      have h6 := Bool.and_eq_true_iff.mp h5
      exact ⟨List.isEmpty_iff.mp h6.1, isNone_ok h6.2⟩
    · subst hk
      exact List.isEmpty_iff.mp h5
  · have h2 := congrArg Prod.snd h
    cases h2
theorem fnX_ok {ns : Addr} {x q : Str} {k : Nat} {st : Stmt} {x' : Str} (h : fnX g ns x q k = valF x' q st) : ∃ f, adr g ns x = some f ∧ fnO g q k f = valF x' q st := by
  unfold fnX at h
  split at h
  · rename_i f e
    exact ⟨f, e, h⟩
  · have h2 := congrArg Prod.snd h
    cases h2
theorem prX_ok {ns : Addr} {x q : Str} {st : Stmt} {x' : Str} (h : prX g ns x q = valF x' q st) : ∃ p f, adr g ns x = some p ∧ getr g p = some f ∧ fnO g q 0 f = valF x' q st := by
  unfold prX at h
  split at h
  · rename_i p e
    split at h
    · rename_i f e2
      exact ⟨p, f, e, e2, h⟩
    · have h2 := congrArg Prod.snd h
      cases h2
  · have h2 := congrArg Prod.snd h
    cases h2
theorem getr_ok {p f : Addr} (h : getr g p = some f) : ∃ od vs osl rest, g p = some ⟨.type "property", od, .fields vs, osl⟩ ∧ vs.toList = .ref f :: rest := by
  unfold getr at h
  split at h
  · rename_i t od vs osl e
    split at h
    · rename_i ht
      have ht : t = "property" := eq_of_beq ht
      subst ht
      split at h
      · rename_i b rest ev
        cases h
        exact ⟨od, vs, osl, rest, e, ev⟩
      · cases h
    · cases h
  · cases h
end
theorem kept_type {t : String} {od : Option Addr} {dt : Data} {osl : Array (Option Value)} {u : Option Obj} (h : u = some ⟨.type t, od, dt, osl⟩) : keptO u = u := by
  subst h
  rfl
section
variable {g : Gt} {c : Cas}
theorem mem_base {a : Addr} (h : a ∈ [mainGlobals, c.cF, c.nF, c.cC, c.nC, c.cP, c.nP, c.cW, c.nW, cStatics]) : a ∈ adrs g c := by
  have e : adrs g c = [mainGlobals, c.cF, c.nF, c.cC, c.nC, c.cP, c.nP, c.cW, c.nW, cStatics] ++ (plc1 c).flatMap fun p => near g p.1 p.2 := rfl
  rw [e]
  exact List.mem_append_left _ h
theorem mem_near {a ns : Addr} {x : Str} (hp : (ns, x) ∈ plc1 c) (h : a ∈ near g ns x) : a ∈ adrs g c := by
  have e : adrs g c = [mainGlobals, c.cF, c.nF, c.cC, c.nC, c.cP, c.nP, c.cW, c.nW, cStatics] ++ (plc1 c).flatMap fun p => near g p.1 p.2 := rfl
  rw [e]
  exact List.mem_append_right _ (List.mem_flatMap.mpr ⟨(ns, x), hp, h⟩)
theorem near_f {ns f : Addr} {x : Str} (h : adr g ns x = some f) : f ∈ near g ns x := by
  unfold near
  rw [h]
  exact List.mem_cons_self ..
theorem near_b {ns f b : Addr} {x : Str} (h : adr g ns x = some f) (hb : b ∈ nearF g f) : b ∈ near g ns x := by
  unfold near
  rw [h]
  exact List.mem_cons_of_mem _ (List.mem_append_left _ hb)
theorem near_p {ns p f : Addr} {x : Str} (h : adr g ns x = some p) (hf : getr g p = some f) : f ∈ near g ns x := by
  unfold near
  rw [h]
  dsimp only
  rw [hf]
  exact List.mem_cons_of_mem _ (List.mem_append_right _ (List.mem_cons_self ..))
theorem near_pb {ns p f b : Addr} {x : Str} (h : adr g ns x = some p) (hf : getr g p = some f) (hb : b ∈ nearF g f) : b ∈ near g ns x := by
  unfold near
  rw [h]
  dsimp only
  rw [hf]
  exact List.mem_cons_of_mem _ (List.mem_append_right _ (List.mem_cons_of_mem _ hb))
theorem nearF_eq {f : Addr} {od : Option Addr} {fd : FuncData} {osl : Array (Option Value)} {cl : Value} (h : g f = some ⟨cl, od, .func fd, osl⟩) : nearF g f = refA fd.code ++ (refA fd.defaults ++ (refA fd.kwdefaults ++ fd.closure.map (·.2))) := by
  unfold nearF
  rw [h]
theorem code_near {f cd : Addr} {od : Option Addr} {fd : FuncData} {osl : Array (Option Value)} {cl : Value} (h : g f = some ⟨cl, od, .func fd, osl⟩) (hc : fd.code = .ref cd) : cd ∈ nearF g f := by
  rw [nearF_eq h, hc]
  exact List.mem_append_left _ (List.mem_cons_self ..)
/-- what a def in K is -/
theorem fun_of {q x : Str} {k : Nat} {f : Addr} {st : Stmt} (h : fnO g q k f = valF x q st) (hf : f ∈ adrs g c) (hn : ∀ b ∈ nearF g f, b ∈ adrs g c) : ∃ od fd osl cd, g f = some ⟨.type "function", od, .func fd, osl⟩ ∧ (kOf g c).lookup f = some ⟨.type "function", od, .func fd, osl⟩ ∧ fd.code = .ref cd ∧ PySem.W.codeIn (kOf g c) (.ref cd) q = true ∧ cd ∈ adrs g c ∧
    fd = { name := x, qualname := q, params := defArgs st, body := .stmts (defBody st), scope := defScope st, globals := mainGlobals, closure := fd.closure, defaults := fd.defaults, kwdefaults := fd.kwdefaults, doc := fd.doc, pyModule := fd.pyModule, annotations := fd.annotations, code := fd.code, closureTuple := fd.closureTuple, builtins := builtinsNs } ∧
    (k = 0 → fd.closure = [] ∧ fd.defaults = .none) ∧ (k = 1 → fd.closure = []) := by
  obtain ⟨od, fd, osl, cd, e1, e2, e3, e4, e5, e6⟩ := fnO_ok h
  have hcd := hn cd (code_near e1 e2)
  refine ⟨od, fd, osl, cd, e1, ?_, e2, ?_, hcd, e4, e5, e6⟩
  · unfold kOf
    rw [frg_eq hf, kept_type e1, e1]
  · unfold kOf
    rw [codeIn_congr (lookup_same hcd)]
    exact e3
theorem keep_of {K : PySem.W.Frag} {f : Addr} {cl : Value} {od : Option Addr} {fd : FuncData} {osl : Array (Option Value)} (h : K.lookup f = some ⟨cl, od, .func fd, osl⟩) : PySem.W.keepIn K (.ref f) = true := by
  unfold PySem.W.keepIn
  dsimp only
  rw [h]
theorem fnIn_of {K : PySem.W.Frag} {f : Addr} {cl : Value} {od : Option Addr} {fd : FuncData} {osl : Array (Option Value)} (h : K.lookup f = some ⟨cl, od, .func fd, osl⟩) : PySem.W.fnIn K f = true := by
  unfold PySem.W.fnIn
  rw [h]
theorem isFn_of {K : PySem.W.Frag} {f : Addr} {od : Option Addr} {fd : FuncData} {osl : Array (Option Value)} (h : K.lookup f = some ⟨.type "function", od, .func fd, osl⟩) : PySem.W.isFn K (.ref f) = true := by
  unfold PySem.W.isFn PySem.W.typeIn
  dsimp only
  rw [h]
  rfl
theorem typ_of {K : PySem.W.Frag} {f : Addr} {od : Option Addr} {dt : Data} {osl : Array (Option Value)} {t : String} (h : K.lookup f = some ⟨.type t, od, dt, osl⟩) : PySem.W.typeIn K (.ref f) = some (.type t) := by
  unfold PySem.W.typeIn
  dsimp only
  rw [h]
  rfl
theorem Fun_of {q x : Str} {f : Addr} {st : Stmt} (h : fnO g q 0 f = valF x q st) (hf : f ∈ adrs g c) (hn : ∀ b ∈ nearF g f, b ∈ adrs g c) : ∃ fd od osl, Fun (kOf g c) x q st f fd ∧ (kOf g c).lookup f = some ⟨.type "function", od, .func fd, osl⟩ := by
  obtain ⟨od, fd, osl, cd, e1, e2, e3, e4, _, e5, e6, _⟩ := fun_of h hf hn
  obtain ⟨e7, e8⟩ := e6 rfl
  refine ⟨fd, od, osl, ⟨⟨_, od, fd.kwdefaults, fd.doc, fd.pyModule, fd.annotations, fd.code, fd.closureTuple, osl, ?_, e2, ?_⟩, keep_of e2⟩, e2⟩
  · rw [e5, e7, e8]
  · rw [e3]
    exact e4
end
end Hy
namespace Hy
open PySem PySem.Spec PyProof.Rows L2
section
variable {g : Gt} {h : Heap} {mg : Str → Option Value}
theorem gl_ok (h1 : fnLs g (caOf g) = valLs) : ∀ p ∈ glN, fnX g mainGlobals p.1 p.1 0 = valF p.1 p.1 (top p.2) := by
  unfold fnLs valLs at h1
  have h2 := (List.append_inj h1 (by rw [List.length_map, List.length_map])).1
  exact fun p hp => List.map_inj_left.mp h2 p hp
structure Sps (g : Gt) (c : Cas) : Prop where
  ss : fnX g mainGlobals "subset_sums" "subset_sums" 1 = valF "subset_sums" "subset_sums" (top 40)
  cp : fnX g mainGlobals "copies" "copies" 1 = valF "copies" "copies" (top 80)
  lw : fnX g mainGlobals "law" "law" 0 = valF "law" "law" (top 103)
  fi : fnX g c.nF "__init__" "Font.__init__" 1 = valF "__init__" "Font.__init__" (inClass (top 57) 1)
  fe : fnX g c.nF "__eq__" "Font.__eq__" 0 = valF "__eq__" "Font.__eq__" (inClass (top 57) 4)
  fl : fnX g c.nF "__len__" "Font.__len__" 0 = valF "__len__" "Font.__len__" (inClass (top 57) 5)
  fs : prX g c.nF "signs" "Font.signs" = valF "signs" "Font.signs" (inClass (top 57) 7)
  fa : fnX g c.nF "ascending" "Font.ascending" 0 = valF "ascending" "Font.ascending" (inClass (top 57) 9)
  fn : fnX g c.nF "normal" "Font.normal" 0 = valF "normal" "Font.normal" (inClass (top 57) 10)
  fz : fnX g c.nF "seen" "Font.seen" 0 = valF "seen" "Font.seen" (inClass (top 57) 11)
  pi : fnX g c.nP "__init__" "Pile.__init__" 0 = valF "__init__" "Pile.__init__" (inClass (top 70) 0)
  pf : prX g c.nP "font" "Pile.font" = valF "font" "Pile.font" (inClass (top 70) 1)
  pp : prX g c.nP "plates" "Pile.plates" = valF "plates" "Pile.plates" (inClass (top 70) 2)
  pb : fnX g c.nP "bearing" "Pile.bearing" 0 = valF "bearing" "Pile.bearing" (inClass (top 70) 5)
  ci : fnX g c.nC "__init__" "Case.__init__" 2 = valF "__init__" "Case.__init__" (inClass (top 71) 1)
  wi : fnX g c.nW "__init__" "Wants.__init__" 0 = valF "__init__" "Wants.__init__" (inClass (top 83) 0)
  wg : fnX g c.nW "__getitem__" "Wants.__getitem__" 0 = valF "__getitem__" "Wants.__getitem__" (inClass (top 83) 6)
  wf : prX g c.nW "font" "Wants.font" = valF "font" "Wants.font" (inClass (top 83) 9)
theorem sps_ok (h1 : fnLs g (caOf g) = valLs) : Sps g (caOf g) := by
  unfold fnLs valLs at h1
  have h2 := (List.append_inj h1 (by rw [List.length_map, List.length_map])).2
  obtain ⟨a1, h2⟩ := List.cons.inj h2
  obtain ⟨a2, h2⟩ := List.cons.inj h2
  obtain ⟨a3, h2⟩ := List.cons.inj h2
  obtain ⟨a4, h2⟩ := List.cons.inj h2
  obtain ⟨a5, h2⟩ := List.cons.inj h2
  obtain ⟨a6, h2⟩ := List.cons.inj h2
  obtain ⟨a7, h2⟩ := List.cons.inj h2
  obtain ⟨a8, h2⟩ := List.cons.inj h2
  obtain ⟨a9, h2⟩ := List.cons.inj h2
  obtain ⟨a10, h2⟩ := List.cons.inj h2
  obtain ⟨a11, h2⟩ := List.cons.inj h2
  obtain ⟨a12, h2⟩ := List.cons.inj h2
  obtain ⟨a13, h2⟩ := List.cons.inj h2
  obtain ⟨a14, h2⟩ := List.cons.inj h2
  obtain ⟨a15, h2⟩ := List.cons.inj h2
  obtain ⟨a16, h2⟩ := List.cons.inj h2
  obtain ⟨a17, h2⟩ := List.cons.inj h2
  obtain ⟨a18, h2⟩ := List.cons.inj h2
  exact ⟨a1, a2, a3, a4, a5, a6, a7, a8, a9, a10, a11, a12, a13, a14, a15, a16, a17, a18⟩
theorem all_at {l : List Bool} (h : l.all id = true) (i : Nat) {b : Bool} (e : l[i]? = some b := by rfl) : b = true := List.all_eq_true.mp h b (List.mem_of_getElem? e)
theorem mg_of_adr {c : Cas} (X : (kOf g c).In h) (G : h.Ns mainGlobals mg) {x : Str} {f : Addr} (e : adr g mainGlobals x = some f) : mg x = some (.ref f) := by
  refine PySem.W.mg_of X G ?_
  unfold kOf
  rw [nsIn_congr (lookup_same (mem_base (List.mem_cons_self ..)))]
  exact adr_ns e
theorem eqOV_ok {a b : Option (Option Value)} (h : eqOV a b = true) : a = b := of_decide_eq_true h
theorem int_mg {c : Cas} (X : (kOf g c).In h) (G : h.Ns mainGlobals mg) {x : Str} {i : Int} (e : intB (kOf g c) x i = true) : ∃ u, mg x = some u ∧ RelV (.int i) u := by
  unfold intB at e
  split at e
  · rename_i j t e2
    have := of_decide_eq_true e
    subst this
    exact ⟨_, PySem.W.mg_of X G e2, t, rfl⟩
  · cases e
theorem str_mg {c : Cas} (X : (kOf g c).In h) (G : h.Ns mainGlobals mg) {x z : Str} (e : strB (kOf g c) x z = true) : ∃ u, mg x = some u ∧ RelV (.str z) u := by
  unfold strB at e
  split at e
  · rename_i j t e2
    have := of_decide_eq_true e
    subst this
    exact ⟨_, PySem.W.mg_of X G e2, t, rfl⟩
  · cases e
theorem gl_fn {c : Cas} (X : (kOf g c).In h) (G : h.Ns mainGlobals mg) {x : Str} {st : Stmt} (hp : (mainGlobals, x) ∈ plc1 c) (e : fnX g mainGlobals x x 0 = valF x x st) : ∃ f fd od osl, Fun (kOf g c) x x st f fd ∧ mg x = some (.ref f) ∧ (kOf g c).lookup f = some ⟨.type "function", od, .func fd, osl⟩ ∧ adr g mainGlobals x = some f := by
  obtain ⟨f, e1, e2⟩ := fnX_ok e
  obtain ⟨fd, od, osl, F, lk⟩ := Fun_of e2 (mem_near hp (near_f e1)) fun b hb => mem_near hp (near_b e1 hb)
  exact ⟨f, fd, od, osl, F, mg_of_adr X G e1, lk, e1⟩
theorem fnd_ok {K : PySem.W.Frag} {C ns f : Addr} {m : Str} (e : fndB g K C ns m = true) (ha : adr g ns m = some f) : PySem.W.findIn K (.ref C) m = some (some (.ref f)) := by
  unfold fndB at e
  split at e
  · rename_i f' e2
    have := of_decide_eq_true e
    rw [ha] at this
    rw [e2, Option.some.inj this]
  · cases e
theorem mt_ok {c : Cas} {C ns : Addr} {m q : Str} {st : Stmt} (hp : (ns, m) ∈ plc1 c) (e : fnX g ns m q 0 = valF m q st) (e2 : fndB g (kOf g c) C ns m = true) : ∃ f fd od osl, Fun (kOf g c) m q st f fd ∧ PySem.W.findIn (kOf g c) (.ref C) m = some (some (.ref f)) ∧ (kOf g c).lookup f = some ⟨.type "function", od, .func fd, osl⟩ ∧ adr g ns m = some f := by
  obtain ⟨f, e1, e3⟩ := fnX_ok e
  obtain ⟨fd, od, osl, F, lk⟩ := Fun_of e3 (mem_near hp (near_f e1)) fun b hb => mem_near hp (near_b e1 hb)
  exact ⟨f, fd, od, osl, F, fnd_ok e2 e1, lk, e1⟩
theorem fast_get : fastLookup "property" "__get__" = some (some (.builtin "property.__get__")) := by decide +kernel
theorem fast_set : (match fastLookup "property" "__set__" with
  | some (some _) => true
  | _ => false) = true := by decide +kernel
theorem pt_ok {c : Cas} {C ns : Addr} {m q : Str} {st : Stmt} (hp : (ns, m) ∈ plc1 c) (e : prX g ns m q = valF m q st) (e2 : fndB g (kOf g c) C ns m = true) : PtT (kOf g c) C m q st := by
  obtain ⟨p, f, e1, e3, e4⟩ := prX_ok e
  obtain ⟨fd, od, osl, F, lk⟩ := Fun_of e4 (mem_near hp (near_p e1 e3)) fun b hb => mem_near hp (near_pb e1 e3 hb)
  obtain ⟨od2, vs, osl2, rest, e5, e6⟩ := getr_ok e3
  have lp : (kOf g c).lookup p = some ⟨.type "property", od2, .fields vs, osl2⟩ := by
    unfold kOf
    rw [frg_eq (mem_near hp (near_f e1)), kept_type e5, e5]
  refine ⟨⟨p, f, fd, F, fnd_ok e2 e1, ?_, ?_, rest, ?_⟩⟩
  · unfold PySem.W.specialIn
    rw [typ_of lp]
    exact fast_get
  · unfold PySem.W.takesIn PySem.W.specialIn
    rw [typ_of lp]
    have h9 : ∃ v, PySem.W.findIn (kOf g c) (.type "property") "__set__" = some (some v) := by
      have h8 := fast_set
      show ∃ v, fastLookup "property" "__set__" = some (some v)
      revert h8
      cases fastLookup "property" "__set__" with
      | none => intro h8; cases h8
      | some o =>
        cases o with
        | none => intro h8; cases h8
        | some v => exact fun _ => ⟨v, rfl⟩
    obtain ⟨v, h9⟩ := h9
    show (match PySem.W.findIn (kOf g c) (.type "property") "__set__" with
      | some (some val) => some true
      | some none => Option.map (fun x => x.isSome) (PySem.W.findIn (kOf g c) (.type "property") "__delete__")
      | none => none) = some true
    rw [h9]
  · unfold PySem.W.recIn
    rw [lp]
    show (if ("property" == "property") = true then some vs.toList else none) = _
    rw [if_pos (beq_self_eq_true _), e6]
/-- what the looks say, one by one -/
structure Fcs (g : Gt) (c : Cas) : Prop where
  cF : clsB (kOf g c) c.cF = true
  cC : clsB (kOf g c) c.cC = true
  cW : clsB (kOf g c) c.cW = true
  n1 : noB (kOf g c) c.cF "word" = true
  n2 : noB (kOf g c) c.cF "ranks" = true
  n3 : noB (kOf g c) c.cF "heads" = true
  n4 : noB (kOf g c) c.cC "own_font" = true
  n5 : noB (kOf g c) c.cC "stock" = true
  n6 : noB (kOf g c) c.cW "own_font" = true
  n7 : noB (kOf g c) c.cW "numbers" = true
  d1 : fndB g (kOf g c) c.cF c.nF "__init__" = true
  d2 : fndB g (kOf g c) c.cF c.nF "__eq__" = true
  d3 : fndB g (kOf g c) c.cF c.nF "__len__" = true
  d4 : fndB g (kOf g c) c.cF c.nF "signs" = true
  d5 : fndB g (kOf g c) c.cF c.nF "ascending" = true
  d6 : fndB g (kOf g c) c.cF c.nF "normal" = true
  d7 : fndB g (kOf g c) c.cF c.nF "seen" = true
  d8 : fndB g (kOf g c) c.cC c.nP "font" = true
  d9 : fndB g (kOf g c) c.cC c.nP "plates" = true
  d10 : fndB g (kOf g c) c.cC c.nP "bearing" = true
  d11 : fndB g (kOf g c) c.cC c.nC "__init__" = true
  d12 : fndB g (kOf g c) c.cW c.nW "__init__" = true
  d13 : fndB g (kOf g c) c.cW c.nW "__getitem__" = true
  d14 : fndB g (kOf g c) c.cW c.nW "font" = true
  ne : eqOV (PySem.W.findIn (kOf g c) (.ref c.cF) "__ne__") (some (some (.builtin "object.__ne__"))) = true
  ob : decide (PySem.W.mroIn (kOf g c) c.cF (.type "object") = some true) = true
  sq : PySem.W.noSeq (kOf g c) c.cW = true
  m1 : PySem.W.makesIn (kOf g c) c.cF = true
  m2 : PySem.W.makesIn (kOf g c) c.cC = true
  m3 : PySem.W.makesIn (kOf g c) c.cW = true
  k1 : PySem.W.keepIn (kOf g c) (.ref c.cF) = true
  k2 : PySem.W.keepIn (kOf g c) (.ref c.cC) = true
  k3 : PySem.W.keepIn (kOf g c) (.ref c.cW) = true
  cl : eqOV (PySem.W.findIn (kOf g c) (.ref c.cF) "__class__") (some (some (.builtin "object.__class__"))) = true
  mr : decide (PySem.W.mroIn (kOf g c) c.cC (.ref c.cC) = some true) = true
  up : ∃ f, PySem.W.ks_superIn (kOf g c) c.cC c.cC "__init__" = some (some (.ref f)) ∧ adr g c.nP "__init__" = some f
  st : eqOV (PySem.W.nsIn (kOf g c) cStatics "thirdparty.any") (some none) = true
  ms : ∃ t, PySem.W.findIn (kOf g c) (.ref c.cF) "MAX_SIGNS" = some (some (.int 10 t))
  i1 : (adr g mainGlobals "Font").isSome = true
  i2 : (adr g mainGlobals "Case").isSome = true
  i3 : (adr g mainGlobals "Wants").isSome = true
  fr : freeL.all (fun x => eqOV (PySem.W.nsIn (kOf g c) mainGlobals x) (some none)) = true
  b1 : strB (kOf g c) "BLANK" "-" = true
  b2 : intB (kOf g c) "MAX_COUNT_cases" 1000000000000000000000000000000 = true
  b3 : intB (kOf g c) "MOST_BEARING" 1000000000000000000000000000000000000000000000000000000000000 = true
  b4 : strB (kOf g c) "SIGNS" "0123456789abcdefghijklmnopqrstuvwxyz" = true
  b5 : intB (kOf g c) "LEAST_SIGNS" 2 = true
  df : (codA g "ordered").bind (tabA g) ≠ (codA g "_law_sets").bind (tabA g)
  t1 : tabX g "ordered" = true
  t2 : tabX g "_law_sets" = true
theorem fcs_ok {c : Cas} (h : (clsL g c ++ (fctL g c ++ spcL g c)).all id = true) : Fcs g c := by
  refine ⟨all_at h 0, all_at h 1, all_at h 2, all_at h 3, all_at h 4, all_at h 5, all_at h 6, all_at h 7, all_at h 8, all_at h 9, all_at h 10, all_at h 11, all_at h 12, all_at h 13, all_at h 14, all_at h 15, all_at h 16, all_at h 17, all_at h 18, all_at h 19, all_at h 20, all_at h 21, all_at h 22, all_at h 23, all_at h 24, all_at h 25,
    all_at h 26, all_at h 27, all_at h 28, all_at h 29, all_at h 30, all_at h 31, all_at h 32, all_at h 33, all_at h 34, ?_, all_at h 36, ?_, all_at h 38, all_at h 39, all_at h 40, all_at h 41, all_at h 42, all_at h 43, all_at h 44, all_at h 45, all_at h 46, ?_, all_at h 48, all_at h 49⟩
  · have h1 := all_at h 35
    split at h1
    · rename_i f e
      exact ⟨f, e, of_decide_eq_true h1⟩
    · cases h1
  · have h1 := all_at h 37
    split at h1
    · rename_i j t e
      have := of_decide_eq_true h1
      subst this
      exact ⟨t, e⟩
    · cases h1
  · have h1 := all_at h 47
    simpa using h1
end
end Hy
namespace Hy
open PySem PySem.Spec PyProof.Rows L2
section
variable {g : Gt} {h : Heap} {mg : Str → Option Value}
theorem cls_of {K : PySem.W.Frag} {C : Addr} (e : clsB K C = true) : Cls K C := by
  unfold clsB at e
  rw [Bool.and_eq_true, Bool.and_eq_true, Bool.and_eq_true] at e
  exact ⟨e.1, e.2.1, e.2.2.1, eqOV_ok e.2.2.2⟩
theorem plc_gl {c : Cas} {p : Str × Nat} (h : p ∈ glN) : (mainGlobals, p.1) ∈ plc1 c := List.mem_append_left _ (List.mem_map.mpr ⟨p, h, rfl⟩)
theorem plc_sp {c : Cas} {q : Addr × Str} (i : Nat) (e : ([(mainGlobals, "subset_sums"), (mainGlobals, "copies"), (mainGlobals, "law"), (c.nF, "__init__"), (c.nF, "__eq__"), (c.nF, "__len__"), (c.nF, "signs"), (c.nF, "ascending"), (c.nF, "normal"), (c.nF, "seen"),
  (c.nP, "__init__"), (c.nP, "font"), (c.nP, "plates"), (c.nP, "bearing"), (c.nC, "__init__"), (c.nW, "__init__"), (c.nW, "__getitem__"), (c.nW, "font")] : List (Addr × Str))[i]? = some q := by rfl) : q ∈ plc1 c := List.mem_append_right _ (List.mem_of_getElem? e)
theorem font_mg {c : Cas} {x : Str} {a : Addr} (X : (kOf g c).In h) (G : h.Ns mainGlobals mg) (e : (adr g mainGlobals x).isSome = true) (ha : a = ad g mainGlobals x) : mg x = some (.ref a) := by
  cases q : adr g mainGlobals x with
  | none =>
    rw [q] at e
    cases e
  | some f =>
    have : a = f := by
      rw [ha]
      unfold ad
      rw [q]
      rfl
    rw [this]
    exact mg_of_adr X G q
/-- subset_sums, with its keyword's default -/
theorem ssF_ok {c : Cas} (X : (kOf g c).In h) (G : h.Ns mainGlobals mg) (S : Sps g c) (sp : (spcL g c).all id = true) : ∃ f fd, FunD (kOf g c) "subset_sums" "subset_sums" (defArgs (top 40)) (defBody (top 40)) (defScope (top 40)) [] [("sign", .int 1)] f fd ∧ mg "subset_sums" = some (.ref f) := by
  obtain ⟨f, e1, e2⟩ := fnX_ok S.ss
  have hp : (mainGlobals, ("subset_sums" : Str)) ∈ plc1 c := plc_sp 0
  obtain ⟨od, fd, osl, cd, e3, e4, e5, e6, _, e7, _, e8⟩ := fun_of e2 (mem_near hp (near_f e1)) fun b hb => mem_near hp (near_b e1 hb)
  have e8 := e8 rfl
  have h1 := all_at sp 3
  rw [e1] at h1
  dsimp only at h1
  rw [e3] at h1
  dsimp only at h1
  rw [Bool.and_eq_true] at h1
  obtain ⟨h2, h3⟩ := h1
  have h2 := isNone_ok h2
  split at h3
  · rename_i D eD
    split at h3
    · rename_i j t en
      have := of_decide_eq_true h3
      subst this
      have hD : D ∈ adrs g c := mem_near hp (near_b e1 (by rw [nearF_eq e3, eD]; exact List.mem_append_right _ (List.mem_append_right _ (List.mem_cons_self ..))))
      refine ⟨f, fd, ⟨⟨_, od, .none, fd.kwdefaults, fd.doc, fd.pyModule, fd.annotations, fd.code, fd.closureTuple, osl, ?_, e4, ?_, .inl ⟨rfl, rfl⟩, .inr ⟨D, eD, fun q hq => ?_⟩⟩, keep_of e4⟩, mg_of_adr X G e1⟩
      · rw [e7, e8, h2]
      · rw [e5]
        exact e6
      · have : q = (("sign" : Str), V.int 1) := by simpa using hq
        subst this
        refine ⟨.int 1 t, ?_, t, rfl⟩
        unfold kOf
        rw [nsIn_congr (lookup_same hD)]
        exact en
    · cases h3
  · cases h3
/-- copies, with its default -/
theorem cp_ok {c : Cas} (X : (kOf g c).In h) (G : h.Ns mainGlobals mg) (S : Sps g c) (sp : (spcL g c).all id = true) : ∃ f fd, FunD (kOf g c) "copies" "copies" (defArgs (top 80)) (defBody (top 80)) (defScope (top 80)) [.non] [] f fd ∧ mg "copies" = some (.ref f) := by
  obtain ⟨f, e1, e2⟩ := fnX_ok S.cp
  have hp : (mainGlobals, ("copies" : Str)) ∈ plc1 c := plc_sp 1
  obtain ⟨od, fd, osl, cd, e3, e4, e5, e6, _, e7, _, e8⟩ := fun_of e2 (mem_near hp (near_f e1)) fun b hb => mem_near hp (near_b e1 hb)
  have e8 := e8 rfl
  have h1 := all_at sp 4
  rw [e1] at h1
  dsimp only at h1
  rw [e3] at h1
  dsimp only at h1
  split at h1
  · rename_i T eT
    split at h1
    · rename_i tc to its n tsl eo
      split at h1
      · rename_i el
        have hT : T ∈ adrs g c := mem_near hp (near_b e1 (by rw [nearF_eq e3, eT]; exact List.mem_append_right _ (List.mem_append_left _ (List.mem_cons_self ..))))
        have lT : (kOf g c).lookup T = some ⟨tc, to, .seq its n, tsl⟩ := by
          unfold kOf
          rw [frg_eq hT, eo]
        refine ⟨f, fd, ⟨⟨_, od, fd.defaults, fd.kwdefaults, fd.doc, fd.pyModule, fd.annotations, fd.code, fd.closureTuple, osl, ?_, e4, ?_, .inr ⟨by simp, T, _, [.none], n, eT, lT, ?_, .cons rfl .nil⟩, .inl rfl⟩, keep_of e4⟩, mg_of_adr X G e1⟩
        · rw [e7, e8]
        · rw [e5]
          exact e6
        · rw [← el]
      · cases h1
    · cases h1
  · cases h1
/-- Font.__init__, with its default -/
theorem fi_ok {c : Cas} (S : Sps g c) (Z : Fcs g c) (sp : (spcL g c).all id = true) : ∃ f fd a0, FunD (kOf g c) "__init__" "Font.__init__" (defArgs (inClass (top 57) 1)) (defBody (inClass (top 57) 1)) (defScope (inClass (top 57) 1)) [.ref a0] [] f fd ∧ Mk (kOf g c) c.cF f := by
  obtain ⟨f, e1, e2⟩ := fnX_ok S.fi
  have hp : (c.nF, ("__init__" : Str)) ∈ plc1 c := plc_sp 3
  obtain ⟨od, fd, osl, cd, e3, e4, e5, e6, _, e7, _, e8⟩ := fun_of e2 (mem_near hp (near_f e1)) fun b hb => mem_near hp (near_b e1 hb)
  have e8 := e8 rfl
  have h1 := all_at sp 5
  rw [e1] at h1
  dsimp only at h1
  rw [e3] at h1
  dsimp only at h1
  split at h1
  · rename_i T eT
    split at h1
    · rename_i tc to its n tsl eo
      split at h1
      · rename_i a0 el
        have hT : T ∈ adrs g c := mem_near hp (near_b e1 (by rw [nearF_eq e3, eT]; exact List.mem_append_right _ (List.mem_append_left _ (List.mem_cons_self ..))))
        have lT : (kOf g c).lookup T = some ⟨tc, to, .seq its n, tsl⟩ := by
          unfold kOf
          rw [frg_eq hT, eo]
        refine ⟨f, fd, a0, ⟨⟨_, od, fd.defaults, fd.kwdefaults, fd.doc, fd.pyModule, fd.annotations, fd.code, fd.closureTuple, osl, ?_, e4, ?_, .inr ⟨by simp, T, _, [.ref a0], n, eT, lT, ?_, .cons rfl .nil⟩, .inl rfl⟩, keep_of e4⟩, Z.m1, fnd_ok Z.d1 e1, isFn_of e4, Z.k1⟩
        · rw [e7, e8]
        · rw [e5]
          exact e6
        · rw [← el]
      · cases h1
    · cases h1
  · cases h1
theorem obs_split (O : obsH g = (valLs, true)) : fnLs g (caOf g) = valLs ∧ (clsL g (caOf g) ++ (fctL g (caOf g) ++ spcL g (caOf g))).all id = true := ⟨congrArg Prod.fst O, congrArg Prod.snd O⟩
theorem spc_of {c : Cas} (h : (clsL g c ++ (fctL g c ++ spcL g c)).all id = true) : (spcL g c).all id = true := by
  rw [List.all_append, List.all_append, Bool.and_eq_true, Bool.and_eq_true] at h
  exact h.2.2
theorem fre_mg {c : Cas} (X : (kOf g c).In h) (G : h.Ns mainGlobals mg) (Z : Fcs g c) (i : Nat) {x : Str} (e : freeL[i]? = some x := by rfl) : mg x = none :=
  PySem.W.mg_none_of X G (eqOV_ok (List.all_eq_true.mp Z.fr x (List.mem_of_getElem? e)))
abbrev adO (c : Cas) : Ad := ⟨c.cF, c.cC, c.cW⟩
theorem txt_ok (O : obsH g = (valLs, true)) (X : (kOf g (caOf g)).In h) (G : h.Ns mainGlobals mg) : Txt (kOf g (caOf g)) mg (adO (caOf g)) := by
  obtain ⟨h1, h2⟩ := obs_split O
  have S := sps_ok h1
  have GL := gl_ok h1
  have Z := fcs_ok h2
  have sp := spc_of h2
  generalize hc : caOf g = c at *
  have mt : ∀ {C ns : Addr} {m q : Str} {st : Stmt}, (ns, m) ∈ plc1 c → fnX g ns m q 0 = valF m q st → fndB g (kOf g c) C ns m = true → MtT (kOf g c) C m q st := fun hp e e2 => by
    obtain ⟨f, fd, od, osl, F, e3, lk, _⟩ := mt_ok hp e e2
    exact ⟨⟨f, fd, F, e3, isFn_of lk, keep_of lk⟩⟩
  have sl : ∀ {C ns : Addr} {m q : Str} {st : Stmt}, (ns, m) ∈ plc1 c → fnX g ns m q 0 = valF m q st → fndB g (kOf g c) C ns m = true → SlT (kOf g c) C m q st := fun hp e e2 => by
    obtain ⟨f, fd, od, osl, F, e3, lk, _⟩ := mt_ok hp e e2
    exact ⟨⟨f, fd, F, e3, isFn_of lk, fnIn_of lk⟩⟩
  exact {
    fn := fun p hp => by
      have hg : p ∈ glN := List.mem_append_left _ hp
      obtain ⟨f, fd, od, osl, F, e, _⟩ := gl_fn X G (plc_gl hg) (GL p hg)
      exact ⟨⟨f, fd, F, e⟩⟩
    g_BLANK := str_mg X G Z.b1
    g_MAX := int_mg X G Z.b2
    g_MOST := int_mg X G Z.b3
    g_SIGNS := str_mg X G Z.b4
    g_LEAST := int_mg X G Z.b5
    f_len := fre_mg X G Z 0
    f_all := fre_mg X G Z 1
    f_any := fre_mg X G Z 2
    f_min := fre_mg X G Z 3
    f_max := fre_mg X G Z 4
    f_sum := fre_mg X G Z 5
    f_list := fre_mg X G Z 6
    f_tuple := fre_mg X G Z 7
    f_dict := fre_mg X G Z 8
    f_int := fre_mg X G Z 9
    f_str := fre_mg X G Z 10
    f_bool := fre_mg X G Z 11
    f_repr := fre_mg X G Z 12
    f_abs := fre_mg X G Z 13
    f_sorted := fre_mg X G Z 14
    f_range := fre_mg X G Z 15
    f_enumerate := fre_mg X G Z 16
    f_zip := fre_mg X G Z 17
    f_isinstance := fre_mg X G Z 18
    f_super := fre_mg X G Z 19
    ss := ssF_ok X G S sp
    cF := cls_of Z.cF
    cC := cls_of Z.cC
    cW := cls_of Z.cW
    mF := font_mg X G Z.i1 (by rw [← hc]; rfl)
    nWord := eqOV_ok Z.n1
    nRanks := eqOV_ok Z.n2
    nHeads := eqOV_ok Z.n3
    nFontC := eqOV_ok Z.n4
    nStock := eqOV_ok Z.n5
    nFontW := eqOV_ok Z.n6
    nNumbers := eqOV_ok Z.n7
    m_asc := mt (plc_sp 7) S.fa Z.d5
    m_norm := mt (plc_sp 8) S.fn Z.d6
    m_seen := mt (plc_sp 9) S.fz Z.d7
    p_signs := pt_ok (plc_sp 6) S.fs Z.d4
    s_len := sl (plc_sp 5) S.fl Z.d3
    s_eq := sl (plc_sp 4) S.fe Z.d2
    neF := eqOV_ok Z.ne
    objF := of_decide_eq_true Z.ob
    isF := by
      unfold PySem.W.kitOne
      rw [if_pos (beq_self_eq_true _)]
    p_fontC := pt_ok (plc_sp 11) S.pf Z.d8
    p_plates := pt_ok (plc_sp 12) S.pp Z.d9
    m_bearing := mt (plc_sp 13) S.pb Z.d10
    p_fontW := pt_ok (plc_sp 17) S.wf Z.d14
    s_item := sl (plc_sp 16) S.wg Z.d13
    seqW := Z.sq
    i_wants := by
      obtain ⟨f, fd, od, osl, F, e3, lk, _⟩ := mt_ok (plc_sp 15) S.wi Z.d12
      exact ⟨⟨f, fd, F, Z.m3, e3, isFn_of lk, Z.k3⟩, font_mg X G Z.i3 (by rw [← hc]; rfl)⟩ }
end
end Hy
namespace Hy
open PySem PySem.Spec PyProof.Rows L2
theorem codeHd_congr {K K' : PySem.W.Frag} {a P : Addr} (h : K.lookup a = K'.lookup a) : PySem.W.codeHdIn K a P = PySem.W.codeHdIn K' a P := by
  unfold PySem.W.codeHdIn
  rw [h]
theorem isTab_ok {u : Option Obj} (h : isTab u = true) : u = some (PySem.W.tabObj #[]) := by
  unfold isTab at h
  split at h
  · rename_i vs sl
    obtain ⟨h1, h2⟩ := Bool.and_eq_true_iff.mp h
    have e1 : vs = #[] := by simpa using h1
    have e2 : sl = #[] := by simpa using h2
    subst e1 e2
    rfl
  · cases h
section
variable {g : Gt} {h : Heap} {mg : Str → Option Value}
/-- a def with a lambda: its code object and the table -/
structure TbO (K : PySem.W.Frag) (g : Gt) (mg : Str → Option Value) (x : Str) (st : Stmt) (f cd P : Addr) : Prop where
  fn : ∃ (oc : Value) (od : Option Addr) (kV doc pm ct : Value) (an : Option Addr) (osl : Array (Option Value)), K.lookup f = some ⟨oc, od, .func (PySem.W.fnOf x x (defArgs st) (defBody st) (defScope st) .none kV doc pm an (.ref cd) ct), osl⟩
  code : PySem.W.codeIn K (.ref cd) x = true
  keep : PySem.W.keepIn K (.ref f) = true
  at_ : mg x = some (.ref f)
  tab : (codA g x).bind (tabA g) = some P
  emp : isTab (g P) = true
  hd : PySem.W.codeHdIn K cd P = true
theorem tbO_ok {c : Cas} (X : (kOf g c).In h) (G : h.Ns mainGlobals mg) {x : Str} {st : Stmt} (hp : (mainGlobals, x) ∈ plc1 c) (e : fnX g mainGlobals x x 0 = valF x x st) (t : tabX g x = true) : ∃ f cd P, TbO (kOf g c) g mg x st f cd P := by
  obtain ⟨f, e1, e2⟩ := fnX_ok e
  obtain ⟨od, fd, osl, cd, e3, e4, e5, e6, hcd, e7, e8, _⟩ := fun_of e2 (mem_near hp (near_f e1)) fun b hb => mem_near hp (near_b e1 hb)
  obtain ⟨e9, e10⟩ := e8 rfl
  have ec : codA g x = some cd := by
    unfold codA
    rw [e1]
    dsimp only
    rw [e3]
    dsimp only
    rw [e5]
  unfold tabX at t
  rw [ec] at t
  dsimp only at t
  cases hP : tabA g cd with
  | none =>
    rw [hP] at t
    cases t
  | some P =>
    rw [hP] at t
    obtain ⟨t1, t2⟩ := Bool.and_eq_true_iff.mp t
    refine ⟨f, cd, P, ⟨.type "function", od, fd.kwdefaults, fd.doc, fd.pyModule, fd.closureTuple, fd.annotations, osl, ?_⟩, e6, keep_of e4, mg_of_adr X G e1, by rw [ec]; exact hP, t1, ?_⟩
    · rw [e4]
      have ef : fd = PySem.W.fnOf x x (defArgs st) (defBody st) (defScope st) .none fd.kwdefaults fd.doc fd.pyModule fd.annotations (.ref cd) fd.closureTuple := by
        rw [e9, e10, e5] at e7
        exact e7
      rw [← ef]
    · unfold kOf
      rw [codeHd_congr (lookup_same hcd)]
      exact t2
theorem tyF_ok {c : Cas} (Z : Fcs g c) {H : Hp} {a dx : Addr} {fs : List (Str × V)} (e : H a = some (.ins c.cF dx fs)) : TyOf (kOf g c) H (.ref a) (.ref c.cF) := by
  refine TyOf.ins e (cls_of Z.cF) (eqOV_ok Z.cl) ?_ ?_ (of_decide_eq_true Z.ob)
  · have e1 : PySem.W.typeIn (kOf g c) (.builtin "object.__class__") = some (.type "getset_descriptor") := (show PySem.W.pureOf (fastBuiltinType "object.__class__") = some (.type "getset_descriptor") by decide +kernel)
    unfold PySem.W.specialIn
    rw [e1]
    exact (show fastLookup "getset_descriptor" "__get__" = some (some (.builtin "getset_descriptor.__get__")) by decide +kernel)
  · have e1 : PySem.W.typeIn (kOf g c) (.builtin "object.__class__") = some (.type "getset_descriptor") := (show PySem.W.pureOf (fastBuiltinType "object.__class__") = some (.type "getset_descriptor") by decide +kernel)
    have e2 : ∃ v, PySem.W.findIn (kOf g c) (.type "getset_descriptor") "__set__" = some (some v) := ⟨.builtin "getset_descriptor.__set__", (show fastLookup "getset_descriptor" "__set__" = some (some (.builtin "getset_descriptor.__set__")) by decide +kernel)⟩
    obtain ⟨v, e2⟩ := e2
    unfold PySem.W.takesIn PySem.W.specialIn
    rw [e1]
    show (match PySem.W.findIn (kOf g c) (.type "getset_descriptor") "__set__" with
      | some (some val) => some true
      | some none => Option.map (fun x => x.isSome) (PySem.W.findIn (kOf g c) (.type "getset_descriptor") "__delete__")
      | none => none) = some true
    rw [e2]
theorem con_ok {c : Cas} (Z : Fcs g c) : ∃ u, Con (kOf g c) c.cF "MAX_SIGNS" (.int 10) u := by
  obtain ⟨t, e⟩ := Z.ms
  refine ⟨_, e, ⟨t, rfl⟩, ?_, by decide +kernel⟩
  have e1 : PySem.W.typeIn (kOf g c) (.int 10 t) = some (.type "int") := by
    unfold PySem.W.typeIn
    rfl
  unfold PySem.W.specialIn
  rw [e1]
  exact (show fastLookup "int" "__get__" = some none by decide +kernel)
/-- Case.__init__: what super() needs -/
theorem sup_ok {c : Cas} (S : Sps g c) (Z : Fcs g c) (sp : (spcL g c).all id = true) : ∃ f g0 gd, Fun (kOf g c) "__init__" "Pile.__init__" (inClass (top 70) 0) g0 gd ∧ Mk (kOf g c) c.cC f ∧
    SupK prg (kOf g c) c.cC c.cC f g0 "Case.__init__" (defArgs (inClass (top 71) 1)) (defBody (inClass (top 71) 1)) (defScope (inClass (top 71) 1)) ["self", "font", "plates"] "self" := by
  obtain ⟨f, e1, e2⟩ := fnX_ok S.ci
  have hp : (c.nC, ("__init__" : Str)) ∈ plc1 c := plc_sp 14
  obtain ⟨od, fd, osl, cd, e3, e4, e5, e6, hcd, e7, _, _⟩ := fun_of e2 (mem_near hp (near_f e1)) fun b hb => mem_near hp (near_b e1 hb)
  obtain ⟨g0, e8, e9⟩ := fnX_ok S.pi
  have hp2 : (c.nP, ("__init__" : Str)) ∈ plc1 c := plc_sp 10
  obtain ⟨gd, od2, osl2, F2, lk2⟩ := Fun_of e9 (mem_near hp2 (near_f e8)) fun b hb => mem_near hp2 (near_b e8 hb)
  obtain ⟨f2, u1, u2⟩ := Z.up
  rw [e8] at u2
  cases u2
  have h1 := all_at sp 6
  rw [e1] at h1
  dsimp only at h1
  rw [e3] at h1
  dsimp only at h1
  obtain ⟨h0, h1⟩ := Bool.and_eq_true_iff.mp h1
  obtain ⟨h2, h3⟩ := Bool.and_eq_true_iff.mp h1
  have hdT : ∃ T its n o v, fd.defaults = .ref T ∧ (kOf g c).lookup T = some o ∧ o.data = .seq its n ∧ its.toList = [v] := by
    split at h0
    · rename_i T eT
      split at h0
      · rename_i tc to its n tsl eo
        split at h0
        · rename_i v el
          have hT : T ∈ adrs g c := mem_near hp (near_b e1 (by rw [nearF_eq e3, eT]; exact List.mem_append_right _ (List.mem_append_left _ (List.mem_cons_self ..))))
          refine ⟨T, its, n, ⟨tc, to, .seq its n, tsl⟩, v, eT, ?_, rfl, el⟩
          unfold kOf
          rw [frg_eq hT, eo]
        · cases h0
      · cases h0
    · cases h0
  obtain ⟨T, its, n, oT, vT, eT, lT, dT, elT⟩ := hdT
  split at h2
  · rename_i z cc ecl
    obtain ⟨h4, h5⟩ := Bool.and_eq_true_iff.mp h2
    have hz : z = ("__class__" : Str) := eq_of_beq h4
    subst hz
    split at h5
    · rename_i ccl ccd D ccs eo
      have hD := of_decide_eq_true h5
      subst hD
      rw [e5] at h3
      dsimp only at h3
      split at h3
      · rename_i kcl kcd vs kcs ek
        split at h3
        · rename_i file tf ev
          have hcc : cc ∈ adrs g c := mem_near hp (near_b e1 (by rw [nearF_eq e3, ecl]; exact List.mem_append_right _ (List.mem_append_right _ (List.mem_append_right _ (List.mem_cons_self ..)))))
          have lcc : (kOf g c).lookup cc = some ⟨ccl, ccd, .cell (some (.ref c.cC)), ccs⟩ := by
            unfold kOf
            rw [frg_eq hcc, eo]
          have lcd : (kOf g c).lookup cd = some ⟨kcl, kcd, .fields vs, kcs⟩ := by
            unfold kOf
            rw [frg_eq hcd, ek]
          have hC := cls_of Z.cC
          have hcl : (PySem.W.clsIn (kOf g c) c.cC).isSome = true := by
            have h9 := hC.hd
            unfold PySem.W.hasDictIn at h9
            cases q : PySem.W.clsIn (kOf g c) c.cC with
            | none =>
              rw [q] at h9
              cases h9
            | some _ => rfl
          obtain ⟨cdD, hcdD⟩ := Option.isSome_iff_exists.mp hcl
          refine ⟨f, g0, gd, F2, ⟨Z.m2, fnd_ok Z.d11 e1, isFn_of e4, Z.k2⟩, ⟨.type "function", od, fd.defaults, fd.kwdefaults, fd.doc, fd.pyModule, fd.closureTuple, fd.annotations, osl, cd, cc, kcl, ccl, kcd, ccd, vs, kcs, ccs, file, tf, cdD, ?_, e6, lcd, ev, h3, lcc, hcdD, fun s us KX hl => ?_⟩, ⟨_, rfl, rfl⟩, of_decide_eq_true Z.mr, hcl, u1, typ_of lk2, fnIn_of lk2, eqOV_ok Z.st, by decide +kernel, by decide +kernel, by decide +kernel⟩
          · rw [e4]
            have ef : fd = PySem.W.ksFn "__init__" "Case.__init__" (defArgs (inClass (top 71) 1)) (defBody (inClass (top 71) 1)) (defScope (inClass (top 71) 1)) fd.defaults fd.kwdefaults fd.doc fd.pyModule fd.annotations (.ref cd) fd.closureTuple cc := by
              rw [ecl, e5] at e7
              exact e7
            rw [← ef]
          · rw [eT]
            match us, hl with
            | [u1, u2, u3], _ =>
              have e1 : ∃ k, bindArgs (PySem.W.ksFn "__init__" "Case.__init__" (defArgs (inClass (top 71) 1)) (defBody (inClass (top 71) 1)) (defScope (inClass (top 71) 1)) (.ref T) fd.kwdefaults fd.doc fd.pyModule fd.annotations (.ref cd) fd.closureTuple cc) ⟨[u1, u2, u3], []⟩ = seqItems? (.ref T) >>= k ∧ k (some #[vT]) = pure ((["self", "font", "plates"] : List Str).zip [u1, u2, u3]) := ⟨_, rfl, rfl⟩
              obtain ⟨k, e1, e2⟩ := e1
              refine BindsTo.of_looks fun M => ?_
              rw [e1]
              have ei : its = #[vT] := by
                have : its = its.toList.toArray := by simp
                rw [this, elT]
              rw [← ei] at e2
              exact looks_items KX lT dT (.of_pure e2)
        · cases h3
      · cases h3
    · cases h5
  · cases h2
end
end Hy
namespace Hy
open PySem PySem.Spec PyProof.Rows L2
section
variable {P : Program} {w : World} {K : PySem.W.Frag} {mg : Str → Option Value} {base : Heap}
/-- the body of a def, entered where one stands -/
theorem fn_at {k : Nat} {f : Addr} {name qual : Str} {params : Arguments} {body : List Stmt} {scope : Scope} {dV kV doc pm cdv ct oc : Value} {an od : Option Addr} {osl : Array (Option Value)} {N ps : List Str} {A : Around} {outer : List Env} {s0 : Shared} {H0 : Hp} {args : Args} {us : List Value} {vs : List V} {Qv : VK} {Ex : XK} {tr : TS}
    (lk : K.lookup f = some ⟨oc, od, .func (PySem.W.fnOf name qual params body scope dV kV doc pm an cdv ct), osl⟩) (hcode : PySem.W.codeIn K cdv qual = true) (Sc : FnScope N ps scope) (rm : Room (k + 1) A) (ev : Env0 P w K mg base A outer s0 H0)
    (bind : BindsTo s0 (PySem.W.fnOf name qual params body scope dV kV doc pm an cdv ct) args (ps.zip us)) (rel : Vals vs us) (len : vs.length = ps.length)
    (go : PSs (cxOf CX0 P w K mg base N qual scope f cdv A outer s0 H0 Ex) body tr) (read : tr { nx := fun _ H' => Qv .non H', rt := Qv } (L2.start N vs) H0) : codeAny (model P w) A (.call (.ref f) args) (CR CX0 outer P w H0 s0 Qv Ex) s0 := by
  have inK : K.In s0.heap := ev.mod.kin.keeps (fun b o z => (ev.bs b o z).1)
  have noLim : s0.heap.NoLimit := ev.mod.nolimit.keeps (fun b o z => (ev.bs b o z).1)
  have kinds : ∀ y ∈ ps.zip us, scope.names.lookup y.1 = some .local ∨ (scope.names.lookup y.1 = some .cell ∧ ((cellsFrom (s0.heap.objs.size + 1) scope.names []).lookup y.1).isSome = true) := by
    rintro ⟨m, u⟩ hm
    exact (Sc.par m (List.of_mem_zip hm).1).imp id fun z => ⟨z, PySem.W.cellsFrom_some _ _ _ (.inl z)⟩
  have depth := rm.depth
  have recd := PySem.W.codeRec_of inK hcode
  refine codeAny_call_function depth (inK f _ lk) rfl Sc.co Sc.gen rfl recd (bind _ _ _ _ ?_)
  refine wpAny_newFunctionEnv_cells Sc.kind kinds (fun env he s1 x => ?_)
  subst he
  refine And.intro (noLim.keeps x.toInCall.keep) (codeAny_func ?_)
  have inv := inv_start (CX := CX0) (E := Ex) Sc rm.hd ev len rel x
  have out := go.run [] s1 (L2.start N vs) H0 _ inv read
  refine wpAny_mono out (fun fl s' z => ?_) (fun _ _ z => z)
  match fl, z with
  | .ret u, z =>
    obtain ⟨y, _, H9, J9, r9, q9⟩ := z
    exact ⟨y, H9, J9.os, J9.bare, J9.base, J9.hok, r9, q9⟩
  | .next, z =>
    obtain ⟨_, H9, J9, q9⟩ := z
    exact ⟨V.non, H9, J9.os, J9.bare, J9.base, J9.hok, rfl, q9⟩
  | .brk, z =>
    obtain ⟨_, _, _, q9⟩ := z
    exact q9.elim
  | .cont, z =>
    obtain ⟨_, _, _, q9⟩ := z
    exact q9.elim
/-- what is tracked when the law starts: the tables, the script where K does not hold it -/
def lawH (K : PySem.W.Frag) (T : List Addr) (a : Addr) (ob : Obj) (xs : List V) : Hp := fun b => if b ∈ T then some (.tbl #[]) else if b = a ∧ K.lookup a = none then some (.frz ob (.lst xs)) else none
/-- the law's end, run at the caller alone -/
theorem law_go {mb : Str → Option Value} {fa a : Addr} {cs : List (Addr × Addr)} {s1 : Shared} {vs : List Value} {ns : List Int}
    (KX : K.In s1.heap) (nsM : s1.heap.Ns mainGlobals mg) (nsB : s1.heap.Ns builtinsNs mb) (bts : ∀ x : Str, x ≠ "__name__" → mb x = bootBuiltins x) (lim : s1.heap.NoLimit) (gn : s1.gens = #[])
    (tabs : ∀ p ∈ cs, s1.heap.get? p.2 = some (PySem.W.tabObj #[])) (out : ∀ p ∈ cs, K.lookup p.2 = none) (hds : ∀ p ∈ cs, PySem.W.CodeHd s1.heap p.1 p.2)
    (bmod : ∃ (m : Addr) (om : Obj), mg "__builtins__" = some (.ref m) ∧ m ≠ builtinsNs ∧ s1.heap.get? m = some om ∧ om.cls = .type "module" ∧ om.dict = some builtinsNs ∧ om.data = .plain)
    (lst : s1.heap.get? a = some { cls := .type "list", data := .seq vs.toArray }) (intsA : IntsAre vs ns) (few : ns.length ≤ sizeLine)
    (run : ∀ (base : Heap) (H : Hp), K.In base → base.Ns mainGlobals mg → (∀ p ∈ cs, LamX.TabB base mg p.1 p.2) → Env0 P w K mg base callerA [] s1 H → (∀ p ∈ cs, H p.2 = some (.tbl #[])) → SqL K H a (ns.map V.int) →
      codeAny (model P w) callerA (.call (.ref fa) ⟨[.ref a], []⟩) (CR CX0 [] P w H s1 (fun v _ => v = .bl true) fun _ _ _ => False) s1) :
    codeAny (model P w) callerA (.call (.ref fa) ⟨[.ref a], []⟩) (fun r z => r = .ok (.ret (.bool true)) ∧ OldK s1.heap z.heap ∧ z.os = s1.os ∧ AllBare z.gens) s1 := by
  have rv := vals_ints intsA
  have inT : ∀ {b : Addr}, b ∈ cs.map (·.2) → ∃ p ∈ cs, p.2 = b := fun hb => List.mem_map.mp hb
  have tob : ∀ {b : Addr}, b ∈ cs.map (·.2) → s1.heap.get? b = some (PySem.W.tabObj #[]) := fun hb => by
    obtain ⟨p, hp, rfl⟩ := inT hb
    exact tabs p hp
  have aT : a ∉ cs.map (·.2) := fun z => by
    have y := (tob z).symm.trans lst
    have y2 := congrArg Obj.cls (Option.some.inj y)
    cases y2
  have Hdef : lawH K (cs.map (·.2)) a { cls := .type "list", data := .seq vs.toArray } (ns.map V.int) = lawH K (cs.map (·.2)) a { cls := .type "list", data := .seq vs.toArray } (ns.map V.int) := rfl
  generalize hH : lawH K (cs.map (·.2)) a { cls := .type "list", data := .seq vs.toArray } (ns.map V.int) = H at Hdef
  have ht : ∀ {b : Addr}, b ∈ cs.map (·.2) → H b = some (.tbl #[]) := fun hb => by
    rw [← hH]
    exact if_pos hb
  have hthree : ∀ b, H b = none ∨ b ∈ cs.map (·.2) ∨ (b = a ∧ K.lookup a = none ∧ H b = some (.frz { cls := .type "list", data := .seq vs.toArray } (.lst (ns.map V.int)))) := fun b => by
    by_cases h1 : b ∈ cs.map (·.2)
    · exact .inr (.inl h1)
    · by_cases h2 : b = a ∧ K.lookup a = none
      · refine .inr (.inr ⟨h2.1, h2.2, ?_⟩)
        rw [← hH]
        exact (if_neg h1).trans (if_pos h2)
      · left
        rw [← hH]
        exact (if_neg h1).trans (if_neg h2)
  have untracked : ∀ {b : Addr} {o : Obj}, s1.heap.get? b = some o → o ≠ PySem.W.tabObj #[] → o ≠ { cls := .type "list", data := .seq vs.toArray } → H b = none := fun {b o} e n1 n2 => by
    rcases hthree b with h1 | h1 | ⟨rfl, _, _⟩
    · exact h1
    · exact absurd (Option.some.inj ((tob h1).symm.trans e)).symm n1
    · exact absurd (Option.some.inj (lst.symm.trans e)).symm n2
  have dictFree : ∀ {b : Addr} {o : Obj} {es : Array DictEntry} {ep : Nat}, s1.heap.get? b = some o → o.data = .dict es ep → H b = none := fun e d => by
    refine untracked e (fun z => ?_) (fun z => ?_)
    · rw [z] at d
      cases d
    · rw [z] at d
      cases d
  have nsUp : ∀ {b : Addr} {m : Str → Option Value}, s1.heap.Ns b m → (hidT s1.heap H).Ns b m := by
    rintro b m ⟨o, es, ep, e, d, r⟩
    exact ⟨o, es, ep, hidT_get e (dictFree e d), d, r⟩
  have KB : K.In (hidT s1.heap H) := fun b o e => by
    refine hidT_get (KX b o e) ?_
    rcases hthree b with h1 | h1 | ⟨rfl, h2, _⟩
    · exact h1
    · obtain ⟨p, hp, rfl⟩ := inT h1
      rw [out p hp] at e
      cases e
    · rw [h2] at e
      cases e
  have MB : L2.Mod K mg (hidT s1.heap H) := by
    obtain ⟨mc, y1, y2⟩ := lim
    exact ⟨KB, nsUp nsM, ⟨mb, nsUp nsB, bts⟩, ⟨mc, nsUp y1, y2⟩⟩
  have TBs : ∀ p ∈ cs, LamX.TabB (hidT s1.heap H) mg p.1 p.2 := fun p hp => by
    refine LamX.TabB.mk ?_ ?_ (fun z => ?_)
    · obtain ⟨oc, us, fl, tf, gs, tg, bf, tx, tt, y1, y2, y3, y4, ys⟩ := hds p hp
      refine ⟨oc, us, fl, tf, gs, tg, bf, tx, tt, hidT_get y1 (untracked y1 (fun z => ?_) (fun z => ?_)), y2, y3, y4, ys⟩
      · rw [z] at y2
        cases y2
      · rw [z] at y2
        exact absurd (Value.type.inj y2) (by decide)
    · obtain ⟨m, om, y1, y2, y3, y4, y5, y6⟩ := bmod
      have nm : m ≠ mainGlobals := fun z => by
        obtain ⟨o, es, ep, e, d, _⟩ := nsM
        have := Option.some.inj ((z ▸ y3).symm.trans e)
        rw [← this, y6] at d
        cases d
      have nt : m ≠ p.2 := fun z => by
        have := Option.some.inj ((z ▸ y3).symm.trans (tabs p hp))
        rw [this] at y6
        cases y6
      have fr : H m = none := untracked y3 (fun z => by rw [z] at y6; cases y6) (fun z => by rw [z] at y6; cases y6)
      exact ⟨m, om, y1, y2, nm, nt, hidT_get y3 fr, y4, y5, y6⟩
    · obtain ⟨o, es, ep, e, d, _⟩ := nsM
      have := Option.some.inj ((z ▸ e).symm.trans (tabs p hp))
      rw [this] at d
      cases d
  have okH : HOk P w H s1.heap := fun b u hb => by
    rcases hthree b with h1 | h1 | ⟨rfl, _, h2⟩
    · rw [h1] at hb
      cases hb
    · rw [ht h1] at hb
      cases hb
      exact tob h1
    · rw [h2] at hb
      cases hb
      exact And.intro lst (And.intro (by rw [List.length_map]; exact few) ⟨vs, _, rv, lst⟩)
  have seqA : SqL K H a (ns.map V.int) := by
    cases hk : K.lookup a with
    | none =>
      rcases hthree a with h1 | h1 | ⟨_, _, h2⟩
      · exfalso
        rw [← hH] at h1
        have h9 : lawH K (cs.map (·.2)) a { cls := .type "list", data := .seq vs.toArray } (ns.map V.int) a = some (.frz { cls := .type "list", data := .seq vs.toArray } (.lst (ns.map V.int))) := (if_neg aT).trans (if_pos ⟨rfl, hk⟩)
        rw [h9] at h1
        cases h1
      · exact absurd h1 aT
      · exact .inl (.inr ⟨_, h2⟩)
    | some o =>
      have y := Option.some.inj ((KX a o hk).symm.trans lst)
      subst y
      exact .inr ⟨_, vs.toArray, _, hk, rfl, rfl, rfl, by rw [List.size_toArray, intsA.length]; exact few, by simpa using rv⟩
  have env : Env0 P w K mg (hidT s1.heap H) callerA [] s1 H :=
    { frames := rfl, mod := MB, bs := fun _ _ e => of_hidT e, bsz := Nat.le_of_eq (hidT_size s1.heap H), funs := trivial, frf := fun b hb => (by cases hb), hok := okH, bare := .of_eq gn }
  refine codeAny_mono (run _ H KB (nsUp nsM) TBs env (fun p hp => ht (List.mem_map.mpr ⟨p, hp, rfl⟩)) seqA) fun r z hr => ?_
  match r, hr with
  | .ok (.ret u), hr =>
    obtain ⟨v, H9, os9, bare9, un9, ok9, rel9, q9⟩ := hr
    have q9 : v = .bl true := q9
    subst q9
    have rel9 : u = Value.bool true := rel9
    subst rel9
    have stays : ∀ b o, b ∉ cs.map (·.2) → s1.heap.get? b = some o → z.heap.get? b = some o := fun b o nb e => by
      rcases hthree b with h1 | h1 | ⟨rfl, _, h2⟩
      · exact un9.keep b o e h1 (fun y => by cases y) (fun y => by cases y)
      · exact absurd h1 nb
      · have y1 := ok9 _ _ (un9.frzs _ _ _ h2)
        have y2 : z.heap.get? b = some { cls := .type "list", data := .seq vs.toArray } := y1.1
        rw [y2, ← lst, e]
    have grew : ∀ {b : Addr}, b ∈ cs.map (·.2) → ∃ more : Array Value, z.heap.get? b = some { cls := .none, data := .fields more } := fun {b} hb => by
      obtain ⟨more, y⟩ := un9.tbls b #[] (ht hb)
      exact ⟨_, ok9 b _ y⟩
    refine ⟨rfl, { old := fun b o e => ?_, there := fun b o e => ?_ }, os9, bare9⟩
    · by_cases hb : b ∈ cs.map (·.2)
      · obtain ⟨more, y⟩ := grew hb
        have eo := Option.some.inj ((tob hb).symm.trans e)
        subst eo
        obtain ⟨p, hp, rfl⟩ := inT hb
        refine .inr (.inl ⟨?_, rfl, #[], more, rfl, ?_⟩)
        · exact ((hds p hp).tab (tabs p hp)).isCodeTable
        · rw [Array.empty_append]
          exact y
      · exact .inl (stays b o hb e)
    · by_cases hb : b ∈ cs.map (·.2)
      · obtain ⟨more, y⟩ := grew hb
        exact ⟨_, y⟩
      · exact ⟨o, stays b o hb e⟩
  | .ok .next, hr => exact hr.elim
  | .ok .brk, hr => exact hr.elim
  | .ok .cont, hr => exact hr.elim
  | .error e, hr => exact False.elim hr
end
end Hy
namespace Hy
open PySem PySem.Spec PyProof.Rows L2
/-- the law's def, run at the caller: it gives True -/
theorem law_runs {w : World} {g : Gt} {h base : Heap} {mg : Str → Option Value} {s1 : Shared} {H : Hp} {fa a : Addr} {L : List Int} {fO cO PO fS cS PS' : Addr} (O : obsH g = (valLs, true)) (X : (kOf g (caOf g)).In h) (Gn : h.Ns mainGlobals mg) (hl : mg ("law" : Str) = some (.ref fa))
    (T1 : TbO (kOf g (caOf g)) g mg "ordered" (top 68) fO cO PO) (T2 : TbO (kOf g (caOf g)) g mg "_law_sets" (top 100) fS cS PS') (B1 : LamX.TabB base mg cO PO) (B2 : LamX.TabB base mg cS PS') (ev : Env0 prg w (kOf g (caOf g)) mg base callerA [] s1 H)
    (t1 : H PO = some (.tbl #[])) (t2 : H PS' = some (.tbl #[])) (seq : SqL (kOf g (caOf g)) H a (L.map V.int)) :
    codeAny (model prg w) callerA (.call (.ref fa) ⟨[.ref a], []⟩) (CR CX0 [] prg w H s1 (fun v _ => v = .bl true) fun _ _ _ => False) s1 := by
  have T := txt_ok O X Gn
  obtain ⟨h1, h2⟩ := obs_split O
  have S := sps_ok h1
  have GL := gl_ok h1
  have Z := fcs_ok h2
  have sp := spc_of h2
  have i2 : mg ("Case" : Str) = some (.ref (caOf g).cC) := font_mg X Gn Z.i2 rfl
  generalize caOf g = c at *
  have hne : PO ≠ PS' := fun e => Z.df (by rw [T1.tab, T2.tab, e])
  let G : List (Addr × Str) := [(PO, "ordered.<locals>.<lambda>"), (PS', "_law_sets.<locals>.<lambda>")]
  have hT : LamX.Tabs G H := by
    intro q hq
    rcases List.mem_cons.mp hq with rfl | hq
    · exact LamX.TabS.nil t1
    · have : q = (PS', ("_law_sets.<locals>.<lambda>" : Str)) := by simpa using hq
      subst this
      exact LamX.TabS.nil t2
  have g1 : ∀ q ∈ G, q.1 = PO → q.2 = ("ordered.<locals>.<lambda>" : Str) := fun q hq e => by
    rcases List.mem_cons.mp hq with rfl | hq
    · rfl
    · have : q = (PS', ("_law_sets.<locals>.<lambda>" : Str)) := by simpa using hq
      subst this
      exact absurd e.symm hne
  have g2 : ∀ q ∈ G, q.1 = PS' → q.2 = ("_law_sets.<locals>.<lambda>" : Str) := fun q hq e => by
    rcases List.mem_cons.mp hq with rfl | hq
    · exact absurd e hne
    · have : q = (PS', ("_law_sets.<locals>.<lambda>" : Str)) := by simpa using hq
      subst this
      rfl
  have x_is_integer := d_is_integer (P := prg) (w := w) (base := base) T
  have x_is_between := d_is_between T x_is_integer
  have x_is_list := d_is_list (P := prg) (w := w) (base := base) T
  have x_is_tuple_of := d_is_tuple_of (P := prg) (w := w) (base := base) T
  have x_signs := d_Font_signs (P := prg) (w := w) (base := base) T
  have x_len := d_Font_len (P := prg) (w := w) (base := base) T
  have x_nsets := d_number_of_sets T x_len
  have x_asc := d_Font_ascending (P := prg) (w := w) (base := base) (G := G) T
  have x_set_of := d_set_of (G := G) T x_signs
  have x_mask_of := d_mask_of (P := prg) (w := w) (base := base) (G := G) T
  have x_is_sign := d_is_sign (P := prg) (w := w) (base := base) T
  have x_need_sign := d_need_sign T x_is_sign
  have x_is_row := d_is_row (P := prg) (w := w) (base := base) (G := G) T
  have x_is_kind := d_is_kind (P := prg) (w := w) (base := base) (G := G) T
  have x_need_signs := d_need_signs T x_is_row x_asc
  have x_normal := d_Font_normal (P := prg) (w := w) (base := base) T
  have x_seen := d_Font_seen T x_asc
  have x_places := d_places_of (P := prg) (w := w) (base := base) (G := G) T
  have x_order := d_set_order T x_places
  have x_masks := d_all_masks T x_nsets x_order
  have x_ssKw := d_ssKw (P := prg) (w := w) (base := base) (G := G) T
  have x_ss := d_subset_sums (P := prg) (w := w) (base := base) (G := G) T
  have x_fontC := d_Pile_font (P := prg) (w := w) (base := base) T
  have x_fontW := d_Wants_font (P := prg) (w := w) (base := base) T
  have x_plates := d_Pile_plates (P := prg) (w := w) (base := base) (G := G) T
  have x_item := d_Wants_getitem T x_need_sign
  have x_bear := d_bearings_of T x_nsets x_ss
  have x_wants := d_wants_by_mask T x_nsets x_ss
  have x_stock := d_stock_of T x_fontC x_plates x_seen x_mask_of
  have x_amounts := d_amounts_of (G := G) T x_fontW x_signs x_item
  have x_slacks := d_slacks T x_bear x_wants
  have x_slacks_of := d_slacks_of T x_fontC x_stock x_amounts x_slacks
  have x_eq := d_Font_eq (P := prg) (w := w) (base := base) T (fun e => tyF_ok Z e)
  have x_one := d_need_one_font (G := G) T (by
    obtain ⟨f, fd, od, osl, F, e, _⟩ := gl_fn X Gn (plc_gl (p := ("need_one_font", 32)) (List.mem_append_right _ (List.mem_cons_self ..))) (GL ("need_one_font", 32) (List.mem_append_right _ (List.mem_cons_self ..)))
    exact ⟨⟨f, fd, F, e⟩⟩) x_fontC x_fontW x_eq
  have x_exact := d_exact T x_fontC x_nsets x_stock x_masks x_set_of
  have x_alike := d_alike T x_fontC x_one x_stock x_bear x_masks x_set_of
  have x_exact_of := d_exact_of T x_masks x_nsets x_set_of x_is_between x_signs x_ssKw
  have x_meets := d_meets T x_seen
  have x_bearing := d_Pile_bearing T x_need_signs x_meets
  have x_least := d_least_worst (P := prg) (w := w) (base := base) (G := G) T
  have x_great := d_greatest_worst (P := prg) (w := w) (base := base) (G := G) T
  have x_hangs := d_hangs T x_one x_slacks_of
  have x_short := d_shortage T x_one x_slacks_of x_fontC x_least x_great x_set_of
  have x_base := d_base_of T x_one x_slacks_of x_fontC x_stock x_bear x_amounts x_wants
  have x_copies := d_copies T (cp_ok X Gn S sp) x_base x_fontC x_set_of
  have x_kind_key := d_kind_key (G := G) T x_len
  have x_font_text := d_is_font_text (P := prg) (w := w) (base := base) (G := G) T
  have x_are_counts := d_are_counts (G := G) T x_is_sign x_is_integer
  have x_wi := d_Wants_init T x_are_counts x_signs
  have x_are_turns := d_are_turns (G := G) T x_is_list x_is_tuple_of
  have x_fi := d_Font_init T (fi_ok S Z sp) (con_ok Z) x_font_text x_are_turns
  have x_ordered := d_ordered T (by
    obtain ⟨oc, od, kV, doc, pm, ct, an, osl, lk⟩ := T1.fn
    exact ⟨fO, cO, PO, oc, od, kV, doc, pm, ct, an, osl, lk, T1.code, T1.keep, T1.at_, B1, List.mem_cons_self .., g1⟩) x_kind_key
  have x_checked := d_checked_counts T x_is_list x_is_tuple_of x_is_kind x_is_between x_normal x_ordered
  obtain ⟨fC, gP, gd, FP, MC, SC⟩ := sup_ok S Z sp
  have x_ci := d_Case_init T FP MC i2 SC x_ordered x_checked
  have y_draw := d_law_draw (P := prg) (w := w) (base := base) (G := G) T
  have y_pick := d_law_pick T y_draw
  have y_shuf := d_law_shuffled T y_draw
  have y_font := d_law_font T y_draw y_shuf
  have y_turns := d_law_turns T y_pick y_shuf
  have y_shows := d_law_shows (P := prg) (w := w) (base := base) (G := G) T
  have y_kinds := d_law_kinds (P := prg) (w := w) (base := base) (G := G) T
  have y_mfont := d_law_made_font T x_fi y_turns
  have y_stock := d_law_stock T y_draw y_kinds y_pick y_shuf
  have y_mcase := d_law_made_case T x_ci y_pick y_shuf
  have y_mwants := d_law_made_wants T x_wi y_draw y_shuf
  have y_planned := d_law_planned T y_draw y_pick y_shows y_shuf
  have y_shown := d_law_shown (P := prg) (w := w) (base := base) (G := G) T
  have y_need := d_law_need T y_draw y_planned y_shown y_shuf
  have y_exch := d_law_exchanged T y_draw y_kinds y_pick y_shows
  have y_filled := d_law_filled T y_pick y_shows
  have y_sets := d_law_sets (P := prg) (w := w) (base := base) T (by
    obtain ⟨oc, od, kV, doc, pm, ct, an, osl, lk⟩ := T2.fn
    exact ⟨fS, cS, PS', oc, od, kV, doc, pm, ct, an, osl, lk, T2.code, T2.keep, T2.at_, B2, List.mem_cons_of_mem _ (List.mem_cons_self ..), g2⟩)
  have y_pen := d_law_pen (P := prg) (w := w) (base := base) (G := G) T
  obtain ⟨f, e1, e2⟩ := fnX_ok S.lw
  have hp : (mainGlobals, ("law" : Str)) ∈ plc1 c := plc_sp 2
  have hfa : fa = f := by
    have := hl.symm.trans (mg_of_adr X Gn e1)
    cases this
    rfl
  subst hfa
  obtain ⟨fd, od, osl, F, lk⟩ := Fun_of e2 (mem_near hp (near_f e1)) fun b hb => mem_near hp (near_b e1 hb)
  obtain ⟨oc, od', kV, doc, pm, an, cdv, ct, osl', rfl, lk', hcd⟩ := F.ex
  have rm : Room 14 callerA := ⟨rfl, by decide, by decide⟩
  obtain ⟨t, go, read⟩ := law_walk (f := fa) (cdv := cdv) (A := callerA) (outer := []) (s := s1) (Q := fun v _ => v = .bl true) (E := fun _ _ _ => False) T x_bearing y_exch y_filled y_font y_mcase y_mfont y_mwants y_need y_pen y_sets y_stock x_alike x_copies x_exact x_exact_of x_hangs x_short rfl (rm.deeper _) seq hT (fun _ => rfl)
  refine fn_at (k := 13) (ps := ["_law_script"]) (vs := [.ref a]) (us := [.ref a]) lk' hcd sc_law rm ev ?_ (.cons rfl .nil) rfl go.nox read
  have B := Binds.all (K := kOf g c) (fd := PySem.W.fnOf "law" "law" (defArgs (top 103)) (defBody (top 103)) (defScope (top 103)) .none kV doc pm an cdv ct) (ps := ["_law_script"]) fun us hl => match us, hl with | [_], _ => rfl
  have KX : (kOf g c).In s1.heap := ev.mod.kin.keeps (fun b o z => (ev.bs b o z).1)
  exact B s1 [.ref a] KX rfl
end Hy
set_option maxHeartbeats 0
namespace Hy
open PySem PySem.Spec PyProof.Rows L2
theorem run_all (w : World) : HandSHeadRun.RunEq R (PySem.W.view R.prog [103]) hkH obT 9500 names w := by
  intro os
  obtain ⟨s, hs, h1⟩ := Option.map_eq_some_iff.mp (run_f w os)
  have h2 := run_l w os
  have h3 := run_s w os
  rw [hs, Option.map_some] at h2 h3
  have h2 := Option.some.inj h2
  have h3 := Option.some.inj h3
  have hs : HandSHeadRun.endF (HandSHeadRun.stepQ (HandSHeadRun.denQ HandSHeadRun.tabQ) R.prog w) 9500 R.prog w os = some s := hs
  rw [withC_eq] at h1
  rw [hs, Option.map_some]
  exact congrArg some (Prod.ext h2 (Prod.ext h3 h1))
end Hy
open PySem PySem.W PySem.Calls PyProof.Rows
theorem PySem.Challenge.cw_hymnplates_k44_whole_alike_cases_serve_a_holds : PySem.Challenge.rw_hymnplates_k44_whole_alike_cases_serve_a.Holds := by
  refine Hy.by_row fun said => ?_
  refine HandSHeadRun.head_any (r := Hy.R) (q := Hy.vw) (H := Hy.hkH) (ob := Hy.obT) (M := 9500) (loose := Hy.names) (d := Hy.dLw) (kwd := []) Hy.obT_eq Hy.hd1 Hy.hd2 Hy.run_all Hy.hd3 Hy.hd4 Hy.hd5 Hy.hd6 said Hy.hd8 Hy.hd9 Hy.hd10 ?hc
  case hc =>
    refine Att.attach_callB (l := PySem.Challenge.rw_hymnplates_k44_whole_alike_cases_serve_a) (n := 63) rfl (by kernel_rfl) fun w s0 s1 mg mb fa o pm cd doc a vs ns Gr Y ho hd hcd hmg hobj hints hlen hbits hg => ?_
    obtain ⟨h0, ext, O⟩ := Y
    have X0 : (Hy.kOf h0.get? (Hy.caOf h0.get?)).In h0 := Hy.frg_in
    have X : (Hy.kOf h0.get? (Hy.caOf h0.get?)).In s1.heap := fun b ob e => ext b ob (X0 b ob e)
    have hmg1 : mg ("law" : PySem.Str) = some (.ref fa) := by
      have e : (HandSHeadRun.topDef (OpenLaw.row PySem.Challenge.rw_hymnplates_k44_whole_alike_cases_serve_a).prog 103).name = ("law" : PySem.Str) := by kernel_rfl
      rw [← e]
      exact hmg
    obtain ⟨h1, h2⟩ := Hy.obs_split O
    have GL := Hy.gl_ok h1
    have Z := Hy.fcs_ok h2
    have m1 : (("ordered" : PySem.Str), 68) ∈ Hy.glN := by decide +kernel
    have m2 : (("_law_sets" : PySem.Str), 100) ∈ Hy.glN := by decide +kernel
    obtain ⟨fO, cO, PO, T1⟩ := Hy.tbO_ok X Gr.T.g (Hy.plc_gl m1) (GL _ m1) Z.t1
    obtain ⟨fS, cS, PS, T2⟩ := Hy.tbO_ok X Gr.T.g (Hy.plc_gl m2) (GL _ m2) Z.t2
    refine Hy.law_go (K := Hy.kOf h0.get? (Hy.caOf h0.get?)) (cs := [(cO, PO), (cS, PS)]) X Gr.T.g Gr.T.b Gr.T.builtins Gr.T.nolimit hg (fun p hp => ?_) (fun p hp => ?_) (fun p hp => ?_) Gr.T.bmain hobj hints (Nat.le_trans hlen (by decide)) (fun base H KB nsB TBs ev ht seq => ?_)
    · rcases List.mem_cons.mp hp with rfl | hp
      · exact ext _ _ (Hy.isTab_ok T1.emp)
      · have : p = (cS, PS) := by simpa using hp
        subst this
        exact ext _ _ (Hy.isTab_ok T2.emp)
    · rcases List.mem_cons.mp hp with rfl | hp
      · exact Hy.frg_tab T1.emp
      · have : p = (cS, PS) := by simpa using hp
        subst this
        exact Hy.frg_tab T2.emp
    · rcases List.mem_cons.mp hp with rfl | hp
      · exact codeHd_of_K X T1.hd
      · have : p = (cS, PS) := by simpa using hp
        subst this
        exact codeHd_of_K X T2.hd
    · exact Hy.law_runs O X Gr.T.g hmg1 T1 T2 (TBs (cO, PO) (List.mem_cons_self ..)) (TBs (cS, PS) (List.mem_cons_of_mem _ (List.mem_cons_self ..))) ev (ht (cO, PO) (List.mem_cons_self ..)) (ht (cS, PS) (List.mem_cons_of_mem _ (List.mem_cons_self ..))) seq
